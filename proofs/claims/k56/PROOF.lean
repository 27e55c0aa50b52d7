import PyProof.Rows.All
import Wide.All
import OpenK.AllK
import Wide.FinOn
import PySem.Challenge.RW_servedall_k56_whole_middles_and_centres
import HandS.ForMost
import HandS.IsInst
import HandS.Lambda
import HandS.Set
import HandS.TupSets
import HandS.TupAny
import HandS.SetFor
import HandS.SetKeys
import KE.SortData
import HandS.Deep
import HandS.RaiseMore
import HandS.WordsExc
import KE.KNestM
import HandS.EndTab
import HandS.Zip
import HandS.Iter
import PyProof.WalksMore
import HandS.Wide
import KE.DataMinKey
import HandS.TupLe
import HandS.SortKw
import KE.GoesMore
import HandS.Style
import PyProof.EnumMake
import PyProof.Draws
import KE.KRevSl
import HandS.Strs
import KE.KExcSuper
import HandS.ExcSuper
import HandS.TryMany
import HandS.TryOnly
import HandS.ExcOwn
import HandS.Codes
import HandS.ExcIs
import HandS.Gcd
import HandS.DictComp
import KE.DataMinMax
import HandS.Text
import KE.KIndexOf
import HandS.Zip0
import KE.KDictZip
import KE.GoesEnum
import KE.GoesZip
import PyProof.ReprBulk
import PyProof.ListStr
set_option Elab.async false
set_option linter.all false
set_option maxRecDepth 100000
/-! FL0: sets of keys and of tuples of keys, as the heap has them -/
namespace FL
open PySem PySem.Spec PyProof.Rows L2
/-- an entry's key -/
def kOf (e : Int × Value) : Key := match e.2 with
  | .int i _ => .inl i
  | .str x _ => .inr x
  | _ => .inl 0
def GoodK (P : Program) (w : World) (e : Int × Value) : Prop := ∃ k, (mixKind P w).is k e.2 = true ∧ e.1 = (mixKind P w).hash k
/-- at a: the set of the keys ks, in its table's order -/
def SetK1 (P : Program) (w : World) (h : Heap) (a : Addr) (ks : List Key) : Prop :=
  ∃ o es ep t, h.get? a = some o ∧ o.ExactSet ∧ o.data = .set es ep t ∧ (∀ e ∈ es.toList, GoodK P w e) ∧ ks = es.toList.map kOf ∧ ks.Nodup ∧ es.size < scanBound ∧ t.fits es.size = true ∧ Ris t.place.toList ∧ (w.params.followText "set-order" = true ∨ t.led = true)
abbrev tKind (P : Program) (w : World) : HeapKind P w (List Key) := tupleKind (mixKind P w)
/-- .. of keys that are among ks, all of them -/
def SetKM (P : Program) (w : World) (h : Heap) (a : Addr) (ks : List Key) : Prop := ∃ ks', SetK1 P w h a ks' ∧ ∀ j, j ∈ ks' ↔ j ∈ ks
/-- at a: the set of the tuples L, each with its address, in its table's order -/
def SetT1 (P : Program) (w : World) (h : Heap) (a : Addr) (L : List (Addr × List Key)) : Prop :=
  ∃ o es ep t, h.get? a = some o ∧ o.ExactSet ∧ o.data = .set es ep t ∧ es.toList = L.map (fun p => ((tKind P w).hash p.2, Value.ref p.1)) ∧ TabOk t (L.map fun p => (tKind P w).hash p.2) ∧ (L.map (·.2)).Nodup ∧
    t.plain = true ∧ (w.params.followText "set-order" = true ∨ t.led = true) ∧ L.length * 5 < t.mask * 3 ∧ L.length < 64
def SetTM (P : Program) (w : World) (h : Heap) (a : Addr) (L : List (Addr × List Key)) : Prop := ∃ L', SetT1 P w h a L' ∧ (∀ p ∈ L', p ∈ L) ∧ ∀ p ∈ L, p.2 ∈ L'.map (·.2)
/-- the tuple at a is told whole: it has no dict -/
def StrongT (K : PySem.W.Frag) (F : Hp) (a : Addr) (vs : List V) : Prop := (∃ o, F a = some (.frz o (.tup vs)) ∧ o.dict = none) ∨ ∃ o, K.lookup a = some o ∧ o.dict = none
theorem StrongT.of {K : PySem.W.Frag} {F : Hp} {a : Addr} {vs : List V} {o : Obj} (h : F a = some (.frz o (.tup vs))) (d : o.dict = none) : StrongT K F a vs := .inl ⟨o, h, d⟩
theorem StrongT.mono {K : PySem.W.Frag} {F F' : Hp} {a : Addr} {vs : List V} (s : Same F F') (h : StrongT K F a vs) : StrongT K F' a vs := h.imp (fun ⟨o, e, d⟩ => ⟨o, s _ _ e, d⟩) id
theorem sqt_frz {K : PySem.W.Frag} {F : Hp} {a : Addr} {vs : List V} {o : Obj} (h : F a = some (.frz o (.tup vs))) : SqT K F a vs := .inl (.inr ⟨o, h⟩)
abbrev tupOb (us : List Value) : Obj := { cls := .type "tuple", data := .seq us.toArray }
section
variable {X : Cx} {K : PySem.W.Frag} {es : List Expr} {t : TA} {pos : Pos}
theorem Inv.laidT {pins : List (Addr × Obj)} {σ : L2.St} {H : Hp} {s : Shared} {us : List Value} {xs : List V} (I : L2.Inv X pins σ H s) (r : Vals xs us) (z : xs.length ≤ sizeLine) (tk : Nat) :
    L2.Inv X pins σ (upd H s.heap.objs.size (.frz (tupOb us) (.tup xs))) { s with heap := s.heap.push (tupOb us), toks := tk } :=
  I.laid (t' := tk) (fun b u e => Heap.get?_push_of_some _ e) (Nat.le_refl _) ⟨Heap.get?_push_size _ rfl, z, us, r, ⟨_, Heap.get?_push_size _ rfl, rfl, _, rfl⟩⟩
def tTupS (t : TA) : TE := fun σ H Q => t σ H fun xs H1 => xs.length ≤ sizeLine ∧ ∀ p o, H1 p = none → o.dict = none → Q (.ref p) (upd H1 p (.frz o (.tup xs)))
theorem pe_tupS {x1} (h : PA X es t) : PE X (.Tuple es x1 pos) (tTupS t) := by
  refine ⟨fun pins s σ H Q I hq => ?_⟩
  refine wpAny_Tuple_spliced (thn (h.run pos pins s σ H _ I hq) fun us s1 ⟨xs, H1, I1, r, z, q⟩ => ⟨by rw [← r.length]; exact z, ?_⟩)
  exact ⟨.ref s1.heap.objs.size, _, Inv.laidT I1 r z s1.toks, rfl, q _ _ (I1.hok.fresh (Nat.le_refl _)) rfl⟩
def rCatS (K : PySem.W.Frag) : R2 := fun x y H Q => ∃ a b xs ys, x = .ref a ∧ y = .ref b ∧ SqT K H a xs ∧ SqT K H b ys ∧ xs.length + ys.length ≤ sizeLine ∧
  (xs = [] → Q (.ref b) H) ∧ (xs ≠ [] → ys = [] → Q (.ref a) H) ∧ (xs ≠ [] → ys ≠ [] → ∀ p o, H p = none → o.dict = none → Q (.ref p) (upd H p (.frz o (.tup (xs ++ ys)))))
theorem op_catS : OpR X (binaryOp .Add) (rCatS X.K) := by
  intro pins s σ H x y v u Q I rx ry h
  obtain ⟨a, b, xs, ys, rfl, rfl, ha, hb, hz, q0, q1, q2⟩ := h
  cases rx
  cases ry
  obtain ⟨its, r1, p1, _⟩ := I.tuple ha
  obtain ⟨its2, r2, p2, _⟩ := I.tuple hb
  by_cases hx : xs = []
  · subst hx
    cases r1
    exact cat_tup0 p1 p2 ⟨.ref b, H, I, rfl, q0 rfl⟩
  · refine HT.cat_tup p1 p2 (fun z => hx (r1.nil_iff.mp z)) (fun z => ⟨.ref a, H, I, rfl, q1 hx (r2.nil_iff.mp z)⟩) (fun z => ?_) (by rw [← r1.length, ← r2.length]; exact hz)
    exact ⟨.ref s.heap.objs.size, _, Inv.laidT I (r1.append r2) (by rw [List.length_append]; exact hz) s.toks, rfl, q2 hx (fun w => z (r2.nil_iff.mpr w)) _ _ (I.hok.fresh (Nat.le_refl _)) rfl⟩
def rSlS (K : PySem.W.Frag) : V → Option Int → Option Int → Hp → VK → Prop := fun x lo hi H Q => ∃ a xs, x = .ref a ∧ SqT K H a xs ∧
  (HT.sIx xs.length 0 lo = 0 ∧ HT.sIx xs.length xs.length hi = xs.length → Q (.ref a) H) ∧ (¬ (HT.sIx xs.length 0 lo = 0 ∧ HT.sIx xs.length xs.length hi = xs.length) → ∀ p o, H p = none → o.dict = none → Q (.ref p) (upd H p (.frz o (.tup (cutV xs lo hi)))))
theorem sl_tupS : SlR X (rSlS X.K) := by
  intro pins s σ H x v vl vu lo hi sl Q I rx hs pl pu h
  obtain ⟨a, xs, rfl, hx, q1, q2⟩ := h
  cases rx
  obtain ⟨its, r, ht, hz⟩ := I.tuple hx
  have hlen : its.toArray.size = xs.length := by rw [List.size_toArray]; exact r.length.symm
  refine ⟨"tuple", _, PyProof.Rows.slot_tuple_getitem.lookup, ht.typeIs, ?_⟩
  by_cases hw : HT.sIx xs.length 0 lo = 0 ∧ HT.sIx xs.length xs.length hi = xs.length
  · exact getItem_tuple_whole ht hs pl pu (by rw [hlen]; exact hw) ⟨.ref a, H, I, rfl, q1 hw⟩
  · refine HT.getItem_tuple_cut ht hs pl pu (by rw [hlen]; exact hw) ?_ (by rw [hlen]; exact hz)
    rw [hlen]
    exact ⟨.ref s.heap.objs.size, _, Inv.laidT I ((r.drop (HT.sIx xs.length 0 lo)).take (HT.sIx xs.length xs.length hi - HT.sIx xs.length 0 lo)) (Nat.le_trans (cutV_length xs lo hi) hz) s.toks, rfl, q2 hw _ _ (I.hok.fresh (Nat.le_refl _)) rfl⟩
theorem call_tuple_ofS : CallR X (.type "tuple") (fun xs H Q => ∃ p ys, xs = [.ref p] ∧ ((SqL X.K H p ys ∧ ∀ l o, H l = none → o.dict = none → Q (.ref l) (upd H l (.frz o (.tup ys)))) ∨ (SqT X.K H p ys ∧ Q (.ref p) H))) := by
  intro pins s σ H xs us Q I r h
  obtain ⟨p, ys, rfl, h⟩ := h
  obtain ⟨u, rfl, rx⟩ := vals1 r
  cases rx
  rcases h with ⟨hq, q⟩ | ⟨hq, q⟩
  · obtain ⟨its, r', pl, hz⟩ := I.list hq
    have hlen := r'.length
    refine call_tuple_list pl.isList (fun h' kp => ?_) (by simp only [List.size_toArray] <;> omega)
    have I1 : L2.Inv X pins σ H { s with heap := h' } := I.kept (t' := s.toks) kp
    exact ⟨.ref h'.objs.size, _, Inv.laidT I1 r' hz s.toks, rfl, q _ _ (I1.hok.fresh (Nat.le_refl _)) rfl⟩
  · obtain ⟨its, r', pl, hz⟩ := I.tuple hq
    exact call_tuple_same pl ⟨.ref p, H, I, rfl, q⟩
end
end FL

/-! FL0b: a set made of what a list or a tuple holds, whatever is laid -/
namespace FL
open PySem PySem.Spec PyProof.Rows L2
abbrev bareSet (w : World) : Obj := { cls := .type "set", dict := none, data := .set #[] 0 (.fresh 0 0 (!w.params.followText "set-order")) }
/-- what is laid one by one into the set at S: J i says what i things have left -/
structure Adds (P : Program) (w : World) (S : Addr) (h0 : Heap) (C : Around → Prop) (Pv : Nat → Value → Prop) (J : Nat → Heap → Prop) : Prop where
  keep : ∀ (i : Nat) (h h' : Heap), J i h → (∀ o, h.get? S = some o → h'.get? S = some o) → (∀ b o, h0.get? b = some o → h'.get? b = some o) → J i h'
  step : ∀ (A : Around) (E : Value → Shared → Prop) (i : Nat) (v : Value) (s : Shared) (Q : Bool → Shared → Prop), C A → Pv i v → J i s.heap → (∀ b o, h0.get? b = some o → s.heap.get? b = some o) →
    (∀ b h' tk, Heap.SameBut S s.heap h' → J (i + 1) h' → s.toks ≤ tk → Q b { s with heap := h', toks := tk }) → wpAny (model P w) A (setAdd S v) Q E s
section
variable {P : Program} {w : World} {A : Around} {E : Value → Shared → Prop} {s : Shared}
theorem adds_loop {I S : Addr} {fp wr : List Addr} {G : Array GenState → Array GenState → Prop} {n : Nat} {Pv : Nat → Value → Prop} {St : Nat → Shared → Prop} {R : Result → Shared → Prop} {h0 : Heap} {C : Around → Prop} {J : Nat → Heap → Prop}
    (W : WalksS P w A.in1 I fp wr G n Pv St) (off : S ∉ fp) (AD : Adds P w S h0 C Pv J) (no : h0.get? S = none) (now : ∀ b ∈ wr, h0.get? b = none) (hc : C A.in1) :
    ∀ (k i : Nat) (s : Shared), n - i = k → i ≤ n → St i s → (∀ b o, h0.get? b = some o → s.heap.get? b = some o) → J i s.heap →
      (∀ s', Moved (S :: wr) G s s' → J n s'.heap → (∀ b o, h0.get? b = some o → s'.heap.get? b = some o) → R (.ok (.ret .none)) s') → codeAny (model P w) A (.builtin "set.update.loop" ⟨[.ref S, .ref I], []⟩) R s := by
  have offw : S ∉ wr := fun z => off (W.sub _ z)
  have wider : ∀ b ∈ wr, b ∈ S :: wr := fun _ hb => List.mem_cons_of_mem _ hb
  have still : ∀ {u u' : Shared}, Moved wr G u u' → (∀ b o, h0.get? b = some o → u.heap.get? b = some o) → ∀ b o, h0.get? b = some o → u'.heap.get? b = some o :=
    fun m kp b o e => m.heap b o (fun hb => by rw [now b hb] at e; cases e) (kp b o e)
  intro k
  induction k with
  | zero =>
    intro i s hk hi st kp j fin
    obtain rfl : i = n := by omega
    refine codeAny_builtin F.entry_set_update_loop ?_
    rw [Around.under_plainId F.plain_set_update_loop _]
    show wpAny _ A.in1 (pyNext (.ref I) >>= _) _ _ s
    refine wpAny_bind (W.done s _ _ st fun s' m => ?_)
    show wpAny _ A.in1 (ret Value.none) _ _ s'
    have kp' := still m kp
    exact wpAny_pure (fin s' (m.mono wider) (AD.keep _ _ _ j (fun o e => m.heap S o offw e) kp') kp')
  | succ k ih =>
    intro i s hk hi st kp j fin
    have lt : i < n := by omega
    refine codeAny_builtin F.entry_set_update_loop ?_
    rw [Around.under_plainId F.plain_set_update_loop _]
    show wpAny _ A.in1 (pyNext (.ref I) >>= _) _ _ s
    refine wpAny_bind (W.item i s _ _ lt st fun v s1 hv st1 m => ?_)
    have kp1 := still m kp
    have j1 := AD.keep _ _ _ j (fun o e => m.heap S o offw e) kp1
    show wpAny _ A.in1 (holding [v] (setAdd S v) >>= _) _ _ s1
    refine wpAny_bind (wpAny_holding (AD.step _ _ i v s1 _ hc hv j1 kp1 fun b h' tk sb j2 le => ?_))
    have kp2 : ∀ b o, h0.get? b = some o → h'.get? b = some o := fun b o e => (sb.2 b (fun z => by rw [z, no] at e; cases e)).trans (kp1 b o e)
    refine wpAny_pure ⟨plainId_quiet F.plain_set_update_loop _, ih (i + 1) _ (by omega) lt (W.frame _ s1 _ _ st1 le fun b hb o e => ?_) kp2 j2 fun s2 m2 j3 kp3 => ?_⟩
    · exact (sb.2 b (fun z => off (z ▸ hb))).trans e
    · exact fin s2 (Moved.trans W.gtrans ((m.mono wider).then_heap le fun b o hb e => (sb.2 b (fun z => hb (by rw [z]; exact List.mem_cons_self))).trans e) m2) j3 kp3
theorem upd_from {S l : Addr} {T : String} {Q : Unit → Shared → Prop} (hT : s.TypeIs (.ref l) T) (h1 : isSubtype (.type T) (.type "set") = pure false) (h2 : isSubtype (.type T) (.type "frozenset") = pure false) (hne : (Value.type T == Value.type "dict") = false)
    (h : wpAny (model P w) A (pyIter (.ref l)) (fun I s1 => wpAny (model P w) A (runValue (.builtin "set.update.loop" ⟨[.ref S, I], []⟩)) (fun _ s2 => Q () s2) E s1) E s) : wpAny (model P w) A (Builtin.Frozenset.updateFrom "set.__init__" S (.ref l)) Q E s := by
  unfold Builtin.Frozenset.updateFrom Builtin.Frozenset.isAnySet
  refine wpAny_bind (wpAny_bind (wpAny_isInstance hT h1 ?_))
  refine wpAny_isInstance hT h2 ?_
  rw [if_neg Bool.false_ne_true]
  refine wpAny_bind (wpAny_typeOf hT ?_)
  rw [if_neg (by rw [hne]; exact Bool.false_ne_true)]
  refine wpAny_bind (wpAny_mono h (fun I s1 q => ?_) fun _ _ q => q)
  exact wpAny_bind (wpAny_mono q (fun _ _ r => wpAny_pure r) fun _ _ r => r)
theorem init_from {S l : Addr} {Q : Value → Shared → Prop} (hS : s.heap.get? S = some (bareSet w))
    (h : wpAny (model P w) A (Builtin.Frozenset.updateFrom "set.__init__" S (.ref l)) (fun _ s2 => Q .none s2) E s) : wpAny (model P w) A (Builtin.«set.__init__» ⟨[.ref S, .ref l], []⟩) (fun f s' => ∃ r, f = .done (.ret r) ∧ Q r s') E s := by
  have hT : s.TypeIs (.ref S) "set" := ⟨_, hS, rfl⟩
  unfold Builtin.«set.__init__» noKeywords
  generalize Builtin.Frozenset.updateFrom = U at h ⊢
  wp_walk
  exact wpAny_mono h (fun _ s2 q => wpAny_pure ⟨_, rfl, q⟩) fun _ _ q => q
set_option maxRecDepth 100000 in
set_option maxHeartbeats 3200000 in
/-- set(xs), xs a list or a tuple -/
theorem call_set_seq {l : Addr} {items : Array Value} {C : Around → Prop} {J : Nat → Heap → Prop} {Q : Value → Shared → Prop} (hh : A.handled = none) (src : s.heap.IsList l items ∨ s.heap.IsTuple l items)
    (AD : Adds P w s.heap.objs.size s.heap C (fun i v => items[i]? = some v) J) (hc : C A.in1.in1.in1)
    (z : ∀ h, h.get? s.heap.objs.size = some (bareSet w) → (∀ b o, s.heap.get? b = some o → h.get? b = some o) → J 0 h)
    (fin : ∀ h' tk, J items.size h' → (∀ b o, s.heap.get? b = some o → h'.get? b = some o) → Q (.ref s.heap.objs.size) { s with heap := h', toks := tk }) :
    wpAny (model P w) A (call (.type "set") [.ref l]) Q E s := by
  obtain ⟨c, tl, hmro⟩ := F.called_set.mro
  have hmade := F.called_set.made
  have hsub := F.called_set.sub
  refine wpAny_call (codeAny_of_tree ?_)
  show wpAny _ _ (callAny (.type "set") _) _ _ _
  refine wpAny_pure ⟨Code.quiet_builtin _ (by decide +kernel), codeAny_builtin F.entry_type_call ?_⟩
  rw [Around.under_plain (weight_type_call_type "set" [.ref l] []) rfl]
  have h1 := F.called_set.notType
  have h2 := F.called_set.canCreate
  have hct := F.typeCall_set_1 (.ref l)
  repeat (any_goals (first | assumption | wp_step))
  refine codeAny_mono (code_set_led1 (.ref l) (E := E) (Q₁ := fun obj s₁ => obj = .ref s.heap.objs.size ∧ s₁ = { s with heap := s.heap.push (bareSet w) }) ⟨rfl, rfl⟩) fun r s₁ hr => ?_
  cases r with
  | error e => exact hr
  | ok fl =>
    cases fl with
    | ret obj =>
      obtain ⟨rfl, rfl⟩ := hr
      have atS : (s.heap.push (bareSet w)).get? s.heap.objs.size = some (bareSet w) := Heap.get?_push_size _ rfl
      have hT : Shared.TypeIs { s with heap := s.heap.push (bareSet w) } (.ref s.heap.objs.size) "set" := ⟨_, atS, rfl⟩
      have hli := F.called_set.init.lookup
      have hbi := F.called_set.init.bind (.ref s.heap.objs.size)
      repeat (any_goals (first | assumption | wp_step))
      refine codeAny_mono (codeAny_call_builtin (R := wants (fun r s₂ => r = .none ∧ ∃ h' tk, s₂ = { s with heap := h', toks := tk } ∧ J items.size h' ∧ (∀ b o, s.heap.get? b = some o → h'.get? b = some o)) E) F.called_set.init.plain F.entry_set_init (check_set_init_1 hT ?_)) fun r₂ s₂ hr₂ => ?_
      · have hh3 : A.in1.in1.in1.handled = none := by simp [hh]
        have hz : (s.heap.push (bareSet w)).objs.size = s.heap.objs.size + 1 := Heap.size_push ..
        have bare : ∀ b, s.heap.objs.size ≤ b → s.heap.get? b = none := fun b hb => by
          cases q : s.heap.get? b with
          | none => rfl
          | some o => exact absurd (Nat.lt_of_lt_of_le (Heap.lt_size q) hb) (Nat.lt_irrefl _)
        rcases src with hl | hl
        · have hlS : l < s.heap.objs.size := let ⟨_, e, _⟩ := hl; Heap.lt_size e
          have hl1 : (s.heap.push (bareSet w)).IsList l items := hl.push _
          refine wpAny_mono (init_from (E := E) (Q := fun r s₂ => r = .none ∧ ∃ h' tk, s₂ = { s with heap := h', toks := tk } ∧ J items.size h' ∧ (∀ b o, s.heap.get? b = some o → h'.get? b = some o)) atS (upd_from (s := { s with heap := s.heap.push (bareSet w) }) (Heap.IsList.typeIs (s := { s with heap := s.heap.push (bareSet w) }) hl1) F.sub_list_set F.sub_list_frozenset (by decide) ?_)) (fun f s' ⟨r, e, q⟩ => by subst e; exact q) fun _ _ q => q
          have hneI : l ≠ (s.heap.push (bareSet w)).objs.size := by rw [hz]; exact Nat.ne_of_lt (Nat.lt_succ_of_lt hlS)
          have off : s.heap.objs.size ∉ [(s.heap.push (bareSet w)).objs.size, l] := by
            rw [hz]
            intro m
            rcases List.mem_cons.mp m with m | m
            · exact Nat.ne_of_lt (Nat.lt_succ_self _) m
            · exact Nat.ne_of_gt hlS (List.mem_singleton.mp m)
          have pp : ∀ b o, s.heap.get? b = some o → ((s.heap.push (bareSet w)).push { cls := .type "list_iterator", data := .fields #[.ref l, .int 0 0] }).get? b = some o := fun b o e => Heap.get?_push_of_some _ (Heap.get?_push_of_some _ e)
          refine wpAny_pyIter_list hl1 (wpAny_runValue ?_)
          refine adds_loop ((Walks.list hh3 _ l hneI items).toS) off AD (bare _ (Nat.le_refl _)) (fun b hb => bare b (by rw [List.mem_singleton.mp hb, hz]; exact Nat.le_succ _)) hc (items.size - 0) 0 _ (by omega) (Nat.zero_le _) ⟨⟨_, Heap.get?_push_size _ rfl, rfl, rfl⟩, hl1.push _⟩ pp (z _ (Heap.get?_push_of_some _ atS) pp) fun s' m j kp => ?_
          obtain ⟨h', g2, d', tk', os'⟩ := s'
          have eg : g2 = s.gens := m.gens
          have ed : d' = s.drawn := m.drawn
          have eo : os' = s.os := m.os
          subst eg; subst ed; subst eo
          exact ⟨rfl, h', tk', rfl, j, kp⟩
        · have hlS : l < s.heap.objs.size := let ⟨_, e, _⟩ := hl; Heap.lt_size e
          have hl1 : (s.heap.push (bareSet w)).IsTuple l items := hl.push _
          refine wpAny_mono (init_from (E := E) (Q := fun r s₂ => r = .none ∧ ∃ h' tk, s₂ = { s with heap := h', toks := tk } ∧ J items.size h' ∧ (∀ b o, s.heap.get? b = some o → h'.get? b = some o)) atS (upd_from (s := { s with heap := s.heap.push (bareSet w) }) (Heap.IsTuple.typeIs (s := { s with heap := s.heap.push (bareSet w) }) hl1) F.sub_tuple_set F.sub_tuple_frozenset (by decide) ?_)) (fun f s' ⟨r, e, q⟩ => by subst e; exact q) fun _ _ q => q
          have hneI : l ≠ (s.heap.push (bareSet w)).objs.size := by rw [hz]; exact Nat.ne_of_lt (Nat.lt_succ_of_lt hlS)
          have off : s.heap.objs.size ∉ [(s.heap.push (bareSet w)).objs.size, l] := by
            rw [hz]
            intro m
            rcases List.mem_cons.mp m with m | m
            · exact Nat.ne_of_lt (Nat.lt_succ_self _) m
            · exact Nat.ne_of_gt hlS (List.mem_singleton.mp m)
          have pp : ∀ b o, s.heap.get? b = some o → ((s.heap.push (bareSet w)).push { cls := .type "tuple_iterator", data := .fields #[.ref l, .int 0 0] }).get? b = some o := fun b o e => Heap.get?_push_of_some _ (Heap.get?_push_of_some _ e)
          refine wpAny_pyIter_tuple hl1 (wpAny_runValue ?_)
          refine adds_loop ((Walks.tuple hh3 _ l hneI items).toS) off AD (bare _ (Nat.le_refl _)) (fun b hb => bare b (by rw [List.mem_singleton.mp hb, hz]; exact Nat.le_succ _)) hc (items.size - 0) 0 _ (by omega) (Nat.zero_le _) ⟨⟨_, Heap.get?_push_size _ rfl, rfl, rfl⟩, hl1.push _⟩ pp (z _ (Heap.get?_push_of_some _ atS) pp) fun s' m j kp => ?_
          obtain ⟨h', g2, d', tk', os'⟩ := s'
          have eg : g2 = s.gens := m.gens
          have ed : d' = s.drawn := m.drawn
          have eo : os' = s.os := m.os
          subst eg; subst ed; subst eo
          exact ⟨rfl, h', tk', rfl, j, kp⟩
      · cases r₂ with
        | error e => exact hr₂
        | ok fl₂ =>
          cases fl₂ with
          | ret r =>
            obtain ⟨rfl, h', tk, rfl, j, kp⟩ := hr₂
            repeat (any_goals (first | assumption | wp_step))
            exact fin _ _ j kp
          | _ => exact hr₂.elim
    | _ => exact hr.elim
end
end FL

/-! FL0c: sets of keys: what is asked of them, what is laid into them -/
namespace FL
open PySem PySem.Spec PyProof.Rows L2
section
variable {P : Program} {w : World} {A : Around} {E : Value → Shared → Prop} {s : Shared}
theorem is_kOf {k : Key} {e : Int × Value} (h : (mixKind P w).is k e.2 = true) : kOf e = k := by
  obtain ⟨n, v⟩ := e
  rcases keyIs_shape (show keyIs k v = true from h) with ⟨i, t, e1, e2⟩ | ⟨x, t, e1, e2⟩
  · subst e1 e2; rfl
  · subst e1 e2; rfl
theorem kind_scan {k : Key} {v : Value} (h : (mixKind P w).is k v = true) : v.scannable = true := by
  rcases keyIs_shape (show keyIs k v = true from h) with ⟨i, t, e1, e2⟩ | ⟨x, t, e1, e2⟩
  · subst e2; rfl
  · subst e2; rfl
theorem good_is1 {e : Int × Value} (g : GoodK P w e) (k : Key) : (mixKind P w).is k e.2 = true ↔ kOf e = k := by
  obtain ⟨k0, h1, _⟩ := g
  refine ⟨is_kOf, fun z => ?_⟩
  rw [is_kOf h1] at z
  rw [← z]; exact h1
theorem good_elems1 {l : List (Int × Value)} (g : ∀ e ∈ l, GoodK P w e) : ElemsOf (mixKind P w) l := fun e he => by
  obtain ⟨k, h1, h2⟩ := g e he
  exact ⟨⟨k, h1, h2⟩, kind_scan h1⟩
theorem good_mem1 {l : List (Int × Value)} (g : ∀ e ∈ l, GoodK P w e) (k : Key) : k ∈ l.map kOf ↔ ∃ e ∈ l, (mixKind P w).is k e.2 = true := by
  rw [List.mem_map]
  exact ⟨fun ⟨e, he, q⟩ => ⟨e, he, (good_is1 (g e he) k).2 q⟩, fun ⟨e, he, q⟩ => ⟨e, he, (good_is1 (g e he) k).1 q⟩⟩
theorem any_eq_mem {ks : List Key} {k : Key} : (ks.any fun j => decide (j = k)) = true ↔ k ∈ ks := by
  rw [List.any_eq_true]
  exact ⟨fun ⟨j, hj, e⟩ => of_decide_eq_true e ▸ hj, fun h => ⟨k, h, decide_eq_true rfl⟩⟩
theorem SetK1.setOf {h : Heap} {a : Addr} {ks : List Key} (R : SetK1 P w h a ks) : h.SetOf (mixKind P w) a (fun k => ks.any fun j => decide (j = k)) ks.length := by
  obtain ⟨o, es, ep, t, ho, hx, hd, g, hk, nd, hb, hf, _⟩ := R
  subst hk
  exact ⟨o, es, ep, t, ho, hx, hd, good_elems1 g, fun k => by rw [any_eq_mem]; exact good_mem1 g k, hb, hf, by rw [List.length_map, Array.length_toList]⟩
theorem SetK1.at_ {h h' : Heap} {a : Addr} {ks : List Key} (R : SetK1 P w h a ks) (k : ∀ o, h.get? a = some o → h'.get? a = some o) : SetK1 P w h' a ks :=
  let ⟨o, es, ep, t, ho, r⟩ := R; ⟨o, es, ep, t, k o ho, r⟩
theorem setK1_new {h : Heap} {a : Addr} (ho : h.get? a = some (bareSet w)) : SetK1 P w h a [] :=
  ⟨_, #[], 0, _, ho, ⟨rfl, rfl, rfl⟩, rfl, fun e he => by simp at he, rfl, List.nodup_nil, by decide, rfl, List.Pairwise.nil, by
    show _ ∨ (!w.params.followText "set-order") = true
    cases w.params.followText "set-order"
    · exact .inr rfl
    · exact .inl rfl⟩
/-- the last of an add: the table stored, and laid anew where it is too full -/
theorem k1_store {g : Bool → Sem Unit} (hg : ∀ (b : Bool) (s₁ : Shared) (Q' : Unit → Shared → Prop), Q' () s₁ → wpAny (model P w) A (g b) Q' E s₁)
    {a : Addr} {o : Obj} {es : Array (Int × Value)} {ep : Nat} {t : SetTable} (ho : s.heap.get? a = some o) (hex : o.ExactSet) (hd : o.data = .set es ep t)
    {es1 : Array (Int × Value)} {t2 : SetTable} {M : Key → Prop} (g1 : ∀ e ∈ es1.toList, GoodK P w e) (nd1 : (es1.toList.map kOf).Nodup) (m1 : ∀ k, k ∈ es1.toList.map kOf ↔ M k)
    (hb1 : es1.size < scanBound) (hf2 : t2.fits es1.size = true) (hr : Ris t2.place.toList) (hl : w.params.followText "set-order" = true ∨ t2.led = true) {wasDummy : Bool} {R : Option Bool → Shared → Prop}
    (hR : ∀ h' ks', Heap.SameBut a s.heap h' → SetK1 P w h' a ks' → (∀ k, k ∈ ks' ↔ M k) → ks'.length = es1.size → R (some true) { s with heap := h' }) :
    wpAny (model P w) A (do
        storeSet a es1 t2
        if (!wasDummy && t2.tooFull) = true then do
            g (relayAll t2 es1 (SetTable.grown es1.size)).2.2
            storeSet a (relayAll t2 es1 (SetTable.grown es1.size)).1 (relayAll t2 es1 (SetTable.grown es1.size)).2.1
            pure (some true)
          else pure (some true)) R E s := by
  refine wpAny_bind (wpAny_storeSet_of ho hd ?_ (fits_of_scanBound hb1))
  have at1 := store_at (es' := es1) (t' := t2) ho hd
  have same1 := Heap.SameBut.update s.heap a (Obj.putSet es1 t2)
  split
  · obtain ⟨Z, eZ⟩ : ∃ Z, Z = relayAll t2 es1 (SetTable.grown es1.size) := ⟨_, rfl⟩
    have pm : Z.1.toList.Perm es1.toList := by rw [eZ]; exact relayAll_perm t2 es1 _
    have f3 : Z.2.1.fits Z.1.size = true := by rw [eZ]; exact relayAll_fits t2 es1 _
    have r3 : Ris Z.2.1.place.toList := by rw [eZ]; exact relayAll_ris t2 es1 _
    have l3 : Z.2.1.led = t2.led := by rw [eZ]; exact relayAll_led t2 es1 _
    rw [← eZ]
    obtain ⟨es2, t3, gave⟩ := Z
    dsimp only at pm f3 r3 l3 ⊢
    have sz : es2.size = es1.size := by rw [← Array.length_toList, pm.length_eq, Array.length_toList]
    have b2 : es2.size < scanBound := by rw [sz]; exact hb1
    refine wpAny_bind (hg _ _ _ ?_)
    refine wpAny_bind (wpAny_storeSet_of at1 rfl ?_ (fits_of_scanBound b2))
    refine wpAny_pure (hR _ (es2.toList.map kOf) (same1.trans (Heap.SameBut.update _ a _)) ?_ (fun k => (pm.map kOf).mem_iff.trans (m1 k)) (by rw [List.length_map, Array.length_toList, sz]))
    exact ⟨_, es2, _, t3, store_at at1 rfl, hex, rfl, fun e he => g1 e (pm.mem_iff.mp he), rfl, (pm.map kOf).nodup_iff.mpr nd1, b2, f3, r3, hl.imp id fun z => by rw [l3]; exact z⟩
  · exact wpAny_pure (hR _ _ same1 ⟨_, es1, _, t2, at1, hex, rfl, g1, rfl, nd1, hb1, hf2, hr, hl⟩ m1 (by rw [List.length_map, Array.length_toList]))
/-- a key laid -/
theorem k1_add {a : Addr} {ks : List Key} {k : Key} {v : Value} {Q : Bool → Shared → Prop} (R : SetK1 P w s.heap a ks) (hv : (mixKind P w).is k v = true) (room : ks.length + 1 < scanBound)
    (hQ : ∀ b h' ks', Heap.SameBut a s.heap h' → SetK1 P w h' a ks' → (∀ j, j ∈ ks' ↔ j ∈ ks ∨ j = k) → ks'.length ≤ ks.length + 1 → Q b { s with heap := h' }) :
    wpAny (model P w) A (setAddHashed a v ((mixKind P w).hash k)) Q E s := by
  obtain ⟨o, es, ep, t, ho, hex, hd, g, ek, nd, hb, hf, hr, hl⟩ := R
  subst ek
  have sc := kind_scan hv
  have hel : ElemsOf (mixKind P w) es.toList := good_elems1 g
  unfold setAddHashed setAddHashedIn
  refine wpAny_holding (wpAny_bind (wpAny_setState_of ho hd hf ?_))
  dsimp only
  rw [byScan_of sc hb hel]
  simp only [↓reduceIte]
  unfold setAddByScan
  refine wpAny_bind ?_
  refine wpAny_bind (wpAny_rule ?_)
  refine wpAny_bind (wpAny_setScan_of hv ho hd hf hel ?_)
  cases hfi : List.findIdx? (fun e => (mixKind P w).is k e.2) es.toList with
  | some j =>
    dsimp only
    obtain ⟨hj, pj, _⟩ := List.findIdx?_eq_some_iff_getElem.mp hfi
    have hk : k ∈ es.toList.map kOf := (good_mem1 g k).2 ⟨es.toList[j], List.getElem_mem hj, pj⟩
    exact wpAny_pure (wpAny_pure (hQ false s.heap _ (Heap.SameBut.refl a s.heap) ⟨o, es, ep, t, ho, hex, hd, g, rfl, nd, hb, hf, hr, hl⟩ (fun i => ⟨.inl, fun z => z.elim id fun e => e ▸ hk⟩) (Nat.le_succ _)))
  | none =>
    dsimp only
    have hk : k ∉ es.toList.map kOf := fun z => by
      obtain ⟨e, he, q⟩ := (good_mem1 g k).1 z
      have c := List.findIdx?_eq_none_iff.mp hfi e he
      rw [q] at c
      cases c
    have gw : ∀ (b : Bool) {s₁ : Shared} {Q' : Unit → Shared → Prop}, Q' () s₁ → wpAny (model P w) A (match b with | true => rule "set.scan.the-table-gave-way" | false => pure ()) Q' E s₁ :=
      fun b s₁ Q' q => by cases b <;> first | exact wpAny_pure q | exact wpAny_rule q
    obtain ⟨Z, eZ⟩ : ∃ Z, Z = layNew t es ((mixKind P w).hash k) v := ⟨_, rfl⟩
    have pm : Z.1.toList.Perm (((mixKind P w).hash k, v) :: es.toList) := by
      rw [eZ]
      refine (layNew_perm t es _ v).trans ?_
      rw [Array.toList_push]
      exact List.perm_append_singleton _ _
    have f1 : Z.2.1.fits Z.1.size = true := by rw [eZ]; exact layNew_fits t es _ v
    have r1 : Ris Z.2.1.place.toList := by rw [eZ]; exact layNew_ris t es _ v hr
    have l1 : Z.2.1.led = t.led := by rw [eZ]; exact layNew_led t es _ v
    rw [← eZ]
    obtain ⟨es1, t1, wasDummy, gave⟩ := Z
    dsimp only at pm f1 r1 l1 ⊢
    have pk : (es1.toList.map kOf).Perm (k :: es.toList.map kOf) := by
      have q := pm.map kOf
      rw [List.map_cons, is_kOf (e := ((mixKind P w).hash k, v)) hv] at q
      exact q
    have g1 : ∀ e ∈ es1.toList, GoodK P w e := fun e he => by
      rcases List.mem_cons.mp (pm.mem_iff.mp he) with z | z
      · rw [z]; exact ⟨k, hv, rfl⟩
      · exact g e z
    have nd1 : (es1.toList.map kOf).Nodup := pk.nodup_iff.mpr (List.nodup_cons.mpr ⟨hk, nd⟩)
    have m1 : ∀ i, i ∈ es1.toList.map kOf ↔ i ∈ es.toList.map kOf ∨ i = k := fun i => by rw [pk.mem_iff, List.mem_cons]; exact Or.comm
    have sz : es1.size = (es.toList.map kOf).length + 1 := by rw [← Array.length_toList, pm.length_eq, List.length_cons, List.length_map]
    have b1 : es1.size < scanBound := by rw [sz]; exact room
    have led1 : w.params.followText "set-order" = true ∨ t1.led = true := hl.imp id fun z => by rw [l1]; exact z
    have fin : ∀ h' ks', Heap.SameBut a s.heap h' → SetK1 P w h' a ks' → (∀ j, j ∈ ks' ↔ j ∈ es.toList.map kOf ∨ j = k) → ks'.length = es1.size → Q true { s with heap := h' } :=
      fun h' ks' sb r m e => hQ true h' ks' sb r m (by rw [e, sz]; exact Nat.le_refl _)
    refine wpAny_bind (gw _ ?_)
    split
    · refine wpAny_bind ?_
      rw [hashByValue_scannable 8 sc]
      refine wpAny_pure ?_
      refine k1_store ?_ ho hex hd g1 nd1 m1 b1 ?_ ?_ ?_ ?_
      · intro b s₁ Q' q; cases b <;> first | exact wpAny_pure q | exact wpAny_rule q
      · first | (split <;> first | exact f1 | exact SetTable.fits_plain_off f1) | exact f1
      · first | (split <;> exact r1) | exact r1
      · first | (split <;> exact led1) | exact led1
      · intro h' ks' sb r m e; dsimp only; exact wpAny_pure (fin h' ks' sb r m e)
    · refine wpAny_bind (wpAny_pure ?_)
      simp only [↓reduceIte]
      refine k1_store ?_ ho hex hd g1 nd1 m1 b1 f1 r1 led1 ?_
      · intro b s₁ Q' q; cases b <;> first | exact wpAny_pure q | exact wpAny_rule q
      · intro h' ks' sb r m e; dsimp only; exact wpAny_pure (fin h' ks' sb r m e)
/-- set(xs), xs keys -/
theorem k1_of_seq {l : Addr} {items : Array Value} {ks : List Key} {Q : Value → Shared → Prop} (hh : A.handled = none) (src : s.heap.IsList l items ∨ s.heap.IsTuple l items)
    (hk : ∀ (i : Nat) (v : Value), items[i]? = some v → ∃ k, ks[i]? = some k ∧ (mixKind P w).is k v = true) (hsz : items.size = ks.length) (few : ks.length + 1 < scanBound)
    (fin : ∀ h' tk ks', SetK1 P w h' s.heap.objs.size ks' → (∀ j, j ∈ ks' ↔ j ∈ ks) → (∀ b o, s.heap.get? b = some o → h'.get? b = some o) → Q (.ref s.heap.objs.size) { s with heap := h', toks := tk }) :
    wpAny (model P w) A (call (.type "set") [.ref l]) Q E s := by
  refine call_set_seq (C := fun _ => True) (J := fun i h => ∃ ks', SetK1 P w h s.heap.objs.size ks' ∧ (∀ j, j ∈ ks' ↔ j ∈ ks.take i) ∧ ks'.length ≤ i) hh src ?_ trivial (fun h ho _ => ⟨[], setK1_new ho, by simp, Nat.le_refl 0⟩) fun h' tk ⟨ks', R, m, _⟩ kp => ?_
  · refine ⟨fun i h h' ⟨ks', R, m⟩ kS _ => ⟨ks', R.at_ kS, m⟩, fun A E i v s1 Q _ hv ⟨ks', R, m, le⟩ _ hQ => ?_⟩
    obtain ⟨k, ek, hkv⟩ := hk i v hv
    have hi : i < ks.length := (List.getElem?_eq_some_iff.mp ek).1
    unfold setAdd
    refine wpAny_holding (wpAny_bind ((mixKind P w).pyHash hkv ?_))
    refine k1_add (s := { s1 with toks := s1.toks + 1 }) R hkv (by omega) fun b h' ks2 sb R2 m2 l2 => hQ b h' (s1.toks + 1) sb ⟨ks2, R2, fun j => ?_, by omega⟩ (Nat.le_succ _)
    have et : ks.take (i + 1) = ks.take i ++ [k] := by rw [List.take_add_one, ek]; rfl
    rw [m2 j, m j, et, List.mem_append, List.mem_singleton]
  · exact fin h' tk ks' R (fun j => by rw [m j, hsz, List.take_length]) kp
end
end FL

/-! FL0d: sorted(a set) -/
namespace FL
open PySem PySem.Spec PyProof.Rows L2
theorem each_perm {α β : Type} {R : α → β → Prop} : ∀ {as as' : List α} {bs : List β}, as'.Perm as → PySem.W.EachIs R as bs → ∃ bs', bs'.Perm bs ∧ PySem.W.EachIs R as' bs' := by
  intro as as' bs p
  induction p generalizing bs with
  | nil => intro h; exact ⟨bs, List.Perm.refl _, h⟩
  | cons x _ ih =>
    intro h
    cases h with
    | cons h1 t =>
      obtain ⟨bs', p', t'⟩ := ih t
      exact ⟨_, p'.cons _, .cons h1 t'⟩
  | swap x y l =>
    intro h
    cases h with
    | cons h1 t =>
      cases t with
      | cons h2 t => exact ⟨_, List.Perm.swap _ _ _, .cons h2 (.cons h1 t)⟩
  | trans _ _ ih1 ih2 =>
    intro h
    obtain ⟨b1, p1, e1⟩ := ih2 h
    obtain ⟨b2, p2, e2⟩ := ih1 e1
    exact ⟨b2, p2.trans p1, e2⟩
theorem dataLe_t {β : Type} (enc : β → PyData) : PySem.W.TotalLe (PySem.W.dataLe false enc) := PySem.W.sortLe_total _ _ _
/-- one order, one list: sorting what is the same but for its order -/
theorem sort_perm {β : Type} {enc : β → PyData} {xs ys : List β} (p : xs.Perm ys) (inj : ∀ a ∈ ys, ∀ b ∈ ys, PySem.W.keyToks (enc a) = PySem.W.keyToks (enc b) → a = b) : xs.mergeSort (PySem.W.dataLe false enc) = ys.mergeSort (PySem.W.dataLe false enc) := by
  have T := dataLe_t enc
  have tot : ∀ a b, (PySem.W.dataLe false enc a b || PySem.W.dataLe false enc b a) = true := fun a b => by rw [Bool.or_eq_true]; exact T.total a b
  refine List.Perm.eq_of_pairwise (le := fun a b => PySem.W.dataLe false enc a b = true) (fun a b ha hb h1 h2 => ?_) (List.pairwise_mergeSort T.trans tot xs) (List.pairwise_mergeSort T.trans tot ys) ((List.mergeSort_perm xs _).trans (p.trans (List.mergeSort_perm ys _).symm))
  have ha' : a ∈ ys := p.mem_iff.mp ((List.mergeSort_perm xs _).mem_iff.mp ha)
  have hb' : b ∈ ys := (List.mergeSort_perm ys _).mem_iff.mp hb
  have h1 : (!(listOrd itemOrd).blt (PySem.W.keyToks (enc b)) (PySem.W.keyToks (enc a))) = true := h1
  have h2 : (!(listOrd itemOrd).blt (PySem.W.keyToks (enc a)) (PySem.W.keyToks (enc b))) = true := h2
  rw [Bool.not_eq_true'] at h1 h2
  exact inj a ha' b hb' ((listOrd itemOrd).total _ _ h2 h1)
section
variable {P : Program} {w : World} {A : Around} {E : Value → Shared → Prop} {s : Shared}
theorem sorted_of_set {a : Addr} {es : Array (Int × Value)} {ep : Nat} {t : SetTable} {β : Type} {enc : β → PyData} {R : Value → β → Prop} {bs : List β} {Q : Value → Shared → Prop}
    (hh : A.handled = none) (ha : SetAt s.heap a es ep t) (hf : t.fits es.size = true) (hsz : es.size < scanBound) (r : Ris t.place.toList) (hl : w.params.followText "set-order" = true ∨ t.led = true)
    (e : PySem.W.EachIs R (es.toList.map (·.2)) bs) (er : ∀ h', (∀ b o, s.heap.get? b = some o → h'.get? b = some o) → ∀ v b, R v b → Reads h' v (enc b) [])
    (hal : PySem.W.AllAlike (bs.map enc)) (hk : PySem.W.Sortable (bs.map enc)) (inj : ∀ a ∈ bs, ∀ b ∈ bs, PySem.W.keyToks (enc a) = PySem.W.keyToks (enc b) → a = b) (hu : ∀ b, b ∈ bs → A.units + 2 + (enc b).depth < cLine)
    (h : ∀ s' p (out : List Value) c, (∀ b o, s.heap.get? b = some o → s'.heap.get? b = some o) → s'.gens = s.gens → s'.os = s.os → s.heap.objs.size ≤ p → s'.heap.get? p = some (seqObj "list" out.toArray c) → out.length = bs.length →
      PySem.W.EachIs R out (bs.mergeSort (PySem.W.dataLe false enc)) → Q (.ref p) s') :
    wpAny (model P w) A (call (.builtin "sorted") [.ref a]) Q E s := by
  refine Calls.call_function_entry kind_sorted plain_sorted entry_sorted (args_sorted1 _) ?_
  unfold Builtin.«sorted»
  refine wpAny_bind (m := checkCount "sorted" 1 1 _) (wpAny_pure ?_)
  refine wpAny_bind (collect_set (A := A.in1) hh ha hf hsz r hl fun s1 vs kp le g1 o1 pm => ?_)
  obtain ⟨bs', pb, eb⟩ := each_perm (pm : vs.Perm (es.toList.map (·.2))) e
  have lenb : vs.length = bs.length := eb.length.trans pb.length_eq
  have few : bs.length < scanBound := by
    rw [← e.length, List.length_map, Array.length_toList]; exact hsz
  have mem : ∀ b, b ∈ bs' → b ∈ bs := fun b hb => pb.mem_iff.mp hb
  have hal' : PySem.W.AllAlike (bs'.map enc) := fun d hd d' hd' => hal d ((pb.map enc).mem_iff.mp hd) d' ((pb.map enc).mem_iff.mp hd')
  have hk' : PySem.W.Sortable (bs'.map enc) := hk.imp (fun q d hd => q d ((pb.map enc).mem_iff.mp hd)) (fun q d hd => q d ((pb.map enc).mem_iff.mp hd))
  have line : bs'.length ≤ sizeLine := by rw [pb.length_eq]; exact fits_of_scanBound few
  refine wpAny_bind (wpAny_newList ?_ (by rw [lenb]; exact fits_of_scanBound few))
  have atL : (s1.heap.push (seqObj "list" vs.toArray 0)).get? s1.heap.objs.size = some (seqObj "list" vs.toArray 0) := Heap.get?_push_size _ rfl
  have er' : PySem.W.EachIs (fun v b => ∃ as, Reads (s1.heap.push (seqObj "list" vs.toArray 0)) v (enc b) as ∧ s1.heap.objs.size ∉ as) vs bs' :=
    eb.mono fun v b q => ⟨[], er _ (fun b o z => Heap.get?_push_of_some _ (kp b o z)) v b q, by simp⟩
  refine wpAny_bind (wpAny_holding (PySem.W.list_sort_data (s := { s1 with heap := s1.heap.push (seqObj "list" vs.toArray 0) }) atL eb er' hal' hk' line (fun b hb => by have := hu b (mem b hb); show A.in1.units + 1 + _ < _; have z : A.in1.units = A.units + 1 := rfl; omega) fun out lo eo => ?_))
  obtain ⟨c, hc⟩ := sortedHeap_at (vs := vs) (out := out.toArray) atL
  rw [sort_perm pb inj] at eo
  refine wpAny_pure ⟨_, rfl, h _ s1.heap.objs.size out c (fun b u z => ?_) g1 o1 le hc (by rw [lo, pb.length_eq]) eo⟩
  have q := kp b u z
  have lt := Heap.lt_size q
  show (sortedHeap (s1.heap.push (seqObj "list" vs.toArray 0)) s1.heap.objs.size vs out.toArray).get? b = some u
  rw [sortedHeap_old (Nat.ne_of_lt lt) (by rw [size_push']; exact Nat.lt_succ_of_lt lt)]
  exact Heap.get?_push_of_some _ q
end
end FL

/-! FL1: data hidden behind the heap: values as trees D, a monad M of answers, readings tM that speak of trees alone -/
namespace FL
open PySem PySem.Spec PyProof.Rows L2

inductive D where
  | non | bl (b : Bool) | int (i : Int) | str (x : Str) | tup (xs : List D) | lst (xs : List D) | bor (xs : List D) | kl (xs : List D) | deal
  | ins (C : Addr) (ks : List Str) (xs : List D)
  | set (xs : List D)
  | dic (ks : List Key) (xs : List D)
  | dct (ks : List (List Key)) (xs : List D)
  /-- a tuple of which no method is called -/
  | ltp (xs : List D)
def kD : Key → D
  | .inl i => .int i
  | .inr x => .str x

structure Kx where
  K : PySem.W.Frag
  /-- is there a deal? where -/
  on : Bool
  dl : Addr
  cl : Addr
  /-- lists of a caller's that are lent -/
  B : Hp
  /-- tables of code objects -/
  T : List (Addr × Str)
  P : Program
  w : World
def Kx.hot (k : Kx) (a : Addr) : Prop := k.on = true ∧ (a = k.dl ∨ a = k.cl)

mutual
inductive Rep (k : Kx) (F : Hp) : V → D → Prop
  | non : Rep k F .non .non
  | bl (b : Bool) : Rep k F (.bl b) (.bl b)
  | int (i : Int) : Rep k F (.int i) (.int i)
  | str (x : Str) : Rep k F (.str x) (.str x)
  | tup {a : Addr} {vs : List V} {ds : List D} (h : SqT k.K F a vs) (r : Reps k F vs ds) (q : StrongT k.K F a vs) : Rep k F (.ref a) (.tup ds)
  | lst {a : Addr} {vs : List V} {ds : List D} (h : F a = some (.lst vs)) (r : Reps k F vs ds) : Rep k F (.ref a) (.lst ds)
  | bor {a : Addr} {vs : List V} {ds : List D} (h : k.B a = some (.lst vs)) (r : Reps k F vs ds) : Rep k F (.ref a) (.bor ds)
  | kl {a : Addr} {vs : List V} {ds : List D} (h : SqL k.K F a vs) (r : Reps k F vs ds) : Rep k F (.ref a) (.kl ds)
  | deal (h : k.on = true) : Rep k F (.ref k.dl) .deal
  | ins {a C dx : Addr} {fs : List (Str × V)} {ks : List Str} {xs : List D} (h : F a = some (.ins C dx fs)) (h2 : F dx = some (.own a)) (e : fs.map (·.1) = ks) (r : Reps k F (fs.map (·.2)) xs) : Rep k F (.ref a) (.ins C ks xs)
  | ltp {a : Addr} {vs : List V} {ds : List D} (h : SqT k.K F a vs) (r : Reps k F vs ds) : Rep k F (.ref a) (.ltp ds)
  | setK {a : Addr} {φ : Heap → Prop} {ks : List Key} (h : F a = some (.ext φ)) (hp : ∀ hh, φ hh → SetKM k.P k.w hh a ks) : Rep k F (.ref a) (.set (ks.map kD))
  | setT {a : Addr} {φ : Heap → Prop} {L : List (Addr × List Key)} (h : F a = some (.ext φ)) (hp : ∀ hh, φ hh → SetTM k.P k.w hh a L) (r : ∀ p ∈ L, SqT k.K F p.1 (p.2.map kV)) : Rep k F (.ref a) (.set (L.map fun p => .tup (p.2.map kD)))
  | dic {a : Addr} {kvs : List (Key × V)} {ks : List Key} {xs : List D} (h : F a = some (.dK kvs)) (e : kvs.map (·.1) = ks) (r : Reps k F (kvs.map (·.2)) xs) : Rep k F (.ref a) (.dic ks xs)
  | dct {a : Addr} {kvs : List (List Key × V)} {ks : List (List Key)} {xs : List D} (h : F a = some (.dT kvs)) (e : kvs.map (·.1) = ks) (r : Reps k F (kvs.map (·.2)) xs) : Rep k F (.ref a) (.dct ks xs)
inductive Reps (k : Kx) (F : Hp) : List V → List D → Prop
  | nil : Reps k F [] []
  | cons {v : V} {vs : List V} {d : D} {ds : List D} (h : Rep k F v d) (t : Reps k F vs ds) : Reps k F (v :: vs) (d :: ds)
end

theorem sqt_mono {K : PySem.W.Frag} {F F' : Hp} (s : Same F F') {a : Addr} {xs : List V} (h : SqT K F a xs) : SqT K F' a xs := by
  rcases h with (h | ⟨o, h⟩) | h
  · exact .inl (.inl (s _ _ h))
  · exact .inl (.inr ⟨o, s _ _ h⟩)
  · exact .inr h

theorem sql_mono {K : PySem.W.Frag} {F F' : Hp} (s : Same F F') {a : Addr} {xs : List V} (h : SqL K F a xs) : SqL K F' a xs := by
  rcases h with (h | ⟨o, h⟩) | h
  · exact .inl (.inl (s _ _ h))
  · exact .inl (.inr ⟨o, s _ _ h⟩)
  · exact .inr h
section
variable {k : Kx} {F F' H : Hp}
mutual
theorem Rep.mono (s : Same F F') : ∀ {v : V} {d : D}, Rep k F v d → Rep k F' v d
  | _, _, .non => .non
  | _, _, .bl b => .bl b
  | _, _, .int i => .int i
  | _, _, .str x => .str x
  | _, _, .tup h r q => .tup (sqt_mono s h) (Reps.mono s r) (q.mono s)
  | _, _, .ltp h r => .ltp (sqt_mono s h) (Reps.mono s r)
  | _, _, .lst h r => .lst (s _ _ h) (Reps.mono s r)
  | _, _, .bor h r => .bor h (Reps.mono s r)
  | _, _, .kl h r => .kl (sql_mono s h) (Reps.mono s r)
  | _, _, .deal h => .deal h
  | _, _, .ins h h2 e r => .ins (s _ _ h) (s _ _ h2) e (Reps.mono s r)
  | _, _, .setK h hp => .setK (s _ _ h) hp
  | _, _, .setT h hp r => .setT (s _ _ h) hp (fun p hq => sqt_mono s (r p hq))
  | _, _, .dic h e r => .dic (s _ _ h) e (Reps.mono s r)
  | _, _, .dct h e r => .dct (s _ _ h) e (Reps.mono s r)
theorem Reps.mono (s : Same F F') : ∀ {vs : List V} {ds : List D}, Reps k F vs ds → Reps k F' vs ds
  | _, _, .nil => .nil
  | _, _, .cons h t => .cons (Rep.mono s h) (Reps.mono s t)
end
theorem Reps.length : ∀ {vs : List V} {ds : List D}, Reps k F vs ds → vs.length = ds.length
  | _, _, .nil => rfl
  | _, _, .cons _ t => congrArg (· + 1) (Reps.length t)
theorem Reps.get : ∀ {vs : List V} {ds : List D} {i : Nat} {v : V}, Reps k F vs ds → vs[i]? = some v → ∃ d, ds[i]? = some d ∧ Rep k F v d
  | _, _, _, _, .nil, e => by simp at e
  | _, _, 0, _, .cons h _, e => by simp at e; subst e; exact ⟨_, rfl, h⟩
  | _, _, i + 1, v, .cons _ t, e => by
    obtain ⟨d, h1, h2⟩ := Reps.get (i := i) (v := v) t (by simpa using e)
    exact ⟨d, by simpa using h1, h2⟩
theorem Reps.getD : ∀ {vs : List V} {ds : List D} {i : Nat} {d : D}, Reps k F vs ds → ds[i]? = some d → ∃ v, vs[i]? = some v ∧ Rep k F v d
  | _, _, _, _, .nil, e => by simp at e
  | _, _, 0, _, .cons h _, e => by simp at e; subst e; exact ⟨_, rfl, h⟩
  | _, _, i + 1, d, .cons _ t, e => by
    obtain ⟨v, h1, h2⟩ := Reps.getD (i := i) (d := d) t (by simpa using e)
    exact ⟨v, by simpa using h1, h2⟩
theorem Reps.append : ∀ {vs ws : List V} {ds es : List D}, Reps k F vs ds → Reps k F ws es → Reps k F (vs ++ ws) (ds ++ es)
  | _, _, _, _, .nil, h => h
  | _, _, _, _, .cons h t, r => .cons h (Reps.append t r)
theorem Reps.set : ∀ {vs : List V} {ds : List D} (i : Nat) {v : V} {d : D}, Reps k F vs ds → Rep k F v d → Reps k F (vs.set i v) (ds.set i d)
  | _, _, _, _, _, .nil, _ => .nil
  | _, _, 0, _, _, .cons _ t, q => .cons q t
  | _, _, i + 1, _, _, .cons h t, q => .cons h (Reps.set i t q)
theorem Reps.take : ∀ {vs : List V} {ds : List D} (n : Nat), Reps k F vs ds → Reps k F (vs.take n) (ds.take n)
  | _, _, 0, _ => by simpa using Reps.nil
  | _, _, _ + 1, .nil => .nil
  | _, _, n + 1, .cons h t => .cons h (Reps.take n t)
theorem Reps.drop : ∀ {vs : List V} {ds : List D} (n : Nat), Reps k F vs ds → Reps k F (vs.drop n) (ds.drop n)
  | _, _, 0, r => r
  | _, _, _ + 1, .nil => .nil
  | _, _, n + 1, .cons _ t => Reps.drop n t
theorem Reps.nil_iff : ∀ {vs : List V} {ds : List D}, Reps k F vs ds → (vs = [] ↔ ds = [])
  | _, _, .nil => by simp
  | _, _, .cons _ _ => by simp
end

/-! ### answers -/
abbrev DS := List Int × Int
inductive Out (α : Type) where
  | ok (a : α) (st : DS)
  | err (C : Addr) (fs : List (Str × D)) (st : DS)
  | stuck
def Out.bind {α β : Type} (o : Out α) (f : α → DS → Out β) : Out β := match o with
  | .ok a st => f a st
  | .err C fs st => .err C fs st
  | .stuck => .stuck
def M (α : Type) := DS → Out α
@[reducible] instance : Monad M where
  pure a := fun st => .ok a st
  bind m f := fun st => (m st).bind f
def halt {α : Type} : M α := fun _ => .stuck
def guardM (c : Bool) : M Unit := fun st => if c then .ok () st else .stuck

/-- how a frame's slot stands: data, or a list that this frame alone has -/
inductive OD where
  | ls (xs : List D)
  | dk (kv : List (Key × D))
  | dt (kv : List (List Key × D))
instance : Coe (List D) OD := ⟨OD.ls⟩
inductive Sl where
  | dat (d : D)
  | own (o : OD)
abbrev Ev := List (Option Sl)
abbrev EM := Ev → M D

structure At (k : Kx) (H : Hp) (st : DS) : Prop where
  few : st.1.length ≤ 63
  dl : H k.dl = some (.lst [.ref k.cl, .int st.2])
  cl : H k.cl = some (.lst (st.1.map V.int))
structure Hid (k : Kx) (F : Hp) : Prop where
  fdl : F k.dl = none
  fcl : F k.cl = none
  ne : k.dl ≠ k.cl
  bdl : k.B k.dl = none
  bcl : k.B k.cl = none
theorem At.upd {k : Kx} {H : Hp} {st : DS} (h : k.on = true) (A : At k H st) {p : Addr} (n : ¬ k.hot p) {ob : HO} : At k (upd H p ob) st :=
  ⟨A.few, by rw [upd_ne (fun z => n ⟨h, .inl z.symm⟩)]; exact A.dl, by rw [upd_ne (fun z => n ⟨h, .inr z.symm⟩)]; exact A.cl⟩
structure Step (k : Kx) (F H F' H' : Hp) (st' : DS) : Prop where
  ext : Same F F'
  stay : ∀ a o, H a = some o → ¬ k.hot a → (∀ ps, o ≠ .tbl ps) → H' a = some o
  kept : ∀ a o, H a = some o → ∃ o', H' a = some o'
  nof : ∀ a o, H a = some o → F a = none → F' a = none
  tabs : LamX.Tabs k.T H'
  ftbl : ∀ b o, F' b = some o → ∀ ps, o ≠ .tbl ps
  sub : Same F' H'
  at_ : k.on = true → At k H' st'
/-- what an object that a frame alone has holds -/
def RepO (k : Kx) (F : Hp) (ob : HO) : OD → Prop
  | .ls xs => ∃ vs, ob = .lst vs ∧ Reps k F vs xs
  | .dk kv => ∃ kvs, ob = .dK kvs ∧ kvs.map (·.1) = kv.map (·.1) ∧ Reps k F (kvs.map (·.2)) (kv.map (·.2))
  | .dt kv => ∃ kvs, ob = .dT kvs ∧ kvs.map (·.1) = kv.map (·.1) ∧ Reps k F (kvs.map (·.2)) (kv.map (·.2))
theorem RepO.mono {k : Kx} {F F' : Hp} (s : Same F F') {ob : HO} {o : OD} (h : RepO k F ob o) : RepO k F' ob o := by
  cases o with
  | ls xs => obtain ⟨vs, e, r⟩ := h; exact ⟨vs, e, Reps.mono s r⟩
  | dk kv => obtain ⟨vs, e, q, r⟩ := h; exact ⟨vs, e, q, Reps.mono s r⟩
  | dt kv => obtain ⟨vs, e, q, r⟩ := h; exact ⟨vs, e, q, Reps.mono s r⟩
theorem RepO.ntbl {k : Kx} {F : Hp} {ob : HO} {o : OD} (h : RepO k F ob o) : ∀ ps, ob ≠ .tbl ps := by
  cases o with
  | ls xs => obtain ⟨vs, e, r⟩ := h; subst e; exact fun ps z => by cases z
  | dk kv => obtain ⟨vs, e, q, r⟩ := h; subst e; exact fun ps z => by cases z
  | dt kv => obtain ⟨vs, e, q, r⟩ := h; subst e; exact fun ps z => by cases z
theorem RepO.lstdk {k : Kx} {F : Hp} {ob : HO} {o : OD} (h : RepO k F ob o) : (∃ ws, ob = .lst ws) ∨ (∃ kv, ob = .dK kv) ∨ ∃ kv, ob = .dT kv := by
  cases o with
  | ls xs => obtain ⟨vs, e, r⟩ := h; exact .inl ⟨_, e⟩
  | dk kv => obtain ⟨vs, e, q, r⟩ := h; exact .inr (.inl ⟨_, e⟩)
  | dt kv => obtain ⟨vs, e, q, r⟩ := h; exact .inr (.inr ⟨_, e⟩)
def SlV (k : Kx) (F H : Hp) (v : V) : Sl → Prop
  | .dat d => Rep k F v d
  | .own o => ∃ a ob, v = .ref a ∧ H a = some ob ∧ F a = none ∧ ¬ k.hot a ∧ k.B a = none ∧ RepO k F ob o
structure Ok (k : Kx) (F H : Hp) (σ : L2.St) (Γ : Ev) (st : DS) : Prop where
  sub : Same F H
  at_ : k.on = true → At k H st
  hid : k.on = true → Hid k F
  bsub : Same k.B H
  blst : ∀ a o, k.B a = some o → ∃ vs, o = .lst vs
  tabs : LamX.Tabs k.T H
  ftbl : ∀ b o, F b = some o → ∀ ps, o ≠ .tbl ps
  len : σ.length = Γ.length
  slot : ∀ (i : Nat) (x : Sl), Γ[i]? = some (some x) → ∃ v, σ[i]? = some (some v) ∧ SlV k F H v x
  apart : ∀ (i j : Nat) (xs ys : OD) (a : Addr), Γ[i]? = some (some (.own xs)) → Γ[j]? = some (some (.own ys)) → σ[i]? = some (some (.ref a)) → σ[j]? = some (some (.ref a)) → i = j

section
variable {k : Kx} {F H F1 H1 F2 H2 : Hp} {σ : L2.St} {Γ : Ev} {st st1 st2 : DS}
theorem Ok.refl (o : Ok k F H σ Γ st) : Step k F H F H st := ⟨fun _ _ h => h, fun _ _ h _ _ => h, fun _ o h => ⟨o, h⟩, fun _ _ _ h => h, o.tabs, o.ftbl, o.sub, o.at_⟩
theorem Ok.cold (o : Ok k F H σ Γ st) {p : Addr} (np : H p = none) : ¬ k.hot p := fun ⟨h, z⟩ => by
  rcases z with z | z
  · rw [z, (o.at_ h).dl] at np; cases np
  · rw [z, (o.at_ h).cl] at np; cases np
theorem Ok.bcold (o : Ok k F H σ Γ st) {p : Addr} {x : HO} (e : k.B p = some x) : ¬ k.hot p := fun ⟨h, z⟩ => by
  rcases z with z | z
  · rw [z, (o.hid h).bdl] at e; cases e
  · rw [z, (o.hid h).bcl] at e; cases e
theorem ltbl {vs : List V} : ∀ ps, HO.lst vs ≠ .tbl ps := fun _ z => by cases z
theorem tabs_upd {T : List (Addr × Str)} {p : Addr} (h : LamX.Tabs T H) (hp : H p = none ∨ ∃ ob0, H p = some ob0 ∧ ((∃ ws, ob0 = .lst ws) ∨ (∃ kv, ob0 = .dK kv) ∨ ∃ kv, ob0 = .dT kv)) {ob : HO} : LamX.Tabs T (upd H p ob) := fun q hq => by
  obtain ⟨ps, h1, h2, h3⟩ := h q hq
  have ne : ∀ {b o}, H b = some o → (∀ ws, o ≠ .lst ws) → (∀ kv, o ≠ .dK kv) → (∀ kv, o ≠ .dT kv) → b ≠ p := fun e n n2 n3 z => by
    rw [z] at e
    rcases hp with hp | ⟨ob0, hp, hq⟩
    · rw [hp] at e; cases e
    · rw [hp] at e
      cases e
      rcases hq with ⟨ws, rfl⟩ | ⟨kv, rfl⟩ | ⟨kv, rfl⟩
      · exact n ws rfl
      · exact n2 kv rfl
      · exact n3 kv rfl
  refine ⟨ps, by rw [upd_ne (ne h1 (fun _ z => by cases z) (fun _ z => by cases z) fun _ z => by cases z)]; exact h1, h2, fun pos cv hc => ?_⟩
  obtain ⟨c, e1, e2⟩ := h3 pos cv hc
  exact ⟨c, e1, by rw [upd_ne (ne e2 (fun _ z => by unfold LamX.CodeO at z; cases z) (fun _ z => by unfold LamX.CodeO at z; cases z) fun _ z => by unfold LamX.CodeO at z; cases z)]; exact e2⟩
theorem Step.trans (s1 : Step k F H F1 H1 st1) (s2 : Step k F1 H1 F2 H2 st2) : Step k F H F2 H2 st2 where
  ext := s1.ext.trans s2.ext
  stay := fun a o h n1 n3 => s2.stay a o (s1.stay a o h n1 n3) n1 n3
  kept := fun a o h => let ⟨o1, h1⟩ := s1.kept a o h; s2.kept a o1 h1
  nof := fun a o h f => let ⟨o1, h1⟩ := s1.kept a o h; s2.nof a o1 h1 (s1.nof a o h f)
  tabs := s2.tabs
  ftbl := s2.ftbl
  sub := s2.sub
  at_ := s2.at_
theorem Ok.trans (o : Ok k F H σ Γ st) (s1 : Step k F H F1 H1 st1) (s2 : Step k F1 H1 F2 H2 st2) : Step k F H F2 H2 st2 :=
  s1.trans s2
theorem SlV.step {v : V} {x : Sl} (s : Step k F H F1 H1 st1) (h : SlV k F H v x) : SlV k F1 H1 v x := by
  cases x with
  | dat d => exact Rep.mono s.ext h
  | own xs =>
    obtain ⟨a, vs, e, ha, hf, n1, nb, r⟩ := h
    exact ⟨a, vs, e, s.stay _ _ ha n1 r.ntbl, s.nof _ _ ha hf, n1, nb, r.mono s.ext⟩
theorem Ok.step (o : Ok k F H σ Γ st) (s : Step k F H F1 H1 st1) : Ok k F1 H1 σ Γ st1 where
  sub := s.sub
  at_ := s.at_
  hid := fun h => ⟨s.nof _ _ (o.at_ h).dl (o.hid h).fdl, s.nof _ _ (o.at_ h).cl (o.hid h).fcl, (o.hid h).ne, (o.hid h).bdl, (o.hid h).bcl⟩
  bsub := fun b x e => s.stay b x (o.bsub b x e) (o.bcold e) (fun ps z => by obtain ⟨vs, q⟩ := o.blst b x e; rw [q] at z; cases z)
  blst := o.blst
  tabs := s.tabs
  ftbl := s.ftbl
  len := o.len
  slot := fun i x h => let ⟨v, e, q⟩ := o.slot i x h; ⟨v, e, q.step s⟩
  apart := o.apart
/-- a new object is laid and frozen -/
theorem Ok.new (o : Ok k F H σ Γ st) {p : Addr} {ob : HO} (np : H p = none) (hob : ∀ ps, ob ≠ .tbl ps := by intro _ z; cases z) : Step k F H (upd F p ob) (upd H p ob) st where
  ext := fun b x h => by rw [upd_ne (ne_of_none (o.sub _ _ h) np)]; exact h
  stay := fun a x h _ _ => by rw [upd_ne (ne_of_none h np)]; exact h
  kept := fun a x h => ⟨x, by rw [upd_ne (ne_of_none h np)]; exact h⟩
  nof := fun a x h f => by rw [upd_ne (ne_of_none h np)]; exact f
  tabs := tabs_upd o.tabs (.inl np)
  ftbl := fun b x h => by
    by_cases hb : b = p
    · subst hb; rw [upd_same] at h; cases h; exact hob
    · rw [upd_ne hb] at h; exact o.ftbl _ _ h
  sub := fun b x h => by
    by_cases hb : b = p
    · subst hb; rw [upd_same] at h ⊢; exact h
    · rw [upd_ne hb] at h ⊢; exact o.sub _ _ h
  at_ := fun h => (o.at_ h).upd h (o.cold np)
/-- a new object is laid, not frozen -/
theorem Ok.new' (o : Ok k F H σ Γ st) {p : Addr} {ob : HO} (np : H p = none) : Step k F H F (upd H p ob) st where
  ext := fun _ _ h => h
  stay := fun a x h _ _ => by rw [upd_ne (ne_of_none h np)]; exact h
  kept := fun a x h => ⟨x, by rw [upd_ne (ne_of_none h np)]; exact h⟩
  nof := fun _ _ _ f => f
  tabs := tabs_upd o.tabs (.inl np)
  ftbl := o.ftbl
  sub := fun b x h => by rw [upd_ne (ne_of_none (o.sub _ _ h) np)]; exact o.sub _ _ h
  at_ := fun h => (o.at_ h).upd h (o.cold np)
theorem Ok.fnone (o : Ok k F H σ Γ st) {p : Addr} (np : H p = none) : F p = none := o.sub.free np
end

/-! ### wishes -/
abbrev XE := L2.St → XK
def RepX (k : Kx) (F : Hp) (vs : List (Str × V)) (fs : List (Str × D)) : Prop := vs.map (·.1) = fs.map (·.1) ∧ Reps k F (vs.map (·.2)) (fs.map (·.2))
def Wp (k : Kx) (E : XE) (σ : L2.St) (F H : Hp) {α : Type} (o : Out α) (R : α → Hp → Hp → DS → Prop) : Prop := match o with
  | .ok a st' => ∀ F' H', Step k F H F' H' st' → R a F' H' st'
  | .err C fs st' => ∀ F' H' da vs, Step k F H F' H' st' → H' da = some (.xd vs) → RepX k F' vs fs → E σ (.ref C) (some da) H'
  | .stuck => False
section
variable {k : Kx} {E : XE} {F H F1 H1 : Hp} {σ : L2.St} {Γ : Ev} {st st1 : DS} {α β : Type} {o : Out α} {R R' : α → Hp → Hp → DS → Prop}
theorem Wp.rebase (ok : Ok k F H σ Γ st) (s : Step k F H F1 H1 st1) (h : Wp k E σ F H o R) : Wp k E σ F1 H1 o R := by
  cases o with
  | ok a st' => exact fun F' H' s' => h F' H' (ok.trans s s')
  | err C fs st' => exact fun F' H' da vs s' => h F' H' da vs (ok.trans s s')
  | stuck => exact h
theorem Wp.mono (h : Wp k E σ F H o R) (q : ∀ a F' H' st', Step k F H F' H' st' → R a F' H' st' → R' a F' H' st') : Wp k E σ F H o R' := by
  cases o with
  | ok a st' => exact fun F' H' s' => q _ _ _ _ s' (h F' H' s')
  | err C fs st' => exact h
  | stuck => exact h
theorem Wp.bind {f : α → DS → Out β} {R : β → Hp → Hp → DS → Prop} (ok : Ok k F H σ Γ st) (h : Wp k E σ F H (o.bind f) R) : Wp k E σ F H o fun a F1 H1 st1 => Wp k E σ F1 H1 (f a st1) R := by
  cases o with
  | ok a st' => exact fun F' H' s' => Wp.rebase ok s' h
  | err C fs st' => exact h
  | stuck => exact h
end

/-! ### readings -/
def qD (k : Kx) (Q : VK) : D → Hp → Hp → DS → Prop := fun d F' H' _ => ∀ v, Rep k F' v d → Q v H'
def tM (k : Kx) (E : XE) (m : EM) : TE := fun σ H Q => ∃ F Γ st, Ok k F H σ Γ st ∧ Wp k E σ F H (m Γ st) (qD k Q)
def tT (k : Kx) (E : XE) (m : Ev → M Bool) : TT := fun σ H Q => ∃ F Γ st, Ok k F H σ Γ st ∧ Wp k E σ F H (m Γ st) fun b _ H' _ => Q b H'
def tA (k : Kx) (E : XE) (m : Ev → M (List D)) : TA := fun σ H Q => ∃ F Γ st, Ok k F H σ Γ st ∧ Wp k E σ F H (m Γ st) fun ds F' H' _ => ∀ vs, Reps k F' vs ds → Q vs H'

theorem PE.weak {X : Cx} {e : Expr} {t t' : TE} (h : PE X e t) (q : ∀ σ H Q, t' σ H Q → t σ H Q) : PE X e t' := ⟨fun pins s σ H Q I w => h.run pins s σ H Q I (q σ H Q w)⟩
theorem PT.weak {X : Cx} {e : Expr} {t t' : TT} (h : PT X e t) (q : ∀ σ H Q, t' σ H Q → t σ H Q) : PT X e t' := ⟨fun pins s σ H Q I w => h.run pins s σ H Q I (q σ H Q w)⟩
theorem PA.weak {X : Cx} {e : List Expr} {t t' : TA} (h : PA X e t) (q : ∀ σ H Q, t' σ H Q → t σ H Q) : PA X e t' := ⟨fun pos pins s σ H Q I w => h.run pos pins s σ H Q I (q σ H Q w)⟩
theorem PS.weak {X : Cx} {e : Stmt} {t t' : TS} (h : PS X e t) (q : ∀ σ H Q, t' σ H Q → t σ H Q) : PS X e t' := ⟨fun pins s σ H Q I w => h.run pins s σ H Q I (q _ _ _ w)⟩
theorem PSs.weak {X : Cx} {e : List Stmt} {t t' : TS} (h : PSs X e t) (q : ∀ σ H Q, t' σ H Q → t σ H Q) : PSs X e t' := ⟨fun pins s σ H Q I w => h.run pins s σ H Q I (q _ _ _ w)⟩

section
variable {k : Kx} {E : XE} {F H : Hp} {σ : L2.St} {Γ : Ev} {st : DS}
/-- an expression first, then the rest -/
theorem tM.then_ {m : EM} {α : Type} {f : D → M α} {R : α → Hp → Hp → DS → Prop} {Q : VK} (ok : Ok k F H σ Γ st) (h : Wp k E σ F H ((m Γ >>= f) st) R)
    (q : ∀ v d F1 H1 st1, Step k F H F1 H1 st1 → Ok k F1 H1 σ Γ st1 → Rep k F1 v d → Wp k E σ F1 H1 (f d st1) R → Q v H1) : tM k E m σ H Q :=
  ⟨F, Γ, st, ok, (Wp.bind (f := f) ok h).mono fun d F1 H1 st1 s w v r => q v d F1 H1 st1 s (ok.step s) r w⟩
theorem tT.then_ {m : Ev → M Bool} {α : Type} {f : Bool → M α} {R : α → Hp → Hp → DS → Prop} {Q : Bool → Hp → Prop} (ok : Ok k F H σ Γ st) (h : Wp k E σ F H ((m Γ >>= f) st) R)
    (q : ∀ b F1 H1 st1, Step k F H F1 H1 st1 → Ok k F1 H1 σ Γ st1 → Wp k E σ F1 H1 (f b st1) R → Q b H1) : tT k E m σ H Q :=
  ⟨F, Γ, st, ok, (Wp.bind (f := f) ok h).mono fun d F1 H1 st1 s w => q d F1 H1 st1 s (ok.step s) w⟩
theorem tA.then_ {m : Ev → M (List D)} {α : Type} {f : List D → M α} {R : α → Hp → Hp → DS → Prop} {Q : List V → Hp → Prop} (ok : Ok k F H σ Γ st) (h : Wp k E σ F H ((m Γ >>= f) st) R)
    (q : ∀ vs ds F1 H1 st1, Step k F H F1 H1 st1 → Ok k F1 H1 σ Γ st1 → Reps k F1 vs ds → Wp k E σ F1 H1 (f ds st1) R → Q vs H1) : tA k E m σ H Q :=
  ⟨F, Γ, st, ok, (Wp.bind (f := f) ok h).mono fun d F1 H1 st1 s w v r => q v d F1 H1 st1 s (ok.step s) r w⟩
/-- an answer at hand -/
theorem Wp.here {α : Type} {a : α} {R : α → Hp → Hp → DS → Prop} (ok : Ok k F H σ Γ st) (h : Wp k E σ F H (.ok a st) R) : R a F H st := h F H ok.refl
end
end FL

/-! FL2: expressions -/
namespace FL
open PySem PySem.Spec PyProof.Rows L2

/-! ### trees as PyData -/
mutual
def D.py : D → PyData
  | .non => .none
  | .bl b => .bool b
  | .int i => .int i
  | .str x => .str x
  | .tup xs => .tuple (D.pys xs)
  | .lst xs => .list (D.pys xs)
  | .bor xs => .list (D.pys xs)
  | .kl xs => .list (D.pys xs)
  | .deal => .none
  | .ins _ _ _ => .none
  | .ltp xs => .tuple (D.pys xs)
  | .set _ => .none
  | .dic _ _ => .none
  | .dct _ _ => .none
def D.pys : List D → List PyData
  | [] => []
  | d :: ds => D.py d :: D.pys ds
end
mutual
def D.plain : D → Bool
  | .tup xs => D.plains xs
  | .lst xs => D.plains xs
  | .bor xs => D.plains xs
  | .kl xs => D.plains xs
  | .deal => false
  | .ins _ _ _ => false
  | .ltp xs => D.plains xs
  | .set _ => false
  | .dic _ _ => false
  | .dct _ _ => false
  | _ => true
def D.plains : List D → Bool
  | [] => true
  | d :: ds => D.plain d && D.plains ds
end
theorem D.pys_map : ∀ ds : List D, D.pys ds = ds.map D.py
  | [] => by simp [D.pys]
  | d :: ds => by rw [D.pys, D.pys_map ds, List.map_cons]
theorem D.plains_all : ∀ ds : List D, D.plains ds = ds.all D.plain
  | [] => by simp [D.plains]
  | d :: ds => by rw [D.plains, D.plains_all ds, List.all_cons]
section
variable {k : Kx} {F H : Hp}
mutual
theorem Rep.dp (s : Same F H) (sb : Same k.B H) : ∀ {v : V} {d : D}, Rep k F v d → d.plain = true → Dp k.K H v d.py
  | _, _, .non, _ => by rw [D.py]; exact .non
  | _, _, .bl b, _ => by rw [D.py]; exact .bl b
  | _, _, .int i, _ => by rw [D.py]; exact .int i
  | _, _, .str x, _ => by rw [D.py]; exact .str x
  | _, _, .tup h r _, p => by rw [D.py]; exact .tup (sqt_mono s h) (Reps.dp s sb r (by rw [D.plain] at p; exact p))
  | _, _, .ltp h r, p => by rw [D.py]; exact .tup (sqt_mono s h) (Reps.dp s sb r (by rw [D.plain] at p; exact p))
  | _, _, .lst h r, p => by rw [D.py]; exact .lst (SqL.of (s _ _ h)) (Reps.dp s sb r (by rw [D.plain] at p; exact p))
  | _, _, .bor h r, p => by rw [D.py]; exact .lst (SqL.of (sb _ _ h)) (Reps.dp s sb r (by rw [D.plain] at p; exact p))
  | _, _, .kl h r, p => by rw [D.py]; exact .lst (sql_mono s h) (Reps.dp s sb r (by rw [D.plain] at p; exact p))
  | _, _, .deal _, p => by simp [D.plain] at p
  | _, _, .ins _ _ _ _, p => by simp [D.plain] at p
  | _, _, .setK _ _, p => by simp [D.plain] at p
  | _, _, .setT _ _ _, p => by simp [D.plain] at p
  | _, _, .dic _ _ _, p => by simp [D.plain] at p
  | _, _, .dct _ _ _, p => by simp [D.plain] at p
theorem Reps.dp (s : Same F H) (sb : Same k.B H) : ∀ {vs : List V} {ds : List D}, Reps k F vs ds → D.plains ds = true → DpAll k.K H vs (D.pys ds)
  | _, _, .nil, _ => by rw [D.pys]; exact .nil
  | _, _, .cons h t, p => by
    rw [D.plains, Bool.and_eq_true] at p
    rw [D.pys]
    exact .cons (Rep.dp s sb h p.1) (Reps.dp s sb t p.2)
end
end

section
variable {X : Cx} {k : Kx} {E : XE} {a b e : Expr} {ma mb : EM} {pos : Pos} {x : Str} {p : Pos}

/-! ### constants, names -/
def mC (d : D) : EM := fun _ st => .ok d st
theorem e_const {v : V} {d : D} (h : PE X e (tC v)) (r : ∀ F, Rep k F v d) : PE X e (tM k E (mC d)) :=
  PE.weak h fun σ H Q ⟨F, Γ, st, ok, w⟩ => w F H ok.refl v (r F)
theorem e_int {i : Int} {j : Nat} : PE X (.Constant (.int i) j pos) (tM k E (mC (.int i))) := e_const pe_int fun _ => .int i
theorem e_bl {i : Bool} {j : Nat} : PE X (.Constant (.bool i) j pos) (tM k E (mC (.bl i))) := e_const pe_bl fun _ => .bl i
theorem e_non {j : Nat} : PE X (.Constant .none j pos) (tM k E (mC .non)) := e_const pe_non fun _ => .non
theorem e_str {z : Str} {j : Nat} : PE X (.Constant (.str z) j pos) (tM k E (mC (.str z))) := e_const pe_str fun _ => .str z
def mVar (i : Nat) : EM := fun Γ st => match Γ[i]? with
  | some (some (.dat d)) => .ok d st
  | _ => .stuck
theorem e_var (i : Nat) {x : Str} (hN : X.N[i]? = some x := by rfl) (hv : Vis X.env.scope x := by first | exact Or.inl rfl | exact Or.inr (Or.inl rfl) | exact Or.inr (Or.inr rfl)) (hd : (x == ("__debug__" : Str)) = false := by decide)
    (hcd : (x == ("__classdict__" : Str)) = false := by decide) : PE X (.Name x pos) (tM k E (mVar i)) :=
  PE.weak (pv i hN hv hd hcd) fun σ H Q ⟨F, Γ, st, ok, w⟩ => by
    unfold mVar at w
    split at w
    · rename_i d e
      obtain ⟨v, e2, r⟩ := ok.slot i _ e
      exact ⟨v, e2, w F H ok.refl v r⟩
    · exact w.elim

/-! ### two values -/
abbrev M2 := D → D → M D
def OpS (X : Cx) (k : Kx) (f : Value → Value → Sem Value) (g : M2) : Prop :=
  ∃ r : R2, OpR X f r ∧ ∀ {E : XE} {σ : L2.St} {F H : Hp} {Γ : Ev} {st : DS} {x y : V} {d e : D} {Q : VK}, Ok k F H σ Γ st → Rep k F x d → Rep k F y e → Wp k E σ F H (g d e st) (qD k Q) → r x y H Q
def mOp (g : M2) (ma mb : EM) : EM := fun Γ => do
  let d ← ma Γ
  let e ← mb Γ
  g d e
theorem tM.two {g : M2} {r : R2} {σ : L2.St} {H : Hp} {Q : VK}
    (hr : ∀ {E : XE} {σ : L2.St} {F H : Hp} {Γ : Ev} {st : DS} {x y : V} {d e : D} {Q : VK}, Ok k F H σ Γ st → Rep k F x d → Rep k F y e → Wp k E σ F H (g d e st) (qD k Q) → r x y H Q)
    (h : tM k E (mOp g ma mb) σ H Q) : tOp r (tM k E ma) (tM k E mb) σ H Q := by
  obtain ⟨F, Γ, st, ok, w⟩ := h
  refine tM.then_ ok w fun v d F1 H1 st1 s1 ok1 r1 w1 => ?_
  exact tM.then_ ok1 w1 fun u e F2 H2 st2 s2 ok2 r2 w2 => hr ok2 (r1.mono s2.ext) r2 w2
theorem e_op {op : Operator} {g : M2} (ho : OpS X k (binaryOp op) g) (ha : PE X a (tM k E ma)) (hb : PE X b (tM k E mb)) : PE X (.BinOp a op b pos) (tM k E (mOp g ma mb)) := by
  obtain ⟨r, h1, h2⟩ := ho
  exact PE.weak (pe_op h1 ha hb) fun σ H Q h => tM.two h2 h
theorem e_cmp {op : CmpOp} {g : M2} (ho : OpS X k (compareOp op) g) (ha : PE X a (tM k E ma)) (hb : PE X b (tM k E mb)) (hm : behindInMarks op b = false := by first | exact nomark _ | rfl) : PE X (.Compare a [op] [b] pos) (tM k E (mOp g ma mb)) := by
  obtain ⟨r, h1, h2⟩ := ho
  exact PE.weak (pe_cmpR h1 ha hb hm) fun σ H Q h => tM.two h2 h
/-- ints -/
def g2I (c : Int → Int → Bool) (f : Int → Int → D) : M2 := fun d e st => match d, e with
  | .int i, .int j => if c i j then .ok (f i j) st else .stuck
  | _, _ => .stuck
theorem g2I_use {c : Int → Int → Bool} {f : Int → Int → D} {σ : L2.St} {F H : Hp} {st : DS} {x y : V} {d e : D} {Q : VK} {fV : Int → Int → V} (o : Step k F H F H st) (hf : ∀ i j, Rep k F (fV i j) (f i j)) (rx : Rep k F x d) (ry : Rep k F y e)
    (w : Wp k E σ F H (g2I c f d e st) (qD k Q)) : ∃ i j, x = .int i ∧ y = .int j ∧ c i j = true ∧ Q (fV i j) H := by
  unfold g2I at w
  split at w
  · rename_i i j
    cases rx
    cases ry
    split at w
    · rename_i hc
      exact ⟨i, j, rfl, rfl, hc, w F H o _ (hf i j)⟩
    · exact w.elim
  · exact w.elim
theorem ops_I {f : Value → Value → Sem Value} {C : Int → Int → Prop} {c : Int → Int → Bool} {g : Int → Int → V} {gD : Int → Int → D} (ho : OpR X f (rI C g)) (hc : ∀ i j, c i j = true → C i j) (hg : ∀ F i j, Rep k F (g i j) (gD i j)) : OpS X k f (g2I c gD) :=
  ⟨_, ho, fun {E σ F H Γ st x y d e Q} ok rx ry w => by
    obtain ⟨i, j, e1, e2, e3, q⟩ := g2I_use ok.refl (hg F) rx ry w
    exact ⟨i, j, e1, e2, hc i j e3, q⟩⟩
theorem ops_I0 {f : Value → Value → Sem Value} {g : Int → Int → V} {gD : Int → Int → D} (ho : OpR X f (rI0 g)) (hg : ∀ F i j, Rep k F (g i j) (gD i j)) : OpS X k f (g2I (fun _ _ => true) gD) :=
  ⟨_, ho, fun {E σ F H Γ st x y d e Q} ok rx ry w => by
    obtain ⟨i, j, e1, e2, e3, q⟩ := g2I_use ok.refl (hg F) rx ry w
    exact ⟨i, j, e1, e2, q⟩⟩
def gSub : M2 := g2I (fun _ _ => true) fun i j => .int (i - j)
def gMod : M2 := g2I (fun _ j => decide (0 < j)) fun i j => .int (i % j)
def gDiv : M2 := g2I (fun _ j => decide (0 < j ∧ j < 1073741824)) fun i j => .int (i / j)
def gPow : M2 := g2I (fun i j => decide (0 ≤ j ∧ j ≤ 1000000 ∧ i.natAbs < 2 ^ 64)) fun i j => .int (i ^ j.toNat)
def gLt : M2 := g2I (fun _ _ => true) fun i j => .bl (decide (i < j))
def gLe : M2 := g2I (fun _ _ => true) fun i j => .bl (decide (i ≤ j))
def gGt : M2 := g2I (fun _ _ => true) fun i j => .bl (decide (j < i))
def gGe : M2 := g2I (fun _ _ => true) fun i j => .bl (decide (j ≤ i))
theorem s_sub : OpS X k (binaryOp .Sub) gSub := ops_I0 op_sub fun _ i j => .int (i - j)
theorem s_mod : OpS X k (binaryOp .Mod) gMod := ops_I op_mod (fun _ _ h => of_decide_eq_true h) fun _ i j => .int (i % j)
theorem s_div : OpS X k (binaryOp .FloorDiv) gDiv := ops_I op_fdiv (fun i j h => (of_decide_eq_true h : 0 < j ∧ j < 1073741824)) fun _ i j => .int (i / j)
theorem s_pow : OpS X k (binaryOp .Pow) gPow := ops_I op_pow (fun i j h => (of_decide_eq_true h : 0 ≤ j ∧ j ≤ 1000000 ∧ i.natAbs < 2 ^ 64)) fun _ i j => .int (i ^ j.toNat)
theorem s_lt : OpS X k (compareOp .Lt) gLt := ops_I0 op_lt fun _ i j => .bl (decide (i < j))
theorem s_le : OpS X k (compareOp .LtE) gLe := ops_I0 op_le fun _ i j => .bl (decide (i ≤ j))
theorem s_gt : OpS X k (compareOp .Gt) gGt := ops_I0 op_gt fun _ i j => .bl (decide (j < i))
theorem s_ge : OpS X k (compareOp .GtE) gGe := ops_I0 op_ge fun _ i j => .bl (decide (j ≤ i))
/-- + of ints, texts, tuples, lists -/
def gAdd : M2 := fun d e st => match d, e with
  | .int i, .int j => .ok (.int (i + j)) st
  | .str x, .str y => if decide (x.length + y.length ≤ sizeLine) then .ok (.str (x ++ y)) st else .stuck
  | .tup xs, .tup ys => if decide (xs.length + ys.length ≤ sizeLine) then .ok (.tup (xs ++ ys)) st else .stuck
  | .lst xs, .lst ys => if decide (xs.length + ys.length ≤ sizeLine) then .ok (.lst (xs ++ ys)) st else .stuck
  | _, _ => .stuck
theorem sqt_up {K : PySem.W.Frag} {F H : Hp} (s : Same F H) {a : Addr} {xs : List V} (h : SqT K F a xs) : SqT K H a xs := sqt_mono s h
theorem s_add (hk : k.K = X.K := by rfl) : OpS X k (binaryOp .Add) gAdd := by
  refine ⟨_, op_add.or (op_add_str.or (op_catS.or op_cat)), fun {E σ F H Γ st x y d e Q} ok rx ry w => ?_⟩
  unfold gAdd at w
  split at w
  · rename_i i j
    cases rx
    cases ry
    exact .inl ⟨i, j, rfl, rfl, w F H ok.refl _ (.int _)⟩
  · rename_i i j
    cases rx
    cases ry
    split at w
    · rename_i hc
      exact .inr (.inl ⟨i, j, rfl, rfl, of_decide_eq_true hc, w F H ok.refl _ (.str _)⟩)
    · exact w.elim
  · rename_i xs ys
    split at w
    · rename_i hc
      have hc := of_decide_eq_true hc
      cases rx with
      | tup hx r1 q1 =>
        cases ry with
        | tup hy r2 q2 =>
          rw [← r1.length, ← r2.length] at hc
          rw [hk] at hx hy
          refine .inr (.inr (.inl ⟨_, _, _, _, rfl, rfl, sqt_mono ok.sub hx, sqt_mono ok.sub hy, hc, fun z => ?_, fun z1 z2 => ?_, fun z1 z2 p ob np nd => ?_⟩))
          · subst z
            cases r1
            exact w F H ok.refl _ (.tup (by rw [hk]; exact hy) r2 q2)
          · subst z2
            cases r2
            exact w F H ok.refl _ (by rw [List.append_nil]; exact .tup (by rw [hk]; exact hx) r1 q1)
          · exact w _ _ (ok.new np) _ (.tup (sqt_frz upd_same) ((r1.append r2).mono (ok.new np).ext) (.of upd_same nd))
    · exact w.elim
  · rename_i xs ys
    split at w
    · rename_i hc
      have hc := of_decide_eq_true hc
      cases rx with
      | lst hx r1 =>
        cases ry with
        | lst hy r2 =>
          rw [← r1.length, ← r2.length] at hc
          refine .inr (.inr (.inr ⟨_, _, _, _, rfl, rfl, ok.sub _ _ hx, ok.sub _ _ hy, hc, fun p np => ?_⟩))
          exact w _ _ (ok.new np) _ (.lst upd_same ((r1.append r2).mono (ok.new np).ext))
    · exact w.elim
  · exact w.elim
/-- * of ints (one below 2 ^ 64), a list times an int -/
def gMul : M2 := fun d e st => match d, e with
  | .int i, .int j => if decide ((-(2 ^ 64) < i ∧ i < 2 ^ 64) ∨ (-(2 ^ 64) < j ∧ j < 2 ^ 64)) then .ok (.int (i * j)) st else .stuck
  | .lst xs, .int n => if decide (-(2 ^ 63) ≤ n ∧ n < 2 ^ 63 ∧ xs.length * n.toNat ≤ sizeLine) then .ok (.lst (List.replicate n.toNat xs).flatten) st else .stuck
  | _, _ => .stuck
theorem Reps.rep {F : Hp} {vs : List V} {ds : List D} (r : Reps k F vs ds) : ∀ n : Nat, Reps k F (List.replicate n vs).flatten (List.replicate n ds).flatten
  | 0 => by simpa using Reps.nil
  | n + 1 => by
    rw [List.replicate_succ, List.replicate_succ, List.flatten_cons, List.flatten_cons]
    exact r.append (Reps.rep r n)
theorem s_mul : OpS X k (binaryOp .Mult) gMul := by
  refine ⟨_, op_mul.or op_rep, fun {E σ F H Γ st x y d e Q} ok rx ry w => ?_⟩
  unfold gMul at w
  split at w
  · rename_i i j
    cases rx
    cases ry
    split at w
    · rename_i hc
      exact .inl ⟨i, j, rfl, rfl, (of_decide_eq_true hc : (-(2 ^ 64) < i ∧ i < 2 ^ 64) ∨ (-(2 ^ 64) < j ∧ j < 2 ^ 64)), w F H ok.refl _ (.int _)⟩
    · exact w.elim
  · rename_i xs n
    split at w
    · rename_i hc
      obtain ⟨h1, h2, h3⟩ := of_decide_eq_true hc
      cases ry
      cases rx with
      | lst hx r1 =>
        rw [← r1.length] at h3
        refine .inr ⟨_, _, _, rfl, rfl, ok.sub _ _ hx, h1, h2, h3, fun p np => ?_⟩
        exact w _ _ (ok.new np) _ (.lst upd_same ((r1.rep _).mono (ok.new np).ext))
    · exact w.elim
  · exact w.elim
/-- == and != of data -/
def twoStr : D → D → Bool
  | .str _, .str _ => true
  | _, _ => false
def eqOk (d e : D) : Bool := twoStr d e || (d.plain && e.plain && SeqAt.shaped d.py && SeqAt.shaped e.py)
def eqD (d e : D) : Bool := PyData.eqv d.py e.py
def gEq : M2 := fun d e st => if eqOk d e then .ok (.bl (eqD d e)) st else .stuck
def gNe : M2 := fun d e st => if eqOk d e then .ok (.bl (!eqD d e)) st else .stuck
theorem eqOk_split {d e : D} (h : eqOk d e = true) : (∃ x y, d = .str x ∧ e = .str y) ∨ d.plain = true ∧ e.plain = true ∧ SeqAt.shaped d.py = true ∧ SeqAt.shaped e.py = true := by
  unfold eqOk at h
  simp only [Bool.or_eq_true, Bool.and_eq_true] at h
  rcases h with h | h
  · unfold twoStr at h
    split at h
    · exact .inl ⟨_, _, rfl, rfl⟩
    · cases h
  · exact .inr ⟨h.1.1.1, h.1.1.2, h.1.2, h.2⟩
theorem eqD_str {x y : Str} : eqD (.str x) (.str y) = decide (V.str x = V.str y) := by
  rw [dec_str]
  show PyData.eqv (.str x) (.str y) = _
  rw [PyData.eqv]
theorem s_eq (hu : X.A.units + 64 < cLine) (hk : k.K = X.K := by rfl) : OpS X k (compareOp .Eq) gEq :=
  ⟨_, op_eq.or (op_eqD hu), fun {E σ F H Γ st x y d e Q} ok rx ry w => by
    unfold gEq at w
    split at w
    · rename_i hc
      rcases eqOk_split hc with ⟨a, b, rfl, rfl⟩ | ⟨p1, p2, p3, p4⟩
      · cases rx
        cases ry
        rw [eqD_str] at w
        exact .inl ⟨rfl, w F H ok.refl _ (.bl _)⟩
      · exact .inr ⟨_, _, hk ▸ rx.dp ok.sub ok.bsub p1, hk ▸ ry.dp ok.sub ok.bsub p2, p3, p4, w F H ok.refl _ (.bl _)⟩
    · exact w.elim⟩
theorem s_ne (hu : X.A.units + 64 < cLine) (hk : k.K = X.K := by rfl) : OpS X k (compareOp .NotEq) gNe :=
  ⟨_, op_ne.or (op_neD hu), fun {E σ F H Γ st x y d e Q} ok rx ry w => by
    unfold gNe at w
    split at w
    · rename_i hc
      rcases eqOk_split hc with ⟨a, b, rfl, rfl⟩ | ⟨p1, p2, p3, p4⟩
      · cases rx
        cases ry
        rw [eqD_str] at w
        exact .inl ⟨rfl, w F H ok.refl _ (.bl _)⟩
      · exact .inr ⟨_, _, hk ▸ rx.dp ok.sub ok.bsub p1, hk ▸ ry.dp ok.sub ok.bsub p2, p3, p4, w F H ok.refl _ (.bl _)⟩
    · exact w.elim⟩

/-! ### one value -/
def mUn (g : D → M D) (ma : EM) : EM := fun Γ => do
  let d ← ma Γ
  g d
def gNeg : D → M D := fun d st => match d with
  | .int i => .ok (.int (-i)) st
  | _ => .stuck
theorem e_neg (ha : PE X a (tM k E ma)) : PE X (.UnaryOp .USub a pos) (tM k E (mUn gNeg ma)) :=
  PE.weak (pe_un un_neg ha) fun σ H Q ⟨F, Γ, st, ok, w⟩ => tM.then_ ok w fun v d F1 H1 st1 s1 ok1 r1 w1 => by
    unfold gNeg at w1
    split at w1
    · rename_i i
      cases r1
      exact ⟨i, rfl, w1 F1 H1 ok1.refl _ (.int _)⟩
    · exact w1.elim

/-! ### tests -/
def gB : D → M Bool := fun d st => match d with
  | .bl b => .ok b st
  | _ => .stuck
def mB (ma : EM) : Ev → M Bool := fun Γ => do
  let d ← ma Γ
  gB d
theorem gB_use {σ : L2.St} {F H : Hp} {Γ : Ev} {st : DS} {v : V} {d : D} {R : Bool → Hp → Hp → DS → Prop} (ok : Ok k F H σ Γ st) (r : Rep k F v d) (w : Wp k E σ F H (gB d st) R) : ∃ c, v = .bl c ∧ R c F H st := by
  unfold gB at w
  split at w
  · rename_i c
    cases r
    exact ⟨c, rfl, w F H ok.refl⟩
  · exact w.elim
theorem t_val (ha : PE X a (tM k E ma)) (he : ∀ whole, isTrue a X.env whole = (do let v ← whole; standAt a.pos; holding [v] (truthy v)) := by intro _; rfl) : PT X a (tT k E (mB ma)) :=
  PT.weak (pt_val ha he) fun σ H Q ⟨F, Γ, st, ok, w⟩ => tM.then_ ok w fun v d F1 H1 st1 s1 ok1 r1 w1 => gB_use ok1 r1 w1
theorem t_cmp {op : CmpOp} {g : M2} (ho : OpS X k (compareOp op) g) (ha : PE X a (tM k E ma)) (hb : PE X b (tM k E mb)) (hm : behindInMarks op b = false := by first | exact nomark _ | rfl) : PT X (.Compare a [op] [b] pos) (tT k E (mB (mOp g ma mb))) := by
  obtain ⟨r, h1, h2⟩ := ho
  refine PT.weak (pt_cmpR h1 ha hb hm) fun σ H Q ⟨F, Γ, st, ok, w⟩ => ?_
  refine tM.two (fun {E σ F H Γ st x y d e Q} => h2) ⟨F, Γ, st, ok, (Wp.bind (f := gB) ok w).mono fun d F1 H1 st1 s w1 v r => gB_use (ok.step s) r w1⟩
variable {tb : Ev → M Bool} {ta : Ev → M Bool} {rest : List Expr}
def mAndT (ta tb : Ev → M Bool) : Ev → M Bool := fun Γ => do
  let c ← ta Γ
  if c then tb Γ else pure false
def mOrT (ta tb : Ev → M Bool) : Ev → M Bool := fun Γ => do
  let c ← ta Γ
  if c then pure true else tb Γ
def mNotT (ta : Ev → M Bool) : Ev → M Bool := fun Γ => do
  let c ← ta Γ
  pure (!c)
structure PWm (X : Cx) (k : Kx) (E : XE) (e : Expr) (m : Ev → M Bool) : Prop where
  pw : PW X e (tT k E m)
theorem w_and1 (ha : PT X a (tT k E ta)) : PW X (.BoolOp .And [a] pos) (tT k E ta) := pw_and1 ha
theorem w_or1 (ha : PT X a (tT k E ta)) : PW X (.BoolOp .Or [a] pos) (tT k E ta) := pw_or1 ha
theorem PW.weak {t t' : TT} (h : PW X e t) (q : ∀ σ H Q, t' σ H Q → t σ H Q) : PW X e t' := ⟨fun wh pins s σ H Q I w => h.run wh pins s σ H Q I (q σ H Q w)⟩
theorem w_and (ha : PT X a (tT k E ta)) (hb : PW X (.BoolOp .And (b :: rest) pos) (tT k E tb)) : PW X (.BoolOp .And (a :: b :: rest) pos) (tT k E (mAndT ta tb)) :=
  PW.weak (pw_and ha hb) fun σ H Q ⟨F, Γ, st, ok, w⟩ => tT.then_ ok w fun c F1 H1 st1 s1 ok1 w1 => by
    cases c with
    | true => exact iteT ⟨F1, Γ, st1, ok1, w1⟩
    | false => exact iteF (w1 F1 H1 ok1.refl)
theorem w_or (ha : PT X a (tT k E ta)) (hb : PW X (.BoolOp .Or (b :: rest) pos) (tT k E tb)) : PW X (.BoolOp .Or (a :: b :: rest) pos) (tT k E (mOrT ta tb)) :=
  PW.weak (pw_or ha hb) fun σ H Q ⟨F, Γ, st, ok, w⟩ => tT.then_ ok w fun c F1 H1 st1 s1 ok1 w1 => by
    cases c with
    | true => exact iteT (w1 F1 H1 ok1.refl)
    | false => exact iteF ⟨F1, Γ, st1, ok1, w1⟩
theorem t_not (ha : PT X a (tT k E ta)) : PT X (.UnaryOp .Not a pos) (tT k E (mNotT ta)) :=
  PT.weak (pt_not ha) fun σ H Q ⟨F, Γ, st, ok, w⟩ => tT.then_ ok w fun c F1 H1 st1 s1 ok1 w1 => w1 F1 H1 ok1.refl
/-- and, or, not as values of bools -/
def mAnd (ma mb : EM) : EM := fun Γ => do
  let d ← ma Γ
  let c ← gB d
  if c then mb Γ else pure (.bl false)
def mOr (ma mb : EM) : EM := fun Γ => do
  let d ← ma Γ
  let c ← gB d
  if c then pure (.bl true) else mb Γ
def gNot : D → M D := fun d st => match d with
  | .bl b => .ok (.bl (!b)) st
  | _ => .stuck
theorem e_and (ha : PE X a (tM k E ma)) (hb : PE X (.BoolOp .And (b :: rest) pos) (tM k E mb)) : PE X (.BoolOp .And (a :: b :: rest) pos) (tM k E (mAnd ma mb)) :=
  PE.weak (pe_and ha hb) fun σ H Q ⟨F, Γ, st, ok, w⟩ => tM.then_ ok w fun v d F1 H1 st1 s1 ok1 r1 w1 => by
    obtain ⟨c, e1, w2⟩ := gB_use ok1 r1 (Wp.bind (f := fun (c : Bool) => (if c = true then mb Γ else pure (D.bl false) : M D)) ok1 w1)
    refine ⟨c, e1, ?_⟩
    cases c with
    | true => exact iteT ⟨F1, Γ, st1, ok1, w2⟩
    | false => exact iteF (w2 F1 H1 ok1.refl _ (.bl false))
theorem e_or (ha : PE X a (tM k E ma)) (hb : PE X (.BoolOp .Or (b :: rest) pos) (tM k E mb)) : PE X (.BoolOp .Or (a :: b :: rest) pos) (tM k E (mOr ma mb)) :=
  PE.weak (pe_or ha hb) fun σ H Q ⟨F, Γ, st, ok, w⟩ => tM.then_ ok w fun v d F1 H1 st1 s1 ok1 r1 w1 => by
    obtain ⟨c, e1, w2⟩ := gB_use ok1 r1 (Wp.bind (f := fun (c : Bool) => (if c = true then pure (D.bl true) else mb Γ : M D)) ok1 w1)
    refine ⟨c, e1, ?_⟩
    cases c with
    | true => exact iteT (w2 F1 H1 ok1.refl _ (.bl true))
    | false => exact iteF ⟨F1, Γ, st1, ok1, w2⟩
theorem e_one {op : BoolOp} (ha : PE X a (tM k E ma)) : PE X (.BoolOp op [a] pos) (tM k E ma) := pe_one ha
theorem e_not (ha : PE X a (tM k E ma)) : PE X (.UnaryOp .Not a pos) (tM k E (mUn gNot ma)) :=
  PE.weak (pe_not ha) fun σ H Q ⟨F, Γ, st, ok, w⟩ => tM.then_ ok w fun v d F1 H1 st1 s1 ok1 r1 w1 => by
    unfold gNot at w1
    split at w1
    · rename_i i
      cases r1
      exact ⟨i, rfl, w1 F1 H1 ok1.refl _ (.bl _)⟩
    · exact w1.elim
def mIf (t : Ev → M Bool) (ma mb : EM) : EM := fun Γ => do
  let c ← t Γ
  if c then ma Γ else mb Γ
theorem e_if {c : Expr} {t : Ev → M Bool} (hc : PT X c (tT k E t)) (ha : PE X a (tM k E ma)) (hb : PE X b (tM k E mb)) : PE X (.IfExp c a b pos) (tM k E (mIf t ma mb)) :=
  PE.weak (pe_ifExp hc ha hb) fun σ H Q ⟨F, Γ, st, ok, w⟩ => tT.then_ ok w fun c F1 H1 st1 s1 ok1 w1 => by
    cases c with
    | true => exact iteT ⟨F1, Γ, st1, ok1, w1⟩
    | false => exact iteF ⟨F1, Γ, st1, ok1, w1⟩

/-! ### argument lists, displays -/
def mNil : Ev → M (List D) := fun _ => pure []
def mCons (ma : EM) (mr : Ev → M (List D)) : Ev → M (List D) := fun Γ => do
  let d ← ma Γ
  let ds ← mr Γ
  pure (d :: ds)
variable {es : List Expr} {mr : Ev → M (List D)}
theorem a_nil : PA X [] (tA k E mNil) := PA.weak pa_nil fun σ H Q ⟨F, Γ, st, ok, w⟩ => w F H ok.refl _ .nil
theorem a_cons (ha : PE X a (tM k E ma)) (hr : PA X es (tA k E mr)) (hs : starEach (a :: es) X.env = (false, eval a X.env) :: starEach es X.env := by rfl) : PA X (a :: es) (tA k E (mCons ma mr)) :=
  PA.weak (pa_cons ha hr hs) fun σ H Q ⟨F, Γ, st, ok, w⟩ => tM.then_ ok w fun v d F1 H1 st1 s1 ok1 r1 w1 => by
    exact tA.then_ ok1 w1 fun vs ds F2 H2 st2 s2 ok2 r2 w2 => w2 F2 H2 ok2.refl _ (.cons (r1.mono s2.ext) r2)
def mTup (mr : Ev → M (List D)) : EM := fun Γ => do
  let ds ← mr Γ
  if decide (ds.length ≤ sizeLine) then pure (.tup ds) else halt
def mLst (mr : Ev → M (List D)) : EM := fun Γ => do
  let ds ← mr Γ
  if decide (ds.length ≤ sizeLine) then pure (.lst ds) else halt
theorem e_tup {x1 : Nat} (h : PA X es (tA k E mr)) : PE X (.Tuple es x1 pos) (tM k E (mTup mr)) :=
  PE.weak (pe_tupS h) fun σ H Q ⟨F, Γ, st, ok, w⟩ => tA.then_ ok w fun vs ds F1 H1 st1 s1 ok1 r1 w1 => by
    split at w1
    · rename_i hc
      refine ⟨by rw [r1.length]; exact of_decide_eq_true hc, fun p ob np nd => ?_⟩
      have s := ok1.new (ob := .frz ob (.tup vs)) np
      exact w1 _ _ s _ (.tup (sqt_frz upd_same) (r1.mono s.ext) (.of upd_same nd))
    · exact w1.elim
theorem e_lst (h : PA X es (tA k E mr)) : PE X (.List es pos) (tM k E (mLst mr)) :=
  PE.weak (pe_lst h) fun σ H Q ⟨F, Γ, st, ok, w⟩ => tA.then_ ok w fun vs ds F1 H1 st1 s1 ok1 r1 w1 => by
    split at w1
    · rename_i hc
      refine ⟨by rw [r1.length]; exact of_decide_eq_true hc, fun p np => ?_⟩
      have s := ok1.new (ob := .lst vs) np
      exact w1 _ _ s _ (.lst upd_same (r1.mono s.ext))
    · exact w1.elim

/-! ### calls of built-ins -/
def CallS (X : Cx) (k : Kx) (f : Value) (g : List D → M D) : Prop :=
  ∃ r : List V → Hp → VK → Prop, CallR X f r ∧ ∀ {E : XE} {σ : L2.St} {F H : Hp} {Γ : Ev} {st : DS} {vs : List V} {ds : List D} {Q : VK}, Ok k F H σ Γ st → Reps k F vs ds → Wp k E σ F H (g ds st) (qD k Q) → r vs H Q
def mCall (g : List D → M D) (mr : Ev → M (List D)) : EM := fun Γ => do
  let ds ← mr Γ
  g ds
theorem e_blt {id : String} {g : List D → M D} (hc : CallS X k (.builtin id) g) (hg : Gl X x) (hm : X.mg x = none) (hv : bootBuiltins x = some (.builtin id)) (ha : PA X (e :: es) (tA k E mr)) (hn : x ≠ "__name__" := by decide) (hdb : (x == ("__debug__" : Str)) = false := by decide)
    (he : starEach (e :: es) X.env = (false, eval e X.env) :: starEach es X.env := by rfl) (hpl : (backTo pos (starEach es X.env)).any (·.1) = false := by rfl) : PE X (.Call (.Name x p) (e :: es) [] pos) (tM k E (mCall g mr)) := by
  obtain ⟨r, h1, h2⟩ := hc
  exact PE.weak (pe_callB h1 hg hm hv ha hn hdb he hpl) fun σ H Q ⟨F, Γ, st, ok, w⟩ => tA.then_ ok w fun vs ds F1 H1 st1 s1 ok1 r1 w1 => h2 ok1 r1 w1
theorem e_ty {T : String} {g : List D → M D} (hc : CallS X k (.type T) g) (hg : Gl X x) (hm : X.mg x = none) (hv : bootBuiltins x = some (.type T)) (ha : PA X (e :: es) (tA k E mr)) (hn : x ≠ "__name__" := by decide) (hdb : (x == ("__debug__" : Str)) = false := by decide)
    (he : starEach (e :: es) X.env = (false, eval e X.env) :: starEach es X.env := by rfl) (hpl : (backTo pos (starEach es X.env)).any (·.1) = false := by rfl) : PE X (.Call (.Name x p) (e :: es) [] pos) (tM k E (mCall g mr)) := by
  obtain ⟨r, h1, h2⟩ := hc
  exact PE.weak (pe_callTy h1 hg hm hv ha hn hdb he hpl) fun σ H Q ⟨F, Γ, st, ok, w⟩ => tA.then_ ok w fun vs ds F1 H1 st1 s1 ok1 r1 w1 => h2 ok1 r1 w1
end
end FL

/-! FL3: statements, targets, loops, comprehensions, defs -/
namespace FL
open PySem PySem.Spec PyProof.Rows L2

/-! ### slots -/
/-- slots js may have been given data -/
structure Upd (k : Kx) (F : Hp) (js : List Nat) (σ : L2.St) (Γ : Ev) (σ' : L2.St) (Γ' : Ev) : Prop where
  len : σ'.length = σ.length
  lenE : Γ'.length = Γ.length
  cases : ∀ j : Nat, (∃ v d, σ'[j]? = some (some v) ∧ Γ'[j]? = some (some (.dat d)) ∧ Rep k F v d ∧ j ∈ js) ∨ (σ'[j]? = σ[j]? ∧ Γ'[j]? = Γ[j]?)
section
variable {k : Kx} {F H : Hp} {σ σ' σ2 : L2.St} {Γ Γ' Γ2 : Ev} {st : DS} {js js2 : List Nat}
theorem Upd.refl : Upd k F js σ Γ σ Γ := ⟨rfl, rfl, fun _ => .inr ⟨rfl, rfl⟩⟩
theorem Upd.set {i : Nat} {v : V} {d : D} (hl : σ.length = Γ.length) (r : Rep k F v d) : Upd k F [i] σ Γ (σ.set i (some v)) (Γ.set i (some (.dat d))) := by
  refine ⟨by simp, by simp, fun j => ?_⟩
  by_cases hj : i = j
  · subst hj
    by_cases hi : i < σ.length
    · exact .inl ⟨v, d, by rw [List.getElem?_set_self hi], by rw [List.getElem?_set_self (hl ▸ hi)], r, by simp⟩
    · refine .inr ⟨?_, ?_⟩
      · rw [List.getElem?_eq_none (by simp; omega), List.getElem?_eq_none (by omega)]
      · rw [List.getElem?_eq_none (by simp; omega), List.getElem?_eq_none (by omega)]
  · exact .inr ⟨List.getElem?_set_ne hj, List.getElem?_set_ne hj⟩
theorem Upd.trans (a : Upd k F js σ Γ σ' Γ') (b : Upd k F js2 σ' Γ' σ2 Γ2) : Upd k F (js ++ js2) σ Γ σ2 Γ2 := by
  refine ⟨b.len.trans a.len, b.lenE.trans a.lenE, fun j => ?_⟩
  rcases b.cases j with ⟨v, d, h1, h2, h3, h4⟩ | ⟨h1, h2⟩
  · exact .inl ⟨v, d, h1, h2, h3, List.mem_append_right _ h4⟩
  · rcases a.cases j with ⟨v, d, q1, q2, q3, q4⟩ | ⟨q1, q2⟩
    · exact .inl ⟨v, d, h1.trans q1, h2.trans q2, q3, List.mem_append_left _ q4⟩
    · exact .inr ⟨h1.trans q1, h2.trans q2⟩
theorem Ok.upd (o : Ok k F H σ Γ st) (u : Upd k F js σ Γ σ' Γ') : Ok k F H σ' Γ' st where
  sub := o.sub
  at_ := o.at_
  hid := o.hid
  bsub := o.bsub
  blst := o.blst
  tabs := o.tabs
  ftbl := o.ftbl
  len := by rw [u.len, u.lenE]; exact o.len
  slot := fun i x e => by
    rcases u.cases i with ⟨v, d, h1, h2, h3, _⟩ | ⟨h1, h2⟩
    · rw [h2] at e
      cases e
      exact ⟨v, h1, h3⟩
    · rw [h2] at e
      rw [h1]
      exact o.slot i x e
  apart := fun i j xs ys a e1 e2 e3 e4 => by
    rcases u.cases i with ⟨v, d, h1, h2, h3, _⟩ | ⟨h1, h2⟩
    · rw [h2] at e1; cases e1
    · rcases u.cases j with ⟨v, d, q1, q2, q3, _⟩ | ⟨q1, q2⟩
      · rw [q2] at e2; cases e2
      · exact o.apart i j xs ys a (h2 ▸ e1) (q2 ▸ e2) (h1 ▸ e3) (q1 ▸ e4)
end

/-! ### a frame's states -/
inductive Fl where
  | nx (Γ : Ev)
  | rt (d : D)
  | bk (Γ : Ev)
  | ct (Γ : Ev)
  | xc (C : Addr) (fs : List (Str × D)) (Γ : Ev)
abbrev SM := Ev → M Fl
/-- G, H0: at the def's entry; P: what is to stay frozen -/
structure OkS (k : Kx) (G H0 P F H : Hp) (σ : L2.St) (Γ : Ev) (st : DS) : Prop where
  ok : Ok k F H σ Γ st
  per : Same P F
  ext0 : Same G F
  stay0 : ∀ a o, H0 a = some o → ¬ k.hot a → (∀ ps, o ≠ .tbl ps) → H a = some o
  kept0 : ∀ a o, H0 a = some o → ∃ o', H a = some o'
  nof0 : ∀ a o, H0 a = some o → G a = none → F a = none
  own0 : ∀ (i : Nat) (xs : OD) (a : Addr), Γ[i]? = some (some (.own xs)) → σ[i]? = some (some (.ref a)) → H0 a = none
  base : ∃ st0, Ok k G H0 [] [] st0
section
variable {k : Kx} {G H0 P P' F H F1 H1 : Hp} {σ σ' : L2.St} {Γ Γ' : Ev} {st st1 : DS} {js : List Nat}
theorem OkS.step (o : OkS k G H0 P F H σ Γ st) (s : Step k F H F1 H1 st1) : OkS k G H0 P F1 H1 σ Γ st1 where
  ok := o.ok.step s
  per := o.per.trans s.ext
  ext0 := o.ext0.trans s.ext
  stay0 := fun a ob h n1 n3 => s.stay a ob (o.stay0 a ob h n1 n3) n1 n3
  kept0 := fun a ob h => let ⟨o1, h1⟩ := o.kept0 a ob h; s.kept a o1 h1
  nof0 := fun a ob h g => let ⟨o1, h1⟩ := o.kept0 a ob h; s.nof a o1 h1 (o.nof0 a ob h g)
  own0 := o.own0
  base := o.base
theorem OkS.toStep (o : OkS k G H0 P F H σ Γ st) : Step k G H0 F H st := ⟨o.ext0, o.stay0, o.kept0, o.nof0, o.ok.tabs, o.ok.ftbl, o.ok.sub, o.ok.at_⟩
theorem OkS.upd (o : OkS k G H0 P F H σ Γ st) (u : Upd k F js σ Γ σ' Γ') : OkS k G H0 P F H σ' Γ' st where
  ok := o.ok.upd u
  per := o.per
  ext0 := o.ext0
  stay0 := o.stay0
  kept0 := o.kept0
  nof0 := o.nof0
  own0 := fun i xs a e1 e2 => by
    rcases u.cases i with ⟨v, d, h1, h2, h3, _⟩ | ⟨h1, h2⟩
    · rw [h2] at e1; cases e1
    · exact o.own0 i xs a (h2 ▸ e1) (h1 ▸ e2)
  base := o.base
theorem OkS.per' (o : OkS k G H0 P F H σ Γ st) (h : Same P' F) : OkS k G H0 P' F H σ Γ st := ⟨o.ok, h, o.ext0, o.stay0, o.kept0, o.nof0, o.own0, o.base⟩
end
def WpS (k : Kx) (E : XE) (G H0 P : Hp) (o : Out Fl) (D : Ends) : Prop := match o with
  | .ok (.nx Γ') st' => ∀ σ' F' H', OkS k G H0 P F' H' σ' Γ' st' → D.nx σ' H'
  | .ok (.rt d) st' => ∀ v F' H', Step k G H0 F' H' st' → Rep k F' v d → D.rt v H'
  | .ok (.bk Γ') st' => ∀ σ' F' H', OkS k G H0 P F' H' σ' Γ' st' → D.bk σ' H'
  | .ok (.ct Γ') st' => ∀ σ' F' H', OkS k G H0 P F' H' σ' Γ' st' → D.ct σ' H'
  | .ok (.xc C fs Γ') st' => ∀ σ' F' H' da vs, OkS k G H0 P F' H' σ' Γ' st' → H' da = some (.xd vs) → RepX k F' vs fs → E σ' (.ref C) (some da) H'
  | _ => False
def tS (k : Kx) (E : XE) (m : SM) : TS := fun D σ H => ∃ G H0 P F Γ st, OkS k G H0 P F H σ Γ st ∧ WpS k E G H0 P (m Γ st) D
/-- an expression, then the rest of a statement -/
def sE {α : Type} (m : M α) (Γ : Ev) (f : α → M Fl) : M Fl := fun st => match m st with
  | .ok a st' => f a st'
  | .err C fs st' => .ok (.xc C fs Γ) st'
  | .stuck => .stuck
section
variable {k : Kx} {E : XE} {G H0 P F H : Hp} {σ : L2.St} {Γ : Ev} {st : DS} {D0 : Ends}
theorem Wp.inS {α : Type} {o : Out α} {m : M α} {f : α → M Fl} (ok : OkS k G H0 P F H σ Γ st) (w : WpS k E G H0 P (sE m Γ f st) D0) : Wp k E σ F H (m st) fun a F1 H1 st1 => WpS k E G H0 P (f a st1) D0 := by
  unfold sE at w
  cases e : m st with
  | ok a st' => rw [e] at w; exact fun F' H' s => w
  | err C fs st' => rw [e] at w; exact fun F' H' da vs s => w σ F' H' da vs (ok.step s)
  | stuck => rw [e] at w; exact w
theorem tM.inS {m : EM} {f : D → M Fl} {Q : VK} (ok : OkS k G H0 P F H σ Γ st) (w : WpS k E G H0 P (sE (m Γ) Γ f st) D0)
    (q : ∀ v d F1 H1 st1, Step k F H F1 H1 st1 → OkS k G H0 P F1 H1 σ Γ st1 → Rep k F1 v d → WpS k E G H0 P (f d st1) D0 → Q v H1) : tM k E m σ H Q :=
  ⟨F, Γ, st, ok.ok, (Wp.inS (o := m Γ st) ok w).mono fun d F1 H1 st1 s w1 v r => q v d F1 H1 st1 s (ok.step s) r w1⟩
theorem tT.inS {m : Ev → M Bool} {f : Bool → M Fl} {Q : Bool → Hp → Prop} (ok : OkS k G H0 P F H σ Γ st) (w : WpS k E G H0 P (sE (m Γ) Γ f st) D0)
    (q : ∀ b F1 H1 st1, Step k F H F1 H1 st1 → OkS k G H0 P F1 H1 σ Γ st1 → WpS k E G H0 P (f b st1) D0 → Q b H1) : tT k E m σ H Q :=
  ⟨F, Γ, st, ok.ok, (Wp.inS (o := m Γ st) ok w).mono fun d F1 H1 st1 s w1 => q d F1 H1 st1 s (ok.step s) w1⟩
theorem tA.inS {m : Ev → M (List D)} {f : List D → M Fl} {Q : List V → Hp → Prop} (ok : OkS k G H0 P F H σ Γ st) (w : WpS k E G H0 P (sE (m Γ) Γ f st) D0)
    (q : ∀ vs ds F1 H1 st1, Step k F H F1 H1 st1 → OkS k G H0 P F1 H1 σ Γ st1 → Reps k F1 vs ds → WpS k E G H0 P (f ds st1) D0 → Q vs H1) : tA k E m σ H Q :=
  ⟨F, Γ, st, ok.ok, (Wp.inS (o := m Γ st) ok w).mono fun d F1 H1 st1 s w1 v r => q v d F1 H1 st1 s (ok.step s) r w1⟩
end

section
variable {X : Cx} {k : Kx} {E : XE} {st : Stmt} {sts rest : List Stmt} {m m2 : SM} {e : Expr} {me : EM} {pos : Pos}
/-! ### blocks -/
def mNext : SM := fun Γ => pure (.nx Γ)
def kSeq (m2 : SM) : Fl → M Fl := fun r st => match r with
  | .nx Γ' => m2 Γ' st
  | .rt d => .ok (.rt d) st
  | .bk Γ => .ok (.bk Γ) st
  | .ct Γ => .ok (.ct Γ) st
  | .xc C fs Γ => .ok (.xc C fs Γ) st
def mSeq (m m2 : SM) : SM := fun Γ => do
  let r ← m Γ
  kSeq m2 r
theorem b_nil : PSs X [] (tS k E mNext) := PSs.weak pss_nil fun D σ H ⟨G, H0, P, F, Γ, st, ok, w⟩ => w σ F H ok
theorem b_cons (h1 : PS X st (tS k E m)) (h2 : PSs X rest (tS k E m2)) : PSs X (st :: rest) (tS k E (mSeq m m2)) :=
  PSs.weak (pss_cons h1 h2) fun D σ H ⟨G, H0, P, F, Γ, st, ok, w⟩ => by
    refine ⟨G, H0, P, F, Γ, st, ok, ?_⟩
    have w : WpS k E G H0 P ((m Γ st).bind (kSeq m2)) D := w
    revert w
    cases m Γ st with
    | ok r st' =>
      cases r with
      | nx Γ' => exact fun w σ' F' H' ok' => ⟨G, H0, P, F', Γ', st', ok', w⟩
      | rt d => exact fun w => w
      | bk Γ' => exact fun w => w
      | ct Γ' => exact fun w => w
      | xc C fs Γ' => exact fun w => w
    | err C fs st' => exact fun w => w
    | stuck => exact fun w => w
theorem b_one (h1 : PS X st (tS k E m)) : PSs X [st] (tS k E m) := pss_one h1
/-! ### small statements -/
def mRet (me : EM) : SM := fun Γ => sE (me Γ) Γ fun d => pure (.rt d)
theorem s_ret (he : PE X e (tM k E me)) : PS X (.Return (some e) pos) (tS k E (mRet me)) :=
  PS.weak (ps_ret he) fun D σ H ⟨G, H0, P, F, Γ, st, ok, w⟩ => tM.inS ok w fun v d F1 H1 st1 s ok1 r w1 => w1 v F1 H1 ok1.toStep r
def mRetN : SM := fun _ => pure (.rt .non)
theorem s_retN : PS X (.Return none pos) (tS k E mRetN) :=
  PS.weak ps_retN fun D σ H ⟨G, H0, P, F, Γ, st, ok, w⟩ => w _ F H ok.toStep .non
def mBreak : SM := fun Γ => pure (.bk Γ)
def mCont : SM := fun Γ => pure (.ct Γ)
theorem s_break : PS X (.Break pos) (tS k E mBreak) := PS.weak ps_break fun D σ H ⟨G, H0, P, F, Γ, st, ok, w⟩ => w σ F H ok
theorem s_cont : PS X (.Continue pos) (tS k E mCont) := PS.weak ps_continue fun D σ H ⟨G, H0, P, F, Γ, st, ok, w⟩ => w σ F H ok
def mIfS (t : Ev → M Bool) (m m2 : SM) : SM := fun Γ => sE (t Γ) Γ fun c => if c then m Γ else m2 Γ
theorem s_if {c : Expr} {a b : List Stmt} {t : Ev → M Bool} (hc : PT X c (tT k E t)) (ha : PSs X a (tS k E m)) (hb : PSs X b (tS k E m2)) : PS X (.If c a b pos) (tS k E (mIfS t m m2)) :=
  PS.weak (ps_if hc ha hb) fun D σ H ⟨G, H0, P, F, Γ, st, ok, w⟩ => tT.inS ok w fun c F1 H1 st1 s ok1 w1 => by
    cases c with
    | true => exact iteT ⟨G, H0, P, F1, Γ, st1, ok1, w1⟩
    | false => exact iteF ⟨G, H0, P, F1, Γ, st1, ok1, w1⟩
def mDrop (me : EM) : SM := fun Γ => sE (me Γ) Γ fun _ => pure (.nx Γ)
theorem s_expr (he : PE X e (tM k E me)) (hs : swapsWith e none pos.line X.env = pure false := by rfl) : PS X (.Expr e pos) (tS k E (mDrop me)) :=
  PS.weak (ps_expr he hs) fun D σ H ⟨G, H0, P, F, Γ, st, ok, w⟩ => tM.inS ok w fun v d F1 H1 st1 s ok1 r w1 => w1 σ F1 H1 ok1

/-! ### targets -/
abbrev GM := D → Ev → Option Ev
def gM (k : Kx) (js : List Nat) (g : GM) : TG := fun v σ H Q => ∃ d F Γ Γ', Same F H ∧ σ.length = Γ.length ∧ Rep k F v d ∧ g d Γ = some Γ' ∧ ∀ σ', Upd k F js σ Γ σ' Γ' → Q σ' H
def gsM (k : Kx) (js : List Nat) (g : List D → Ev → Option Ev) : TGs := fun vs σ H Q => ∃ ds F Γ Γ', Same F H ∧ σ.length = Γ.length ∧ Reps k F vs ds ∧ g ds Γ = some Γ' ∧ ∀ σ', Upd k F js σ Γ σ' Γ' → Q σ' H
theorem PG.weak {tg : Expr} {t t' : TG} (h : PG X tg t) (q : ∀ v σ H Q, t' v σ H Q → t v σ H Q) : PG X tg t' := ⟨fun pins s σ H v u Q I r w => h.run pins s σ H v u Q I r (q _ _ _ _ w)⟩
theorem PGs.weak {tg : List Expr} {t t' : TGs} (h : PGs X tg t) (q : ∀ v σ H Q, t' v σ H Q → t v σ H Q) : PGs X tg t' := ⟨fun pins s σ H v u Q I r w => h.run pins s σ H v u Q I r (q _ _ _ _ w)⟩
def mgName (i : Nat) : GM := fun d Γ => some (Γ.set i (some (.dat d)))
theorem g_name {i : Nat} {x : Str} (hN : X.N.Nodup) (hi : X.N[i]? = some x := by rfl) (hx : Loc X.env.scope x := by first | exact Or.inl rfl | exact Or.inr rfl) (hf : X.fn x = true ∨ X.env.scope.names.lookup x = some .local := by first | exact .inl rfl | exact .inr rfl | assumption) : PG X (.Name x pos) (gM k [i] (mgName i)) :=
  PG.weak (pg_name hN hi hx hf) fun v σ H Q ⟨d, F, Γ, Γ', s, hl, r, e, q⟩ => by
    cases e
    exact q _ (Upd.set hl r)
def mgNil : List D → Ev → Option Ev := fun ds Γ => match ds with
  | [] => some Γ
  | _ => none
def mgCons (g : GM) (gs : List D → Ev → Option Ev) : List D → Ev → Option Ev := fun ds Γ => match ds with
  | d :: r => (g d Γ).bind (gs r)
  | [] => none
theorem gs_nil : PGs X [] (gsM k [] mgNil) := PGs.weak pgs_nil fun vs σ H Q ⟨ds, F, Γ, Γ', s, hl, r, e, q⟩ => by
  cases r with
  | nil => cases e; exact ⟨rfl, q _ .refl⟩
  | cons _ _ => cases e
theorem gs_cons {tg : Expr} {tgs : List Expr} {js js2 : List Nat} {g : GM} {gs : List D → Ev → Option Ev} (h1 : PG X tg (gM k js g)) (h2 : PGs X tgs (gsM k js2 gs))
    (hs : (assignEach (tg :: tgs) X.env).map (·.2) = assign tg X.env :: (assignEach tgs X.env).map (·.2) := by rfl) : PGs X (tg :: tgs) (gsM k (js ++ js2) (mgCons g gs)) :=
  PGs.weak (pgs_cons h1 h2 hs) fun vs σ H Q ⟨ds, F, Γ, Γ', s, hl, r, e, q⟩ => by
    cases r with
    | nil => cases e
    | @cons v vs d ds rh rt =>
      have e : (g d Γ).bind (gs ds) = some Γ' := e
      cases e1 : g d Γ with
      | none => rw [e1] at e; cases e
      | some Γ1 =>
        rw [e1] at e
        exact ⟨v, vs, rfl, d, F, Γ, Γ1, s, hl, rh, e1, fun σ1 u1 => ⟨ds, F, Γ1, Γ', s, by rw [u1.len, u1.lenE, hl], rt, e, fun σ2 u2 => q σ2 (u1.trans u2)⟩⟩
def mgTup (n : Nat) (gs : List D → Ev → Option Ev) : GM := fun d Γ => match d with
  | .tup ds => if ds.length = n then gs ds Γ else none
  | .ltp ds => if ds.length = n then gs ds Γ else none
  | _ => none
theorem g_tup {es : List Expr} {j : Nat} {js : List Nat} {gs : List D → Ev → Option Ev} {n : Nat} (hc : X.calm = true) (h : PGs X es (gsM k js gs)) (hk : k.K = X.K := by rfl)
    (hn : (assignEach es X.env).length = n := by rfl) (hst : (assignEach es X.env).findIdx? (·.1) = none := by rfl) : PG X (.Tuple es j pos) (gM k js (mgTup n gs)) :=
  PG.weak (pg_tup hc h hn hst) fun v σ H Q ⟨d, F, Γ, Γ', s, hl, r, e, q⟩ => by
    unfold mgTup at e
    split at e
    · split at e
      · rename_i hn'
        cases r with
        | tup ht rs _ =>
          rw [hk] at ht
          exact ⟨_, _, rfl, sqt_mono s ht, by rw [rs.length]; exact hn', _, F, Γ, Γ', s, hl, rs, e, q⟩
      · cases e
    · split at e
      · rename_i hn'
        cases r with
        | ltp ht rs =>
          rw [hk] at ht
          exact ⟨_, _, rfl, sqt_mono s ht, by rw [rs.length]; exact hn', _, F, Γ, Γ', s, hl, rs, e, q⟩
      · cases e
    · cases e
def mAsg (me : EM) (g : GM) : SM := fun Γ => sE (me Γ) Γ fun d => match g d Γ with
  | some Γ' => pure (.nx Γ')
  | none => halt
theorem asg_done {G H0 P F1 H1 : Hp} {σ : L2.St} {Γ : Ev} {st1 : DS} {v : V} {d : D} {g : GM} {js : List Nat} {D0 : Ends} (ok1 : OkS k G H0 P F1 H1 σ Γ st1) (r : Rep k F1 v d)
    (w1 : WpS k E G H0 P ((match g d Γ with | some Γ' => (pure (.nx Γ') : M Fl) | none => halt) st1) D0) : gM k js g v σ H1 D0.nx := by
  revert w1
  cases e1 : g d Γ with
  | none => exact fun w1 => w1.elim
  | some Γ' => exact fun w1 => ⟨d, F1, Γ, Γ', ok1.ok.sub, ok1.ok.len, r, e1, fun σ' u => w1 σ' F1 H1 (ok1.upd u)⟩
theorem s_asg {tg : Expr} {g : GM} {js : List Nat} (he : PE X e (tM k E me)) (hg : PG X tg (gM k js g)) (hs : swapsWithSole [tg] e pos.line X.env = pure false := by rfl) (hw : swappedStores [tg] e X.env = pure none := by rfl)
    (h1 : (assignEach [tg] X.env).map (·.2) = [assign tg X.env] := by rfl) : PS X (.Assign [tg] e pos) (tS k E (mAsg me g)) :=
  PS.weak (ps_asg he hg hs hw h1) fun D σ H ⟨G, H0, P, F, Γ, st, ok, w⟩ => tM.inS ok w fun v d F1 H1 st1 s ok1 r w1 => asg_done ok1 r w1
theorem s_set {i : Nat} {x : Str} {pos' : Pos} (hN : X.N.Nodup) (he : PE X e (tM k E me)) (hi : X.N[i]? = some x := by rfl) (hx : Loc X.env.scope x := by first | exact Or.inl rfl | exact Or.inr rfl) (hs : swapsWith e (some (.Name x pos')) pos.line X.env = pure false := by rfl) (hf : X.fn x = true ∨ X.env.scope.names.lookup x = some .local := by first | exact .inl rfl | exact .inr rfl | assumption) :
    PS X (.Assign [.Name x pos'] e pos) (tS k E (mAsg me (mgName i))) :=
  PS.weak (ps_set hN hi hx he hs hf) fun D σ H ⟨G, H0, P, F, Γ, st, ok, w⟩ => tM.inS ok w fun v d F1 H1 st1 s ok1 r w1 => w1 _ F1 H1 (ok1.upd (Upd.set ok1.ok.len r))
/-- a, b = x, y: plain local names -/
def mPar (i j : Nat) (ma : Ev → M (List D)) : SM := fun Γ => sE (ma Γ) Γ fun ds => match ds with
  | [d, e] => pure (.nx ((Γ.set i (some (.dat d))).set j (some (.dat e))))
  | _ => halt
theorem s_par {i j : Nat} {x y : Str} {a b : Expr} {ma : Ev → M (List D)} {px py pt : Pos} {kt k2 : Nat} {pt2 : Pos} (hc : X.calm = true) (hN : X.N.Nodup) (ha : PA X [a, b] (tA k E ma)) (hij : i ≠ j) (hi : X.N[i]? = some x := by rfl) (hj : X.N[j]? = some y := by rfl)
    (hx : X.env.scope.names.lookup x = some .local := by rfl) (hy : X.env.scope.names.lookup y = some .local := by rfl)
    (hw : swappedStores [.Tuple [.Name x px, .Name y py] kt pt] (.Tuple [a, b] k2 pt2) X.env = pure (some [x, y]) := by rfl)
    (hs : swapsWithSole [.Tuple [.Name x px, .Name y py] kt pt] (.Tuple [a, b] k2 pt2) pos.line X.env = pure false := by rfl) :
    PS X (.Assign [.Tuple [.Name x px, .Name y py] kt pt] (.Tuple [a, b] k2 pt2) pos) (tS k E (mPar i j ma)) :=
  PS.weak (ps_par hc hN hi hj hij hx hy ha hw hs) fun D σ H ⟨G, H0, P, F, Γ, st, ok, w⟩ => tA.inS ok w fun vs ds F1 H1 st1 s ok1 r w1 => by
    match ds, r, w1 with
    | [d, e], .cons r1 (.cons r2 .nil), w1 => exact ⟨_, _, rfl, w1 _ F1 H1 (ok1.upd ((Upd.set ok1.ok.len r1).trans (Upd.set (by simp [ok1.ok.len]) r2)))⟩
    | [], _, w1 => exact w1.elim
    | [_], _, w1 => exact w1.elim
    | _ :: _ :: _ :: _, _, w1 => exact w1.elim

/-! ### iterators -/
structure ItOk (k : Kx) (J : It) (F : Hp) (xs : List D) : Prop where
  go : ∀ (i : Nat) F1 H1, Same F F1 → Same F1 H1 → Same k.B H1 → i < xs.length → J.go i H1
  stop : ∀ (i : Nat) F1 H1, Same F F1 → Same F1 H1 → Same k.B H1 → xs.length ≤ i → J.stop i H1
  yld : ∀ (i : Nat) x F1 H1 H2 σ Γ st, Same F F1 → Ok k F1 H1 σ Γ st → i < xs.length → J.yld i H1 x H2 → ∃ d F2, xs[i]? = some d ∧ Step k F1 H1 F2 H2 st ∧ Rep k F2 x d
def tI (k : Kx) (E : XE) (m : Ev → M (List D)) : TI := fun σ H R => ∃ F Γ st, Ok k F H σ Γ st ∧ Wp k E σ F H (m Γ st) fun xs F' H' _ => ∀ J, ItOk k J F' xs → R J H'
theorem PI.weak {tg iter : Expr} {t t' : TI} (h : PI X tg iter t) (q : ∀ σ H R, t' σ H R → t σ H R) : PI X tg iter t' := ⟨fun pins s σ H R I w => h.run pins s σ H R I (q _ _ _ w)⟩
def kLoop (m2 : SM) : Fl → M Fl := fun r st => match r with
  | .nx Γ2 => m2 Γ2 st
  | .ct Γ2 => m2 Γ2 st
  | .bk Γ2 => .ok (.nx Γ2) st
  | .rt d => .ok (.rt d) st
  | .xc C fs Γ2 => .ok (.xc C fs Γ2) st
def loopS (g : GM) (mb : SM) : List D → SM
  | [], Γ => pure (.nx Γ)
  | d :: ds, Γ => match g d Γ with
    | none => halt
    | some Γ1 => do
      let r ← mb Γ1
      kLoop (loopS g mb ds) r
def mFor (mi : Ev → M (List D)) (g : GM) (mb : SM) : SM := fun Γ => sE (mi Γ) Γ fun xs => loopS g mb xs Γ
theorem tI.inS {G H0 P F H : Hp} {σ : L2.St} {Γ : Ev} {st : DS} {D0 : Ends} {m : Ev → M (List D)} {f : List D → M Fl} {R : It → Hp → Prop} (ok : OkS k G H0 P F H σ Γ st) (w : WpS k E G H0 P (sE (m Γ) Γ f st) D0)
    (q : ∀ J xs F1 H1 st1, OkS k G H0 P F1 H1 σ Γ st1 → ItOk k J F1 xs → WpS k E G H0 P (f xs st1) D0 → R J H1) : tI k E m σ H R :=
  ⟨F, Γ, st, ok.ok, (Wp.inS (o := m Γ st) ok w).mono fun d F1 H1 st1 s w1 J j => q J d F1 H1 st1 (ok.step s) j w1⟩
theorem WpS.per {G H0 P P' : Hp} {o : Out Fl} {D0 : Ends} (h : Same P P') (w : WpS k E G H0 P o D0) : WpS k E G H0 P' o D0 := by
  cases o with
  | ok r st' =>
    cases r with
    | nx Γ' => exact fun σ' F' H' ok => w σ' F' H' (ok.per' (h.trans ok.per))
    | rt d => exact w
    | bk Γ' => exact fun σ' F' H' ok => w σ' F' H' (ok.per' (h.trans ok.per))
    | ct Γ' => exact fun σ' F' H' ok => w σ' F' H' (ok.per' (h.trans ok.per))
    | xc C fs Γ' => exact fun σ' F' H' da vs ok => w σ' F' H' da vs (ok.per' (h.trans ok.per))
  | err C fs st' => exact w
  | stuck => exact w
theorem s_for {tg iter : Expr} {body : List Stmt} {mi : Ev → M (List D)} {g : GM} {js : List Nat} {mb : SM} (hp : PassesOwn (model X.prog X.w) X.A X.env X.xe) (hc : X.calm = true) (hi : PI X tg iter (tI k E mi)) (hg : PG X tg (gM k js g)) (hb : PSs X body (tS k E mb))
    (hs : ∀ x, foldedSetIterable iter X.env x = pure x := by intro _; rfl) : PS X (.For tg iter body [] pos) (tS k E (mFor mi g mb)) := by
  refine PS.weak (ps_for hp hc hi hg hb hs) fun D0 σ H ⟨G, H0, P, F, Γ, st, ok, w⟩ => ?_
  refine tI.inS ok w fun J xs F1 H1 st1 ok1 jk w1 => ?_
  refine ⟨fun i m σ H => m = xs.length - i ∧ i ≤ xs.length ∧ ∃ F Γ st, OkS k G H0 P F H σ Γ st ∧ Same F1 F ∧ WpS k E G H0 P (loopS g mb (xs.drop i) Γ st) D0,
    ⟨_, rfl, Nat.zero_le _, F1, Γ, st1, ok1, Same.refl _, w1⟩, ?_⟩
  rintro i m σ H ⟨rfl, hi, F2, Γ2, st2, ok2, s2, w2⟩
  by_cases hlt : i < xs.length
  · refine .inr ⟨jk.go i F2 H s2 ok2.ok.sub ok2.ok.bsub hlt, fun σ' H' => i + 1 ≤ xs.length ∧ ∃ F Γ st, OkS k G H0 P F H' σ' Γ st ∧ Same F1 F ∧ WpS k E G H0 P (loopS g mb (xs.drop (i + 1)) Γ st) D0, ?_, ?_⟩
    · rintro σ' H' ⟨hi', n⟩
      exact ⟨_, by omega, rfl, hi', n⟩
    · intro x H' y
      obtain ⟨d, F3, e, s3, r⟩ := jk.yld i x F2 H H' σ Γ2 st2 s2 ok2.ok hlt y
      have ok3 := ok2.step s3
      have ed : xs.drop i = d :: xs.drop (i + 1) := by
        obtain ⟨h1, h2⟩ := List.getElem?_eq_some_iff.mp e
        rw [← h2]
        exact List.drop_eq_getElem_cons h1
      rw [ed] at w2
      unfold loopS at w2
      cases eg : g d Γ2 with
      | none => rw [eg] at w2; exact w2.elim
      | some Γ3 =>
        rw [eg] at w2
        refine ⟨d, F3, Γ2, Γ3, ok3.ok.sub, ok3.ok.len, r, eg, fun σ3 u => ?_⟩
        have ok4 := (ok3.upd u).per' (P' := F3) (Same.refl _)
        refine ⟨G, H0, F3, F3, Γ3, st2, ok4, ?_⟩
        have sP : Same P F3 := ok3.per
        have s13 : Same F1 F3 := s2.trans s3.ext
        have w2 : WpS k E G H0 P ((mb Γ3 st2).bind (kLoop (loopS g mb (xs.drop (i + 1))))) D0 := w2
        revert w2
        cases mb Γ3 st2 with
        | ok r5 st5 =>
          cases r5 with
          | nx Γ5 => exact fun w2 σ' F' H' ok' => ⟨hlt, F', Γ5, st5, ok'.per' (sP.trans ok'.per), s13.trans ok'.per, w2⟩
          | ct Γ5 => exact fun w2 σ' F' H' ok' => ⟨hlt, F', Γ5, st5, ok'.per' (sP.trans ok'.per), s13.trans ok'.per, w2⟩
          | bk Γ5 => exact fun w2 σ' F' H' ok' => w2 σ' F' H' (ok'.per' (sP.trans ok'.per))
          | rt d => exact fun w2 => w2
          | xc C fs Γ5 => exact fun w2 σ' F' H' da vs ok' => w2 σ' F' H' da vs (ok'.per' (sP.trans ok'.per))
        | err C fs st' => exact fun w2 => w2.elim
        | stuck => exact fun w2 => w2.elim
  · have e : i = xs.length := by omega
    subst e
    refine .inl ⟨jk.stop _ F2 H s2 ok2.ok.sub ok2.ok.bsub (Nat.le_refl _), ?_⟩
    rw [List.drop_length] at w2
    exact w2 σ F2 H ok2

/-! ### sources -/
theorem it_list {K : PySem.W.Frag} {F : Hp} {a : Addr} {vs : List V} {ds : List D} (h : F a = some (.lst vs)) (r : Reps k F vs ds) : ItOk k (Itl K a) F ds where
  go := fun i F1 H1 s1 s2 _ hi => by
    have hi' : i < vs.length := by rw [r.length]; exact hi
    exact ⟨vs, vs[i], SqL.of (s2 _ _ (s1 _ _ h)), List.getElem?_eq_getElem hi'⟩
  stop := fun i F1 H1 s1 s2 _ hi => ⟨vs, SqL.of (s2 _ _ (s1 _ _ h)), by rw [r.length]; exact hi⟩
  yld := fun i x F1 H1 H2 σ Γ st s1 ok hi y => by
    obtain ⟨e, y⟩ := y
    subst e
    have ev := y vs (SqL.of (ok.sub _ _ (s1 _ _ h)))
    obtain ⟨d, e1, e2⟩ := r.get ev
    exact ⟨d, F1, e1, ok.refl, e2.mono s1⟩
theorem it_bor {K : PySem.W.Frag} {F : Hp} {a : Addr} {vs : List V} {ds : List D} (h : k.B a = some (.lst vs)) (r : Reps k F vs ds) : ItOk k (Itl K a) F ds where
  go := fun i F1 H1 s1 s2 sb hi => by
    have hi' : i < vs.length := by rw [r.length]; exact hi
    exact ⟨vs, vs[i], SqL.of (sb _ _ h), List.getElem?_eq_getElem hi'⟩
  stop := fun i F1 H1 s1 s2 sb hi => ⟨vs, SqL.of (sb _ _ h), by rw [r.length]; exact hi⟩
  yld := fun i x F1 H1 H2 σ Γ st s1 ok hi y => by
    obtain ⟨e, y⟩ := y
    subst e
    have ev := y vs (SqL.of (ok.bsub _ _ h))
    obtain ⟨d, e1, e2⟩ := r.get ev
    exact ⟨d, F1, e1, ok.refl, e2.mono s1⟩
theorem it_tup {K : PySem.W.Frag} {F : Hp} {a : Addr} {vs : List V} {ds : List D} (h : SqT K F a vs) (r : Reps k F vs ds) : ItOk k (Itt K a) F ds where
  go := fun i F1 H1 s1 s2 _ hi => by
    have hi' : i < vs.length := by rw [r.length]; exact hi
    exact ⟨vs, vs[i], sqt_mono (s1.trans s2) h, List.getElem?_eq_getElem hi'⟩
  stop := fun i F1 H1 s1 s2 _ hi => ⟨vs, sqt_mono (s1.trans s2) h, by rw [r.length]; exact hi⟩
  yld := fun i x F1 H1 H2 σ Γ st s1 ok hi y => by
    obtain ⟨e, y⟩ := y
    subst e
    have ev := y vs (sqt_mono (s1.trans ok.sub) h)
    obtain ⟨d, e1, e2⟩ := r.get ev
    exact ⟨d, F1, e1, ok.refl, e2.mono s1⟩
theorem it_range {F : Hp} {lo : Int} {n : Nat} : ItOk k (Itr lo n) F ((List.range n).map fun i => .int (lo + (i : Nat))) where
  go := fun i F1 H1 s1 s2 _ hi => by show i < n; simpa using hi
  stop := fun i F1 H1 s1 s2 _ hi => by show n ≤ i; simpa using hi
  yld := fun i x F1 H1 H2 σ Γ st s1 ok hi y => by
    obtain ⟨e, y⟩ := y
    subst e y
    have hi' : i < n := by simpa using hi
    exact ⟨.int (lo + (i : Nat)), F1, by simp [hi'], ok.refl, .int _⟩
def gSeq : D → M (List D) := fun d st => match d with
  | .lst xs => .ok xs st
  | .tup xs => .ok xs st
  | .bor xs => .ok xs st
  | _ => .stuck
def mSeqOf (me : EM) : Ev → M (List D) := fun Γ => do
  let d ← me Γ
  gSeq d
/-- over a list or a tuple -/
theorem i_seq {tg : Expr} (he : PE X e (tM k E me)) (hk : k.K = X.K := by rfl) : PI X tg e (tI k E (mSeqOf me)) := by
  have hL := pi_list (tg := tg) he
  have hT := pi_tup (tg := tg) he
  refine ⟨fun pins s σ H R I ⟨F, Γ, st, ok, w⟩ => ?_⟩
  have w : Wp k E σ F H ((me Γ st).bind gSeq) _ := w
  cases eo : me Γ st with
  | err C fs st' =>
    rw [eo] at w
    exact hL.run pins s σ H R I ⟨F, Γ, st, ok, by rw [eo]; exact w⟩
  | stuck => rw [eo] at w; exact w.elim
  | ok d st' =>
    rw [eo] at w
    by_cases hd : ∃ xs, d = .lst xs
    · obtain ⟨xs, rfl⟩ := hd
      refine hL.run pins s σ H R I ⟨F, Γ, st, ok, ?_⟩
      rw [eo]
      intro F' H' s' v r
      cases r with
      | lst h rs => exact ⟨_, rfl, ⟨_, SqL.of (s'.sub _ _ h)⟩, w F' H' s' _ (it_list h rs)⟩
    · by_cases hd3 : ∃ xs, d = .bor xs
      · obtain ⟨xs, rfl⟩ := hd3
        refine hL.run pins s σ H R I ⟨F, Γ, st, ok, ?_⟩
        rw [eo]
        intro F' H' s' v r
        cases r with
        | bor h rs => exact ⟨_, rfl, ⟨_, SqL.of ((ok.step s').bsub _ _ h)⟩, w F' H' s' _ (it_bor h rs)⟩
      by_cases hd2 : ∃ xs, d = .tup xs
      · obtain ⟨xs, rfl⟩ := hd2
        refine hT.run pins s σ H R I ⟨F, Γ, st, ok, ?_⟩
        rw [eo]
        intro F' H' s' v r
        cases r with
        | tup h rs =>
          rw [hk] at h
          exact ⟨_, rfl, ⟨_, sqt_mono s'.sub h⟩, w F' H' s' _ (it_tup h rs)⟩
      · exfalso
        have w : Wp k E σ F H (gSeq d st') _ := w
        unfold gSeq at w
        split at w
        · exact hd ⟨_, rfl⟩
        · exact hd2 ⟨_, rfl⟩
        · exact hd3 ⟨_, rfl⟩
        · exact w
def gRange1 : List D → M (List D) := fun ds st => match ds with
  | [.int n] => if decide (-(2 ^ 62) ≤ n ∧ n < 2 ^ 62) then .ok ((List.range n.toNat).map fun i => .int (0 + (i : Nat))) st else .stuck
  | _ => .stuck
def gRange2 : List D → M (List D) := fun ds st => match ds with
  | [.int a, .int b] => if decide (-(2 ^ 62) ≤ a ∧ a < 2 ^ 62 ∧ -(2 ^ 62) ≤ b ∧ b < 2 ^ 62) then .ok ((List.range (b - a).toNat).map fun i => .int (a + (i : Nat))) st else .stuck
  | _ => .stuck
def mSrc (g : List D → M (List D)) (mr : Ev → M (List D)) : Ev → M (List D) := fun Γ => do
  let ds ← mr Γ
  g ds
theorem i_range1 {tg a : Expr} {mr : Ev → M (List D)} {p : Pos} (hg : Gl X "range") (hm : X.mg "range" = none) (ha : PA X [a] (tA k E mr)) (hs : starEach [a] X.env = [(false, eval a X.env)] := by rfl) : PI X tg (.Call (.Name "range" p) [a] [] pos) (tI k E (mSrc gRange1 mr)) :=
  PI.weak (pi_range1 hg hm ha hs) fun σ H R ⟨F, Γ, st, ok, w⟩ => tA.then_ ok w fun vs ds F1 H1 st1 s ok1 r w1 => by
    unfold gRange1 at w1
    split at w1
    · rename_i n
      split at w1
      · rename_i hc
        have hc : -(2 ^ 62) ≤ n ∧ n < 2 ^ 62 := of_decide_eq_true hc
        match vs, r with
        | [_], .cons (.int _) .nil => exact ⟨n, rfl, hc.1, hc.2, w1 F1 H1 ok1.refl _ it_range⟩
      · exact w1.elim
    · exact w1.elim
theorem i_range2 {tg a b : Expr} {mr : Ev → M (List D)} {p : Pos} (hg : Gl X "range") (hm : X.mg "range" = none) (ha : PA X [a, b] (tA k E mr)) (hs : starEach [a, b] X.env = [(false, eval a X.env), (false, eval b X.env)] := by rfl) (hs2 : starEach [b] X.env = [(false, eval b X.env)] := by rfl) : PI X tg (.Call (.Name "range" p) [a, b] [] pos) (tI k E (mSrc gRange2 mr)) :=
  PI.weak (pi_range2 hg hm ha hs hs2) fun σ H R ⟨F, Γ, st, ok, w⟩ => tA.then_ ok w fun vs ds F1 H1 st1 s ok1 r w1 => by
    unfold gRange2 at w1
    split at w1
    · rename_i a b
      split at w1
      · rename_i hc
        have hc : -(2 ^ 62) ≤ a ∧ a < 2 ^ 62 ∧ -(2 ^ 62) ≤ b ∧ b < 2 ^ 62 := of_decide_eq_true hc
        match vs, r with
        | [_, _], .cons (.int _) (.cons (.int _) .nil) => exact ⟨a, b, rfl, hc, w1 F1 H1 ok1.refl _ it_range⟩
      · exact w1.elim
    · exact w1.elim
end
end FL

/-! FL4: lists made here, comprehensions, defs and their calls, subscripts -/
namespace FL
open PySem PySem.Spec PyProof.Rows L2

def EF : XE := fun _ _ _ _ => False
def nxM {α : Type} (m : M α) : M α := fun st => match m st with
  | .ok a st' => .ok a st'
  | _ => .stuck
section
variable {k : Kx} {E : XE} {F H F1 H1 : Hp} {σ : L2.St} {Γ : Ev} {st st1 : DS}
theorem Wp.nx {α : Type} {m : M α} {E' : XE} {R : α → Hp → Hp → DS → Prop} (w : Wp k E σ F H (nxM m st) R) : Wp k E' σ F H (m st) R := by
  unfold nxM at w
  revert w
  cases m st with
  | ok a st' => exact fun w => w
  | err C fs st' => exact fun w => w.elim
  | stuck => exact fun w => w.elim
theorem Wp.nx_ok {α β : Type} {m : M α} {f : α → DS → Out β} {R : β → Hp → Hp → DS → Prop} (w : Wp k E σ F H ((nxM m st).bind f) R) : ∃ a st', m st = .ok a st' ∧ Wp k E σ F H (f a st') R := by
  unfold nxM at w
  revert w
  cases e : m st with
  | ok a st' => exact fun w => ⟨a, st', rfl, w⟩
  | err C fs st' => exact fun w => w.elim
  | stuck => exact fun w => w.elim
theorem Wp.sig {α : Type} {o : Out α} {σ' : L2.St} {R : α → Hp → Hp → DS → Prop} {E' : XK} (w : Wp k (fun _ => E') σ F H o R) : Wp k (fun _ => E') σ' F H o R := w
theorem Step.back (s : Step k F H F1 H1 st1) {a : Addr} (h : H1 a = none) : H a = none := by
  cases q : H a with
  | none => rfl
  | some o =>
    obtain ⟨o', e⟩ := s.kept a o q
    rw [h] at e
    cases e
/-- a list of ours is frozen -/
theorem Step.frz (s : Step k F H F1 H1 st1) {a : Addr} {ob : HO} (h0 : H a = none) (h1 : H1 a = some ob) (f : F1 a = none) (hF : Same F H) (hob : ∀ ps, ob ≠ .tbl ps := by intro _ z; cases z) : Step k F H (upd F1 a ob) H1 st1 where
  ext := fun b o e => by rw [upd_ne (ne_of_none (hF _ _ e) h0)]; exact s.ext b o e
  stay := s.stay
  kept := s.kept
  tabs := s.tabs
  ftbl := fun b x h => by
    by_cases hb : b = a
    · subst hb; rw [upd_same] at h; cases h; exact hob
    · rw [upd_ne hb] at h; exact s.ftbl _ _ h
  nof := fun b o e g => by rw [upd_ne (ne_of_none e h0)]; exact s.nof b o e g
  sub := fun b o e => by
    by_cases hb : b = a
    · subst hb; rw [upd_same] at e; rw [h1]; exact e
    · rw [upd_ne hb] at e; exact s.sub b o e
  at_ := s.at_
/-- a list of ours is written -/
theorem Step.mut (s : Step k F H F1 H1 st1) {a : Addr} {ob : HO} (h0 : H a = none) (f : F1 a = none) (n1 : ¬ k.hot a) (hl : H1 a = none ∨ ∃ vs, H1 a = some (.lst vs)) : Step k F H F1 (upd H1 a ob) st1 where
  ext := s.ext
  stay := fun b o e m1 m3 => by rw [upd_ne (ne_of_none e h0)]; exact s.stay b o e m1 m3
  kept := fun b o e => by rw [upd_ne (ne_of_none e h0)]; exact s.kept b o e
  tabs := tabs_upd s.tabs (hl.imp id fun ⟨vs, e⟩ => ⟨_, e, .inl ⟨_, rfl⟩⟩)
  ftbl := s.ftbl
  nof := s.nof
  sub := fun b o e => by rw [upd_ne (fun z => by rw [z, f] at e; cases e)]; exact s.sub b o e
  at_ := fun h => (s.at_ h).upd h n1
end

/-! ### lists made here -/
def tO (k : Kx) (E : XE) (m : Ev → M (List D)) : TE := fun σ H Q => ∃ F Γ st, Ok k F H σ Γ st ∧ Wp k E σ F H (m Γ st) fun xs F' H' _ => ∀ a vs, H' a = some (.lst vs) → F' a = none → H a = none → Reps k F' vs xs → Q (.ref a) H'
def mFrz (m : Ev → M (List D)) : EM := fun Γ => do
  let xs ← m Γ
  pure (.lst xs)
section
variable {X : Cx} {k : Kx} {E : XE} {e : Expr} {es : List Expr} {m mr : Ev → M (List D)} {pos : Pos}
theorem frz_imp {σ : L2.St} {H : Hp} {Q : VK} (h : tM k E (mFrz m) σ H Q) : tO k E m σ H Q := by
  obtain ⟨F, Γ, st, ok, w⟩ := h
  refine ⟨F, Γ, st, ok, ?_⟩
  have w : Wp k E σ F H ((m Γ st).bind fun xs => (pure (.lst xs) : M D)) (qD k Q) := w
  revert w
  cases m Γ st with
  | ok xs st' =>
    intro w F' H' s a vs h1 f1 h0 r
    have o2 : Same F' (upd F' a (.lst vs)) := fun b o e => by rw [upd_ne (fun z => by rw [z, f1] at e; cases e)]; exact e
    exact w _ _ (s.frz h0 h1 f1 ok.sub) _ (.lst upd_same (r.mono o2))
  | err C fs st' => exact fun w => w
  | stuck => exact fun w => w
theorem e_frz (h : PE X e (tO k E m)) : PE X e (tM k E (mFrz m)) := PE.weak h fun σ H Q => frz_imp
/-- [..], a list display -/
def mDisp (mr : Ev → M (List D)) : Ev → M (List D) := fun Γ => do
  let ds ← mr Γ
  if decide (ds.length ≤ sizeLine) then pure ds else halt
theorem o_lst (h : PA X es (tA k E mr)) : PE X (.List es pos) (tO k E (mDisp mr)) :=
  PE.weak (pe_lst h) fun σ H Q ⟨F, Γ, st, ok, w⟩ => tA.then_ ok w fun vs ds F1 H1 st1 s1 ok1 r1 w1 => by
    split at w1
    · rename_i hc
      refine ⟨by rw [r1.length]; exact of_decide_eq_true hc, fun p np => ?_⟩
      exact w1 _ _ (ok1.new' np) p vs upd_same (ok1.fnone np) (s1.back np) r1
    · exact w1.elim

/-! ### comprehensions -/
def wipeE (Γ : Ev) : List Nat → Ev
  | [] => Γ
  | v :: vs => (wipeE Γ vs).set v none
theorem wipeE_length (Γ : Ev) : ∀ vs : List Nat, (wipeE Γ vs).length = Γ.length
  | [] => rfl
  | v :: vs => by rw [wipeE, List.length_set, wipeE_length Γ vs]
theorem wipeE_some {Γ : Ev} {i : Nat} {x : Sl} : ∀ {vs : List Nat}, (wipeE Γ vs)[i]? = some (some x) → Γ[i]? = some (some x) ∧ i ∉ vs
  | [], h => ⟨h, by simp⟩
  | v :: vs, h => by
    unfold wipeE at h
    by_cases hi : v = i
    · subst hi
      by_cases hv : v < (wipeE Γ vs).length
      · rw [List.getElem?_set_self hv] at h; cases h
      · rw [List.getElem?_eq_none (by simpa using hv)] at h; cases h
    · rw [List.getElem?_set_ne hi] at h
      obtain ⟨h1, h2⟩ := wipeE_some h
      exact ⟨h1, by simp only [List.mem_cons, not_or]; exact ⟨fun e => hi e.symm, h2⟩⟩
theorem wipe_other {σ : L2.St} {i : Nat} : ∀ {vs : List Nat}, i ∉ vs → (wipe σ vs)[i]? = σ[i]?
  | [], _ => rfl
  | v :: vs, h => by
    simp only [List.mem_cons, not_or] at h
    unfold wipe
    rw [List.getElem?_set_ne (fun z => h.1 z.symm)]
    exact wipe_other h.2
theorem wipe_at {σ : L2.St} {i : Nat} : ∀ {vs : List Nat}, i ∈ vs → (wipe σ vs)[i]? = if i < σ.length then some none else none
  | [], h => by simp at h
  | v :: vs, h => by
    unfold wipe
    by_cases hv : v = i
    · subst hv
      by_cases hl : v < σ.length
      · rw [List.getElem?_set_self (by rw [wipe_length]; exact hl), if_pos hl]
      · rw [List.getElem?_eq_none (by rw [List.length_set, wipe_length]; omega), if_neg hl]
    · rw [List.getElem?_set_ne hv]
      rcases List.mem_cons.mp h with z | z
      · exact absurd z.symm hv
      · exact wipe_at z
theorem wipe_same {σ σ' : L2.St} {vs : List Nat} (hl : σ'.length = σ.length) (h : ∀ i : Nat, i ∉ vs → σ'[i]? = σ[i]?) : wipe σ' vs = wipe σ vs := by
  apply List.ext_getElem?
  intro i
  by_cases hi : i ∈ vs
  · rw [wipe_at hi, wipe_at hi, hl]
  · rw [wipe_other hi, wipe_other hi]; exact h i hi
theorem Ok.wipe {F H : Hp} {σ : L2.St} {Γ : Ev} {st : DS} (o : Ok k F H σ Γ st) (vs : List Nat) : Ok k F H (wipe σ vs) (wipeE Γ vs) st where
  sub := o.sub
  at_ := o.at_
  hid := o.hid
  bsub := o.bsub
  blst := o.blst
  tabs := o.tabs
  ftbl := o.ftbl
  len := by rw [wipe_length, wipeE_length]; exact o.len
  slot := fun i x e => by
    obtain ⟨e1, h1⟩ := wipeE_some e
    rw [wipe_other h1]
    exact o.slot i x e1
  apart := fun i j xs ys a e1 e2 e3 e4 => by
    obtain ⟨f1, h1⟩ := wipeE_some e1
    obtain ⟨f2, h2⟩ := wipeE_some e2
    rw [wipe_other h1] at e3
    rw [wipe_other h2] at e4
    exact o.apart i j xs ys a f1 f2 e3 e4
def compL (g : GM) (t : Ev → M Bool) (e : EM) (Γ : Ev) : List D → M (List D)
  | [] => pure []
  | d :: ds => match g d Γ with
    | none => halt
    | some Γ1 => do
      let c ← nxM (t Γ1)
      if c then do
        let y ← nxM (e Γ1)
        let r ← compL g t e Γ ds
        pure (y :: r)
      else compL g t e Γ ds
def mComp (mi : Ev → M (List D)) (g : GM) (t : Ev → M Bool) (e : EM) (vs : List Nat) : Ev → M (List D) := fun Γ => do
  let xs ← mi Γ
  if decide (xs.length ≤ sizeLine) then compL g t e (wipeE Γ vs) xs else halt
def mYes : Ev → M Bool := fun _ => pure true
theorem ts_nil : PTs X [] (tT k E mYes) := ⟨fun pins s σ H Q I ⟨F, Γ, st, ok, w⟩ => pts_nil.run pins s σ H Q I (w F H ok.refl)⟩
theorem ts_one {c : Expr} {t : Ev → M Bool} (h : PT X c (tT k E t)) : PTs X [c] (tT k E t) := pts_one h
/-- the list so far, then the rest -/
def onto (acc : List D) (o : Out (List D)) : Out (List D) := o.bind fun r st => .ok (acc ++ r) st
theorem onto_nil {o : Out (List D)} : onto [] o = o := by
  cases o <;> rfl
theorem onto_cons {acc : List D} {y : D} {o : Out (List D)} : onto acc (o.bind fun r st => .ok (y :: r) st) = onto (acc ++ [y]) o := by
  cases o with
  | ok r st => simp [onto, Out.bind]
  | err C fs st => rfl
  | stuck => rfl
theorem onto_bind {α : Type} {acc : List D} {o : Out α} {f : α → DS → Out (List D)} : onto acc (o.bind f) = o.bind fun a st => onto acc (f a st) := by
  cases o <;> rfl
theorem tI.then_ {F H : Hp} {σ : L2.St} {Γ : Ev} {st : DS} {mi : Ev → M (List D)} {α : Type} {f : List D → M α} {R : α → Hp → Hp → DS → Prop} {Q : It → Hp → Prop} (ok : Ok k F H σ Γ st) (h : Wp k E σ F H ((mi Γ >>= f) st) R)
    (q : ∀ J xs F1 H1 st1, Step k F H F1 H1 st1 → Ok k F1 H1 σ Γ st1 → ItOk k J F1 xs → Wp k E σ F1 H1 (f xs st1) R → Q J H1) : tI k E mi σ H Q :=
  ⟨F, Γ, st, ok, (Wp.bind (f := f) ok h).mono fun d F1 H1 st1 s w J j => q J d F1 H1 st1 s (ok.step s) j w⟩
theorem lc_imp {mi : Ev → M (List D)} {g : GM} {js : List Nat} {t : Ev → M Bool} {me : EM} {own : List (Str × Nat)} (hj : ∀ j ∈ js, j ∈ own.map (·.2)) {σ : L2.St} {H : Hp} {Q : VK} (h : tO k E (mComp mi g t me (own.map (·.2))) σ H Q) :
    tLc (tI k E mi) (gM k js g) (tT k EF t) (tM k EF me) (own.map (·.2)) σ H Q := by
  obtain ⟨F, Γ, st, ok0, w⟩ := h
  refine tI.then_ ok0 w fun J xs F1 H1 st1 s1 ok1 jk w1 => ?_
  have hz : xs.length ≤ sizeLine := by
    by_cases h : xs.length ≤ sizeLine
    · exact h
    · rw [decide_eq_false h] at w1; exact w1.elim
  rw [decide_eq_true hz] at w1
  have w1 : Wp k E σ F1 H1 (compL g t me (wipeE Γ (own.map (·.2))) xs st1) fun xs F' H' _ => ∀ a vs, H' a = some (.lst vs) → F' a = none → H a = none → Reps k F' vs xs → Q (.ref a) H' := w1
  intro D nD
  have nd1 : ¬ k.hot D := ok1.cold nD
  have hD0 : H D = none := s1.back nD
  have fD1 : F1 D = none := ok1.fnone nD
  have s0 := Step.mut (ob := .lst []) ok1.refl nD fD1 nd1 (.inl nD)
  refine ⟨fun i m H2 => m = xs.length - i ∧ i ≤ xs.length ∧ ∃ F2 st2 accV accD, Step k F1 H1 F2 H2 st2 ∧ H2 D = some (.lst accV) ∧ F2 D = none ∧ Reps k F2 accV accD ∧ accV.length ≤ i ∧
      Wp k E σ F1 H1 (onto accD (compL g t me (wipeE Γ (own.map (·.2))) (xs.drop i) st2)) fun xs F' H' _ => ∀ a vs, H' a = some (.lst vs) → F' a = none → H a = none → Reps k F' vs xs → Q (.ref a) H',
    ⟨_, rfl, Nat.zero_le _, F1, st1, [], [], s0, upd_same, fD1, .nil, Nat.zero_le _, by rw [onto_nil]; exact w1⟩, ?_⟩
  rintro i m H2 ⟨rfl, hi, F2, st2, accV, accD, s2, h2, f2, r2, l2, w2⟩
  have ok2 := ok1.step s2
  by_cases hlt : i < xs.length
  · refine .inr ⟨jk.go i F2 H2 s2.ext s2.sub ok2.bsub hlt, fun H3 => i + 1 ≤ xs.length ∧ ∃ F3 st3 accV accD, Step k F1 H1 F3 H3 st3 ∧ H3 D = some (.lst accV) ∧ F3 D = none ∧ Reps k F3 accV accD ∧ accV.length ≤ i + 1 ∧
        Wp k E σ F1 H1 (onto accD (compL g t me (wipeE Γ (own.map (·.2))) (xs.drop (i + 1)) st3)) fun xs F' H' _ => ∀ a vs, H' a = some (.lst vs) → F' a = none → H a = none → Reps k F' vs xs → Q (.ref a) H', ?_, ?_⟩
    · rintro H3 ⟨hi3, n⟩
      exact ⟨_, by omega, rfl, hi3, n⟩
    · intro x H3 y
      obtain ⟨d, F3, e, s3, r⟩ := jk.yld i x F2 H2 H3 σ Γ st2 s2.ext ok2 hlt y
      have ok3 := ok2.step s3
      have s13 := ok1.trans s2 s3
      have ed : xs.drop i = d :: xs.drop (i + 1) := by
        obtain ⟨q1, q2⟩ := List.getElem?_eq_some_iff.mp e
        rw [← q2]
        exact List.drop_eq_getElem_cons q1
      rw [ed] at w2
      unfold compL at w2
      have hw := ok3.wipe (own.map (·.2))
      cases eg : g d (wipeE Γ (own.map (·.2))) with
      | none => rw [eg] at w2; exact w2.elim
      | some Γ3 =>
        rw [eg] at w2
        refine ⟨d, F3, wipeE Γ (own.map (·.2)), Γ3, hw.sub, hw.len, r, eg, fun σ3 u => ?_⟩
        refine ⟨?_, ?_⟩
        · have e1 : wipe σ3 (own.map (·.2)) = wipe (wipe σ (own.map (·.2))) (own.map (·.2)) := wipe_same u.len fun j hj' => by
            rcases u.cases j with ⟨_, _, _, _, _, q⟩ | ⟨q, _⟩
            · exact absurd (hj j q) hj'
            · exact q
          rw [e1]
          exact wipe_same (wipe_length _ _) fun j hj' => wipe_other hj'
        have okU := hw.upd u
        have w2 : Wp k E σ F1 H1 (onto accD ((nxM (t Γ3) st2).bind fun c st => (if c = true then (do
            let y ← nxM (me Γ3)
            let r ← compL g t me (wipeE Γ (own.map (·.2))) (xs.drop (i + 1))
            pure (y :: r)) else compL g t me (wipeE Γ (own.map (·.2))) (xs.drop (i + 1)) : M (List FL.D)) st)) _ := w2
        rw [onto_bind] at w2
        obtain ⟨c, st4, et, w4⟩ := Wp.nx_ok w2
        refine ⟨F3, Γ3, st2, okU, ?_⟩
        rw [et]
        intro F4 H4 s4
        have ok4 := ok3.step s4
        have okU4 := okU.step s4
        have s14 := ok1.trans s13 s4
        have hD2 := s3.stay D _ h2 nd1 ltbl
        have hD4 := s4.stay D _ hD2 nd1 ltbl
        have fD4 := s4.nof _ _ hD2 (s3.nof _ _ h2 f2)
        have r4 : Reps k F4 accV accD := (r2.mono s3.ext).mono s4.ext
        cases c with
        | false => exact iteF ⟨hlt, F4, st4, accV, accD, s14, hD4, fD4, r4, by omega, w4⟩
        | true =>
          refine iteT ?_
          have w4 : Wp k E σ F1 H1 (onto accD ((nxM (me Γ3) st4).bind fun y st => (compL g t me (wipeE Γ (own.map (·.2))) (xs.drop (i + 1)) st).bind fun r st => .ok (y :: r) st)) _ := w4
          rw [onto_bind] at w4
          obtain ⟨y, st5, ee, w5⟩ := Wp.nx_ok w4
          rw [onto_cons] at w5
          refine ⟨F4, Γ3, st4, okU4, ?_⟩
          rw [ee]
          intro F5 H5 s5 v rv
          have hD5 := s5.stay D _ hD4 nd1 ltbl
          have fD5 := s5.nof _ _ hD4 fD4
          have s16 := Step.mut (ob := .lst (accV ++ [v])) (ok1.trans s14 s5) nD fD5 nd1 (.inr ⟨_, hD5⟩)
          exact ⟨accV, hD5, by omega, hlt, F5, st5, accV ++ [v], accD ++ [y], s16, upd_same, fD5, (r4.mono s5.ext).append (.cons rv .nil), by simp; omega, w5⟩
  · have e : i = xs.length := by omega
    subst e
    refine .inl ⟨jk.stop _ F2 H2 s2.ext s2.sub ok2.bsub (Nat.le_refl _), ?_⟩
    rw [List.drop_length] at w2
    have w2 : Wp k E σ F1 H1 (.ok (accD ++ []) st2) _ := w2
    rw [List.append_nil] at w2
    exact w2 F2 H2 s2 D accV h2 f2 hD0 r2

theorem o_comp {elt tg iter : Expr} {ifs : List Expr} {scope : Scope} {own : List (Str × Nat)} {mi : Ev → M (List D)} {g : GM} {js : List Nat} {t : Ev → M Bool} {me : EM} (hc : X.calm = true) (hN : X.N.Nodup) (hi : PI X tg iter (tI k E mi)) (ok : BlkOk X.N X.env.scope scope own)
    (hj : ∀ j ∈ js, j ∈ own.map (·.2))
    (hg : ∀ (s : Shared) (H : Hp) (C : Addr) (cl : List (Str × Addr)) (fp : List Addr), PG (X.blk s H scope (compEnvC scope cl C X.env) fp) tg (gM k js g)) (ht : ∀ (s : Shared) (H : Hp) (C : Addr) (cl : List (Str × Addr)) (fp : List Addr), PTs (X.blk s H scope (compEnvC scope cl C X.env) fp) ifs (tT k EF t))
    (he : ∀ (s : Shared) (H : Hp) (C : Addr) (cl : List (Str × Addr)) (fp : List Addr), PE (X.blk s H scope (compEnvC scope cl C X.env) fp) elt (tM k EF me)) (hs : ∀ x, foldedSetIterable iter X.env x = pure x := by intro _; rfl) :
    PE X (.ListComp elt [⟨tg, iter, ifs, 0⟩] scope pos) (tO k E (mComp mi g t me (own.map (·.2)))) := PE.weak (pe_lc hc hN hi ok hg ht he hs) fun σ H Q => lc_imp hj
/-! ### subscripts -/
def gIx : M2 := fun d e st => match d, e with
  | .lst xs, .int i => (match atI xs i with | some z => .ok z st | none => .stuck)
  | .tup xs, .int i => (match atI xs i with | some z => .ok z st | none => .stuck)
  | .bor xs, .int i => (match atI xs i with | some z => .ok z st | none => .stuck)
  | .ltp xs, .int i => (match atI xs i with | some z => .ok z st | none => .stuck)
  | .str z, .int i => if decide (z.length ≤ sizeLine) then (match atI z.cps.toList i with | some c => .ok (.str ⟨#[c]⟩) st | none => .stuck) else .stuck
  | _, _ => .stuck
theorem Reps.atI {F : Hp} {vs : List V} {ds : List D} {i : Int} {d : D} (r : Reps k F vs ds) (h : L2.atI ds i = some d) : ∃ v, L2.atI vs i = some v ∧ Rep k F v d := by
  unfold L2.atI at h ⊢
  rw [r.length]
  cases e : ixN ds.length i with
  | none => rw [e] at h; cases h
  | some j =>
    rw [e] at h
    obtain ⟨v, e1, e2⟩ := r.getD (i := j) h
    exact ⟨v, e1, e2⟩
theorem ix_use (hk : k.K = X.K) {σ : L2.St} {F H : Hp} {Γ : Ev} {st : DS} {x y : V} {d e : D} {Q : VK} (ok : Ok k F H σ Γ st) (rx : Rep k F x d) (ry : Rep k F y e) (w : Wp k E σ F H (gIx d e st) (qD k Q)) : rIx X.K x y H Q := by
  unfold gIx at w
  split at w
  · rename_i xs i
    split at w
    · rename_i z hz
      cases ry
      cases rx with
      | lst h r =>
        obtain ⟨v, e1, e2⟩ := r.atI hz
        exact .inl ⟨_, _, _, _, rfl, rfl, SqL.of (ok.sub _ _ h), e1, w F H ok.refl _ e2⟩
    · exact w.elim
  · rename_i xs i
    split at w
    · rename_i z hz
      cases ry
      cases rx with
      | tup h r =>
        obtain ⟨v, e1, e2⟩ := r.atI hz
        rw [hk] at h
        exact .inr (.inl ⟨_, _, _, _, rfl, rfl, sqt_mono ok.sub h, e1, w F H ok.refl _ e2⟩)
    · exact w.elim
  · rename_i xs i
    split at w
    · rename_i z hz
      cases ry
      cases rx with
      | bor h r =>
        obtain ⟨v, e1, e2⟩ := r.atI hz
        exact .inl ⟨_, _, _, _, rfl, rfl, SqL.of (ok.bsub _ _ h), e1, w F H ok.refl _ e2⟩
    · exact w.elim
  · rename_i xs i
    split at w
    · rename_i z hz
      cases ry
      cases rx with
      | ltp h r =>
        obtain ⟨v, e1, e2⟩ := r.atI hz
        rw [hk] at h
        exact .inr (.inl ⟨_, _, _, _, rfl, rfl, sqt_mono ok.sub h, e1, w F H ok.refl _ e2⟩)
    · exact w.elim
  · rename_i z i
    split at w
    · rename_i hl
      split at w
      · rename_i c hc
        cases ry
        cases rx
        exact .inr (.inr ⟨_, _, _, rfl, rfl, of_decide_eq_true hl, hc, w F H ok.refl _ (.str _)⟩)
      · exact w.elim
    · exact w.elim
  · exact w.elim
theorem e_ix {a b : Expr} {ma mb : EM} (ha : PE X a (tM k E ma)) (hb : PE X b (tM k E mb)) (hs : PlainIx b := by exact fun _ _ => rfl) (hk : k.K = X.K := by rfl) : PE X (.Subscript a b pos) (tM k E (mOp gIx ma mb)) :=
  PE.weak (pe_ix ix_seq ha hb hs) fun σ H Q h => tM.two (fun {E σ F H Γ st x y d e Q} => ix_use hk) h
def cutA {α : Type} (xs : List α) (lo hi : Option Int) : List α := (xs.drop (HT.sIx xs.length 0 lo)).take (HT.sIx xs.length xs.length hi - HT.sIx xs.length 0 lo)
theorem Reps.cut {F : Hp} {vs : List V} {ds : List D} (r : Reps k F vs ds) (lo hi : Option Int) : Reps k F (cutV vs lo hi) (cutA ds lo hi) := by
  unfold cutV cutA
  rw [r.length]
  exact (r.drop _).take _
def tP (k : Kx) (E : XE) (m : Ev → M (Option Int)) : TO := fun σ H Q => ∃ F Γ st, Ok k F H σ Γ st ∧ Wp k E σ F H (m Γ st) fun o _ H' _ => Q o H'
def mNoP : Ev → M (Option Int) := fun _ => pure none
def gInt : D → M Int := fun d st => match d with
  | .int i => .ok i st
  | _ => .stuck
def mSomeP (me : EM) : Ev → M (Option Int) := fun Γ => do
  let d ← me Γ
  let i ← gInt d
  pure (some i)
theorem PO.weak {o : Option Expr} {t t' : TO} (h : PO X o t) (q : ∀ σ H Q, t' σ H Q → t σ H Q) : PO X o t' := ⟨fun pins s σ H Q I w => h.run pins s σ H Q I (q _ _ _ w)⟩
theorem p_none : PO X none (tP k E mNoP) := PO.weak po_none fun σ H Q ⟨F, Γ, st, ok, w⟩ => w F H ok.refl
theorem p_some {me : EM} (h : PE X e (tM k E me)) : PO X (some e) (tP k E (mSomeP me)) := PO.weak (po_some h) fun σ H Q ⟨F, Γ, st, ok, w⟩ => tM.then_ ok w fun v d F1 H1 st1 s1 ok1 r1 w1 => by
  have w1 : Wp k E σ F1 H1 ((gInt d st1).bind fun i => (pure (some i) : M (Option Int))) fun o _ H' _ => Q o H' := w1
  unfold gInt at w1
  split at w1
  · cases r1
    exact ⟨_, rfl, w1 F1 H1 ok1.refl⟩
  · exact w1.elim
theorem tP.then_ {F H : Hp} {σ : L2.St} {Γ : Ev} {st : DS} {mi : Ev → M (Option Int)} {α : Type} {f : Option Int → M α} {R : α → Hp → Hp → DS → Prop} {Q : Option Int → Hp → Prop} (ok : Ok k F H σ Γ st) (h : Wp k E σ F H ((mi Γ >>= f) st) R)
    (q : ∀ o F1 H1 st1, Step k F H F1 H1 st1 → Ok k F1 H1 σ Γ st1 → Wp k E σ F1 H1 (f o st1) R → Q o H1) : tP k E mi σ H Q :=
  ⟨F, Γ, st, ok, (Wp.bind (f := f) ok h).mono fun d F1 H1 st1 s w => q d F1 H1 st1 s (ok.step s) w⟩
/-- x[lo:hi] of a list, a tuple -/
def gSl : D → Option Int → Option Int → M D := fun d lo hi st => match d with
  | .lst xs => .ok (.lst (cutA xs lo hi)) st
  | .tup xs => .ok (.tup (cutA xs lo hi)) st
  | .bor xs => .ok (.lst (cutA xs lo hi)) st
  | .kl xs => .ok (.lst (cutA xs lo hi)) st
  | _ => .stuck
def mSl (me : EM) (ml mh : Ev → M (Option Int)) : EM := fun Γ => do
  let d ← me Γ
  let lo ← ml Γ
  let hi ← mh Γ
  gSl d lo hi
theorem cut_whole {α : Type} {xs : List α} {lo hi : Option Int} (h : HT.sIx xs.length 0 lo = 0 ∧ HT.sIx xs.length xs.length hi = xs.length) : cutA xs lo hi = xs := by
  unfold cutA
  rw [h.1, h.2]
  simp
theorem e_sl {lo hi : Option Expr} {me : EM} {ml mh : Ev → M (Option Int)} {p2 : Pos} (he : PE X e (tM k E me)) (hl : PO X lo (tP k E ml)) (hu : PO X hi (tP k E mh)) (hk : k.K = X.K := by rfl) : PE X (.Subscript e (.Slice lo hi none p2) pos) (tM k E (mSl me ml mh)) :=
  PE.weak (pe_slice (sl_list.or sl_tupS) he hl hu) fun σ H Q ⟨F, Γ, st, ok, w⟩ => tM.then_ ok w fun v d F1 H1 st1 s1 ok1 r1 w1 => tP.then_ ok1 w1 fun lo F2 H2 st2 s2 ok2 w2 => tP.then_ ok2 w2 fun hi F3 H3 st3 s3 ok3 w3 => by
    have r3 := (r1.mono s2.ext).mono s3.ext
    unfold gSl at w3
    split at w3
    · cases r3 with
      | lst h r =>
        refine .inl ⟨_, _, rfl, SqL.of (ok3.sub _ _ h), fun p np => ?_⟩
        exact w3 _ _ (ok3.new np) _ (.lst upd_same ((r.cut lo hi).mono (ok3.new np).ext))
    · cases r3 with
      | @tup _ vs _ h r q =>
        rw [hk] at h
        refine .inr ⟨_, _, rfl, sqt_mono ok3.sub h, fun z => ?_, fun z p ob np nd => ?_⟩
        · rw [r.length] at z
          rw [cut_whole z] at w3
          exact w3 _ _ ok3.refl _ (.tup (by rw [hk]; exact h) r q)
        · exact w3 _ _ (ok3.new np) _ (.tup (sqt_frz upd_same) ((r.cut lo hi).mono (ok3.new np).ext) (.of upd_same nd))
    · cases r3 with
      | bor h r =>
        refine .inl ⟨_, _, rfl, SqL.of (ok3.bsub _ _ h), fun p np => ?_⟩
        exact w3 _ _ (ok3.new np) _ (.lst upd_same ((r.cut lo hi).mono (ok3.new np).ext))
    · cases r3 with
      | kl h r =>
        refine .inl ⟨_, _, rfl, sql_mono ok3.sub (hk ▸ h), fun p np => ?_⟩
        exact w3 _ _ (ok3.new np) _ (.lst upd_same ((r.cut lo hi).mono (ok3.new np).ext))
    · exact w3.elim
end
end FL

/-! FL5: defs: what they promise, how they are entered, how they are called -/
namespace FL
open PySem PySem.Spec PyProof.Rows L2

def spM (P : Program) (w : World) (K : PySem.W.Frag) (T : List (Addr × Str)) (g : List D → M D) : Sp := fun vs H Q E => ∃ on dl cl B F ds st, Ok ⟨K, on, dl, cl, B, T, P, w⟩ F H [] [] st ∧ Reps ⟨K, on, dl, cl, B, T, P, w⟩ F vs ds ∧ Wp ⟨K, on, dl, cl, B, T, P, w⟩ (fun _ => E) [] F H (g ds st) (qD ⟨K, on, dl, cl, B, T, P, w⟩ Q)
def startE (n : Nat) (ds : List D) : Ev := ds.map (fun d => some (.dat d)) ++ List.replicate (n - ds.length) none
def kRet : Fl → M D := fun r st => match r with
  | .nx _ => .ok .non st
  | .rt d => .ok d st
  | _ => .stuck
/-- n names, np of them parameters -/
def fnM (np n : Nat) (mb : SM) : List D → M D := fun ds => if ds.length = np then (do
    let r ← nxM (mb (startE n ds))
    kRet r) else halt
section
variable {P : Program} {w : World} {K : PySem.W.Frag} {T : List (Addr × Str)} {mg : Str → Option Value} {base : Heap}
theorem Reps.slot {k : Kx} {F : Hp} {vs : List V} {ds : List D} {n : Nat} (r : Reps k F vs ds) {i : Nat} {x : Sl} (h : (startE n ds)[i]? = some (some x)) : ∃ v d, (vs.map some ++ List.replicate (n - vs.length) none)[i]? = some (some v) ∧ x = .dat d ∧ Rep k F v d := by
  unfold startE at h
  by_cases hi : i < ds.length
  · rw [List.getElem?_append_left (by simpa using hi), List.getElem?_map] at h
    cases e : ds[i]? with
    | none => rw [e] at h; cases h
    | some d =>
      rw [e] at h
      cases h
      obtain ⟨v, e1, e2⟩ := r.getD e
      exact ⟨v, d, by rw [List.getElem?_append_left (by simp; rw [r.length]; exact hi), List.getElem?_map, e1]; rfl, rfl, e2⟩
  · rw [List.getElem?_append_right (by simp; omega)] at h
    rw [List.getElem?_replicate] at h
    split at h <;> cases h
/-- a def keeps g; it is entered while no repr runs -/
structure FnG (P : Program) (w : World) (K : PySem.W.Frag) (T : List (Addr × Str)) (mg : Str → Option Value) (base : Heap) (j : Nat) (f : Addr) (fd : FuncData) (ps : List Str) (g : List D → M D) : Prop where
  len : ∀ ds st, ds.length ≠ ps.length → g ds st = .stuck
  go : ∀ (A : Around) (outs : List Env) (s : Shared) (H : Hp) (args : Args) (us : List Value) (vs : List V) (Q : VK) (E : XK), Room j A → A.guards = some [] → Env0 P w K mg base A outs s H → BindsTo s fd args (ps.zip us) →
    Vals vs us → spM P w K T g vs H Q E → codeAny (model P w) A (.call (.ref f) args) (CR (L2.CX P w) outs P w H s Q E) s
theorem spM.len {T : List (Addr × Str)} {g : List D → M D} {n : Nat} (hg : ∀ ds st, ds.length ≠ n → g ds st = .stuck) {vs : List V} {H : Hp} {Q : VK} {E : XK} (h : spM P w K T g vs H Q E) : vs.length = n := by
  obtain ⟨on, dl, cl, B, F, ds, st, ok, r, w⟩ := h
  rw [r.length]
  by_cases e : ds.length = n
  · exact e
  · rw [hg ds st e] at w
    exact w.elim
theorem FnG.up {i j : Nat} {f : Addr} {fd : FuncData} {ps : List Str} {g : List D → M D} (Fn : FnG P w K T mg base i f fd ps g) (h : i ≤ j) : FnG P w K T mg base j f fd ps g :=
  ⟨Fn.len, fun A outs s H args us vs Q E hr => Fn.go A outs s H args us vs Q E (hr.mono h)⟩
/-- by another function that answers the same where it answers -/
theorem FnG.by {j : Nat} {f : Addr} {fd : FuncData} {ps : List Str} {g g' : List D → M D} (Fn : FnG P w K T mg base j f fd ps g) (h : ∀ ds st, g' ds st ≠ .stuck → g ds st = g' ds st) : FnG P w K T mg base j f fd ps g' := by
  refine ⟨fun ds st e => ?_, fun A outs s H args us vs Q E hr gd e0 hb r ⟨on, dl, cl, B, F, ds, st, ok, rr, w⟩ => Fn.go A outs s H args us vs Q E hr gd e0 hb r ⟨on, dl, cl, B, F, ds, st, ok, rr, ?_⟩⟩
  · have q := Fn.len ds st e
    by_cases z : g' ds st = .stuck
    · exact z
    · rw [h ds st z] at q
      exact q
  · by_cases z : g' ds st = .stuck
    · rw [z] at w
      exact w.elim
    · rw [h ds st z]
      exact w
/-- a def is entered, its promise sp told at the very state -/
theorem go_def {x qual : Str} {st : Stmt} {f : Addr} {fd : FuncData} {N ps : List Str} {j : Nat} {sp : Sp} (Fn : Fun K x qual st f fd) (S : FnScope N ps (defScope st)) (hl : ∀ vs H Q E, sp vs H Q E → vs.length = ps.length)
    (body : ∀ (cdv : Value) (A : Around) (outs : List Env) (s : Shared) (H : Hp) (vs : List V) (Q : VK) (E : XK), fd.code = cdv → Room j (A.deeper (envOfC qual (defScope st) s.heap.objs.size f cdv)) → A.guards = some [] → sp vs H Q E →
      ∃ t, PSs (cxOf (L2.CX P w) P w K mg base N qual (defScope st) f cdv A outs s H E) (defBody st) t ∧ t { nx := fun _ H' => Q .non H', rt := Q } (L2.start N vs) H) (A : Around) (outs : List Env) (s : Shared) (H : Hp) (args : Args) (us : List Value) (vs : List V) (Q : VK) (E : XK)
    (room : Room (j + 1) A) (gd : A.guards = some []) (env : Env0 P w K mg base A outs s H) (bind : BindsTo s fd args (ps.zip us)) (rel : Vals vs us) (sp : sp vs H Q E) : codeAny (model P w) A (.call (.ref f) args) (CR (L2.CX P w) outs P w H s Q E) s := by
  obtain ⟨oc, od, kV, dc, pm, an, cdv, ct, osl, efd, look, isCode⟩ := Fn.ex
  subst efd
  have inK : K.In s.heap := env.mod.kin.keeps fun b o q => (env.bs b o q).1
  have lens := hl _ _ _ _ sp
  have kinds : ∀ y ∈ ps.zip us, (defScope st).names.lookup y.1 = some .local ∨ ((defScope st).names.lookup y.1 = some .cell ∧ ((cellsFrom (s.heap.objs.size + 1) (defScope st).names []).lookup y.1).isSome = true) := by
    rintro ⟨n, v⟩ hy
    have := S.par n (List.of_mem_zip hy).1
    rcases this with l | l
    · exact Or.inl l
    · exact Or.inr ⟨l, PySem.W.cellsFrom_some _ _ _ (Or.inl l)⟩
  refine codeAny_call_function room.depth (inK _ _ look) rfl S.co S.gen rfl (PySem.W.codeRec_of inK isCode) ?_
  refine bind _ _ _ _ (wpAny_newFunctionEnv_cells S.kind kinds ?_)
  rintro env' rfl s' entered
  refine ⟨(env.mod.nolimit.keeps fun b o q => (env.bs b o q).1).keeps entered.toInCall.keep, codeAny_func ?_⟩
  obtain ⟨t, walk, hold⟩ := body cdv A outs s H vs Q E rfl (room.deeper _) gd sp
  have I := inv_start (CX := L2.CX P w) (E := E) S room.hd env lens rel entered
  refine wpAny_mono (walk.run [] s' (L2.start N vs) H _ I hold) (fun fl s2 hs => ?_) (fun _ _ q => q)
  cases fl with
  | next => exact let ⟨_, H', J, q⟩ := hs; ⟨V.non, H', J.os, J.bare, J.base, J.hok, rfl, q⟩
  | ret u => exact let ⟨v, _, H', J, rv, q⟩ := hs; ⟨v, H', J.os, J.bare, J.base, J.hok, rv, q⟩
  | brk => exact let ⟨_, _, _, q⟩ := hs; False.elim q
  | cont => exact let ⟨_, _, _, q⟩ := hs; False.elim q
/-- a def, by its body's readings at each entry -/
theorem fng_of {x qual : Str} {st : Stmt} {f : Addr} {fd : FuncData} {N ps : List Str} {j : Nat} {g : List D → M D} (Fn : Fun K x qual st f fd) (S : FnScope N ps (defScope st)) (hl : ∀ ds st, ds.length ≠ ps.length → g ds st = .stuck)
    (body : ∀ (cdv : Value) (A : Around) (outs : List Env) (s : Shared) (H : Hp) (vs : List V) (Q : VK) (E : XK), Room j (A.deeper (envOfC qual (defScope st) s.heap.objs.size f cdv)) → A.guards = some [] → spM P w K T g vs H Q E →
      ∃ t, PSs (cxOf (L2.CX P w) P w K mg base N qual (defScope st) f cdv A outs s H E) (defBody st) t ∧ t { nx := fun _ H' => Q .non H', rt := Q } (L2.start N vs) H) : FnG P w K T mg base (j + 1) f fd ps g :=
  ⟨hl, go_def Fn S (fun _ _ _ _ => spM.len hl) fun cdv A outs s H vs Q E _ => body cdv A outs s H vs Q E⟩
/-- what a body's states are at its entry -/
theorem start_ok {on : Bool} {dl cl : Addr} {B F H : Hp} {N ps : List Str} {vs : List V} {ds : List D} {st0 : DS} (ok : Ok ⟨K, on, dl, cl, B, T, P, w⟩ F H [] [] st0) (r : Reps ⟨K, on, dl, cl, B, T, P, w⟩ F vs ds) (hN : ds.length ≤ N.length) :
    OkS ⟨K, on, dl, cl, B, T, P, w⟩ F H F F H (L2.start N vs) (startE N.length ds) st0 := by
  refine ⟨⟨ok.sub, ok.at_, ok.hid, ok.bsub, ok.blst, ok.tabs, ok.ftbl, by simp [L2.start, startE, r.length], fun i y e => ?_, fun i j xs ys a e1 => ?_⟩, Same.refl _, Same.refl _, fun _ _ h _ _ => h, fun _ o h => ⟨o, h⟩, fun _ _ _ g => g, fun i xs a e1 => ?_, ⟨st0, ok⟩⟩
  · obtain ⟨v, d, e1, e2, e3⟩ := r.slot e
    subst e2
    exact ⟨v, e1, e3⟩
  · obtain ⟨v, d, _, e2, _⟩ := r.slot e1
    cases e2
  · obtain ⟨v, d, _, e2, _⟩ := r.slot e1
    cases e2
theorem scope_len {N ps : List Str} {sc : Scope} (S : FnScope N ps sc) : ps.length ≤ N.length := by
  have := congrArg List.length S.pre
  rw [List.length_take] at this
  omega
/-- .. where its code object is of weight -/
theorem ok_defC {x qual : Str} {st : Stmt} {f : Addr} {fd : FuncData} {N ps : List Str} {j : Nat} {mb : SM} (Fn : Fun K x qual st f fd) (S : FnScope N ps (defScope st))
    (hb : ∀ (cdv : Value) (A : Around) (outer : List Env) (s : Shared) (H : Hp) (E : XK) (on : Bool) (dl cl : Addr) (B : Hp), fd.code = cdv → Room j (A.deeper (envOfC qual (defScope st) s.heap.objs.size f cdv)) → (A.deeper (envOfC qual (defScope st) s.heap.objs.size f cdv)).guards = some [] →
      PSs (cxOf (L2.CX P w) P w K mg base N qual (defScope st) f cdv A outer s H E).nox (defBody st) (tS ⟨K, on, dl, cl, B, T, P, w⟩ EF mb)) : FnG P w K T mg base (j + 1) f fd ps (fnM ps.length N.length mb) := by
  have len : ∀ ds st, ds.length ≠ ps.length → fnM ps.length N.length mb ds st = .stuck := fun ds st e => by unfold fnM; rw [if_neg e]; rfl
  refine ⟨len, go_def Fn S (fun _ _ _ _ => spM.len len) fun cdv A outs s H vs Q E hcd hr gd ⟨on, dl, cl, B, F, ds, st0, ok, r, h⟩ => ⟨_, (hb cdv A outs s H E on dl cl B hcd hr gd).nox, ?_⟩⟩
  unfold fnM at h
  split at h
  · rename_i el
    refine ⟨F, H, F, F, startE N.length ds, st0, start_ok (ps := ps) ok r (by rw [el]; exact scope_len S), ?_⟩
    have h : Wp ⟨K, on, dl, cl, B, T, P, w⟩ (fun _ => E) [] F H ((nxM (mb (startE N.length ds)) st0).bind kRet) (qD ⟨K, on, dl, cl, B, T, P, w⟩ Q) := h
    unfold nxM at h
    revert h
    cases mb (startE N.length ds) st0 with
    | ok r' st' =>
      cases r' with
      | nx Γ' => exact fun h σ' F' H' o => h F' H' o.toStep _ .non
      | rt d => exact fun h v F' H' s rv => h F' H' s v rv
      | bk Γ' => exact fun h => h.elim
      | ct Γ' => exact fun h => h.elim
      | xc C fs Γ' => exact fun h => h.elim
    | err C fs st' => exact fun h => h.elim
    | stuck => exact fun h => h.elim
  · exact h.elim
/-- a def that lets nothing out -/
theorem ok_def {x qual : Str} {st : Stmt} {f : Addr} {fd : FuncData} {N ps : List Str} {j : Nat} {mb : SM} (Fn : Fun K x qual st f fd) (S : FnScope N ps (defScope st))
    (hb : ∀ (cdv : Value) (A : Around) (outer : List Env) (s : Shared) (H : Hp) (E : XK) (on : Bool) (dl cl : Addr) (B : Hp), Room j (A.deeper (envOfC qual (defScope st) s.heap.objs.size f cdv)) → (A.deeper (envOfC qual (defScope st) s.heap.objs.size f cdv)).guards = some [] →
      PSs (cxOf (L2.CX P w) P w K mg base N qual (defScope st) f cdv A outer s H E).nox (defBody st) (tS ⟨K, on, dl, cl, B, T, P, w⟩ EF mb)) : FnG P w K T mg base (j + 1) f fd ps (fnM ps.length N.length mb) :=
  ok_defC Fn S fun cdv A outer s H E on dl cl B _ => hb cdv A outer s H E on dl cl B
end

section
variable {X : Cx} {k : Kx} {E : XE} {e : Expr} {es : List Expr} {mr mk : Ev → M (List D)} {pos p : Pos} {x : Str} {j : Nat} {f : Addr} {fd : FuncData} {ps : List Str} {g : List D → M D}
theorem Ok.bare {F H : Hp} {σ : L2.St} {Γ : Ev} {st : DS} (o : Ok k F H σ Γ st) : Ok k F H [] [] st := ⟨o.sub, o.at_, o.hid, o.bsub, o.blst, o.tabs, o.ftbl, rfl, fun i x e => by simp at e, fun i j xs ys a e => by simp at e⟩
theorem sp_use (hk : k.K = X.K ∧ k.P = X.prog ∧ k.w = X.w) {F H : Hp} {σ : L2.St} {Γ : Ev} {st : DS} {vs : List V} {ds : List D} {Q : VK} (ok : Ok k F H σ Γ st) (r : Reps k F vs ds) (w : Wp k E σ F H (nxM (g ds) st) (qD k Q)) : spM X.prog X.w X.K k.T g vs H Q E0 := by
  obtain ⟨K', on, dl, cl, B, T, P', w'⟩ := k
  obtain ⟨hk, hkP, hkw⟩ := hk
  have hk : K' = X.K := hk
  have hkP : P' = X.prog := hkP
  have hkw : w' = X.w := hkw
  subst hk
  subst hkP
  subst hkw
  refine ⟨on, dl, cl, B, F, ds, st, ok.bare, r, ?_⟩
  unfold nxM at w
  revert w
  cases g ds st with
  | ok a st' => exact fun w => w
  | err C fs st' => exact fun w => w.elim
  | stuck => exact fun w => w
/-- the callee runs -/
theorem go_fn {pins : List (Addr × Obj)} {σ : L2.St} {H : Hp} {s : Shared} {Q : VK} {args : Args} {us : List Value} {vs : List V} {E' : XK} (Fn : FnG X.prog X.w X.K k.T X.mg X.base j f fd ps g) (hr : Room j X.A) (gd : X.A.guards = some []) (hx : PassesAt (L2.CX X.prog X.w) X σ E')
    (I : Inv X pins σ H s) (r : Vals vs us) (b : BindsTo s fd args (ps.zip us)) (h : spM X.prog X.w X.K k.T g vs H Q E') : wpAny (model X.prog X.w) X.A (call (.ref f) args.pos args.kw) (EP X pins σ Q) X.xe s := by
  have run := Fn.go X.A X.stack s H args us vs Q E' hr gd I.env0 b r h
  refine wpAny_call (codeAny_mono run ?_)
  intro res s' after
  match res, after with
  | .error e, after => exact hx pins H s e s' I after
  | .ok (.ret u), after => exact I.after after
  | .ok .next, after => exact False.elim after
  | .ok .brk, after => exact False.elim after
  | .ok .cont, after => exact False.elim after
theorem pass0At {σ : L2.St} : PassesAt (L2.CX X.prog X.w) X σ E0 := fun pins H s e s' I c => passL pins σ H s e s' I c
theorem pe_fn {E' : L2.St → XK} {t : TA} (Fn : FnG X.prog X.w X.K k.T X.mg X.base j f fd ps g) (hr : Room j X.A) (gd : X.A.guards = some []) (hg : Gl X x) (hm : X.mg x = some (.ref f)) (hk : PySem.W.keepIn X.K (.ref f) = true) (hb : Binds X.K fd ps []) (hx : ∀ σ, PassesAt (L2.CX X.prog X.w) X σ (E' σ))
    (ha : PA X (e :: es) t) (hdb : (x == ("__debug__" : Str)) = false := by decide) (he : starEach (e :: es) X.env = (false, eval e X.env) :: starEach es X.env := by rfl) (hpl : (backTo pos (starEach es X.env)).any (·.1) = false := by rfl) :
    PE X (.Call (.Name x p) (e :: es) [] pos) (fun σ H Q => t σ H fun vs H1 => spM X.prog X.w X.K k.T g vs H1 Q (E' σ)) := ⟨fun pins s σ H Q I hq =>
  wpAny_Call_Name_kw (ld_glob I hg hm (PySem.W.callWith_K (h₀ := X.base) I.ok.mod.kin hk (thn (ha.run pos pins s σ H _ I hq) fun us s1 ⟨vs, H1, I1, r, q⟩ => ⟨I1.kIn, by
    have hl : us.length = ps.length := by rw [← r.length]; exact spM.len Fn.len q
    have b := hb s1 us I1.kIn (by rw [List.append_nil]; exact hl)
    rw [List.append_nil] at b
    exact go_fn (args := ⟨us, []⟩) Fn hr gd (hx σ) I1 r b q⟩) he hpl) hdb)⟩
theorem e_call (Fn : FnG X.prog X.w X.K k.T X.mg X.base j f fd ps g) (hr : Room j X.A) (gd : X.A.guards = some []) (hg : Gl X x) (hm : X.mg x = some (.ref f)) (hk : PySem.W.keepIn X.K (.ref f) = true) (hb : Binds X.K fd ps [])
    (ha : PA X (e :: es) (tA k E mr)) (hK : k.K = X.K ∧ k.P = X.prog ∧ k.w = X.w := by exact ⟨rfl, rfl, rfl⟩) (hdb : (x == ("__debug__" : Str)) = false := by decide) (he : starEach (e :: es) X.env = (false, eval e X.env) :: starEach es X.env := by rfl) (hpl : (backTo pos (starEach es X.env)).any (·.1) = false := by rfl) :
    PE X (.Call (.Name x p) (e :: es) [] pos) (tM k E (mCall (fun ds => nxM (g ds)) mr)) :=
  PE.weak (pe_fn Fn hr gd hg hm hk hb (E' := fun _ => E0) (fun _ => pass0At) ha hdb he hpl) fun σ H Q ⟨F, Γ, st, ok, w⟩ => tA.then_ ok w fun vs ds F1 H1 st1 s ok1 r1 w1 => sp_use hK ok1 r1 w1
/-! keywords alone -/
theorem k_nil : PK X [] (tA k E mNil) := ⟨fun pos pins s σ H Q I ⟨F, Γ, st, ok, w⟩ => pk_nil.run pos pins s σ H Q I (w F H ok.refl _ .nil)⟩
theorem k_cons {nm : Option Str} {kpos : Pos} {kws : List Keyword} {me : EM} (ha : PE X e (tM k E me)) (hr : PK X kws (tA k E mr)) : PK X (⟨nm, e, kpos⟩ :: kws) (tA k E (mCons me mr)) :=
  ⟨fun pos pins s σ H Q I ⟨F, Γ, st, ok, w⟩ => (pk_cons ha hr).run pos pins s σ H Q I (tM.then_ ok w fun v d F1 H1 st1 s1 ok1 r1 w1 => tA.then_ ok1 w1 fun vs ds F2 H2 st2 s2 ok2 r2 w2 => w2 F2 H2 ok2.refl _ (.cons (r1.mono s2.ext) r2))⟩
def pick {α : Type} (π : List Nat) (ws : List α) : List α := if ws.length = π.length then π.filterMap fun i => ws[i]? else []
theorem vals_pick {vs : List V} {us : List Value} (r : Vals vs us) : ∀ π : List Nat, Vals (π.filterMap fun i => vs[i]?) (π.filterMap fun i => us[i]?)
  | [] => .nil
  | i :: π => by
    rw [List.filterMap_cons, List.filterMap_cons]
    cases e : vs[i]? with
    | none => rw [Vals.none_of r e]; exact vals_pick r π
    | some v =>
      obtain ⟨u, e1, e2⟩ := Vals.get r e
      rw [e1]
      exact .cons e2 (vals_pick r π)
theorem Vals.pick {vs : List V} {us : List Value} (r : Vals vs us) (π : List Nat) : Vals (pick π vs) (pick π us) := by
  unfold FL.pick
  rw [r.length]
  split
  · exact vals_pick r π
  · exact .nil
theorem reps_pick {F : Hp} {vs : List V} {ds : List D} (r : Reps k F vs ds) : ∀ π : List Nat, Reps k F (π.filterMap fun i => vs[i]?) (π.filterMap fun i => ds[i]?)
  | [] => .nil
  | i :: π => by
    rw [List.filterMap_cons, List.filterMap_cons]
    cases e : ds[i]? with
    | none =>
      have e' : vs[i]? = none := by rw [List.getElem?_eq_none_iff] at e ⊢; rw [r.length]; exact e
      rw [e']
      exact reps_pick r π
    | some d =>
      obtain ⟨v, e1, e2⟩ := r.getD e
      rw [e1]
      exact .cons e2 (reps_pick r π)
theorem Reps.pick {F : Hp} {vs : List V} {ds : List D} (r : Reps k F vs ds) (π : List Nat) : Reps k F (FL.pick π vs) (FL.pick π ds) := by
  unfold FL.pick
  rw [r.length]
  split
  · exact reps_pick r π
  · exact .nil
/-- keywords alone, in the order π of the parameters -/
theorem kbinds {K : PySem.W.Frag} {fd : FuncData} {ps ks : List Str} (π : List Nat) (hne : ps ≠ [])
    (h : ∀ ws : List Value, ws.length = π.length → bindArgs fd ⟨[], ks.zip ws⟩ = pure (ps.zip (FL.pick π ws))) : KBinds K fd ps ks (fun us ws => if us = [] then FL.pick π ws else []) (fun vs zs => if vs = [] then FL.pick π zs else []) where
  to := fun s us ws hin hl => by
    try dsimp only at hl ⊢
    split at hl
    · rename_i hu
      subst hu
      rw [if_pos rfl]
      unfold FL.pick at hl
      split at hl
      · rename_i hw
        exact .of_eq (h ws hw)
      · exact absurd (List.length_eq_zero_iff.mp hl.symm) hne
    · exact absurd (List.length_eq_zero_iff.mp hl.symm) hne
  rel := fun {vs us zs ws} r rz => by
    try dsimp only
    cases r with
    | nil => rw [if_pos rfl, if_pos rfl]; exact Vals.pick rz π
    | cons _ _ => rw [if_neg (by simp), if_neg (by simp)]; exact .nil
theorem e_callK {kws : List Keyword} {ks : List Str} {π : List Nat} (Fn : FnG X.prog X.w X.K k.T X.mg X.base j f fd ps g) (hr : Room j X.A) (gd : X.A.guards = some []) (hg : Gl X x) (hm : X.mg x = some (.ref f)) (hk : PySem.W.keepIn X.K (.ref f) = true)
    (hb : KBinds X.K fd ps ks (fun us ws => if us = [] then FL.pick π ws else []) (fun vs zs => if vs = [] then FL.pick π zs else [])) (hkw : PK X kws (tA k E mk)) (hK : k.K = X.K ∧ k.P = X.prog ∧ k.w = X.w := by exact ⟨rfl, rfl, rfl⟩) (hall : (backToKw pos (keywordEach kws X.env)).all (·.1.isSome) = true := by rfl) (hks : (backToKw pos (keywordEach kws X.env)).filterMap (·.1) = ks := by rfl)
    (hdb : (x == ("__debug__" : Str)) = false := by decide) (hpl : ((backTo pos (starEach [] X.env)).any (·.1) || (backToKw pos (keywordEach kws X.env)).any (·.1.isNone)) = false := by rfl) :
    PE X (.Call (.Name x p) [] kws pos) (tM k E (mCall (fun ds => nxM (g (FL.pick π ds))) mk)) := ⟨fun pins s σ H Q I ⟨F, Γ, st, ok, w⟩ =>
  wpAny_Call_Name_kw (ld_glob I hg hm (PySem.W.callWith_KW0 (h₀ := X.base) I.ok.mod.kin hk hall (thn (hkw.run pos pins s σ H _ I (tA.then_ ok w fun vs ds F1 H1 st1 s ok1 r1 w1 => sp_use (vs := FL.pick π vs) hK ok1 (r1.pick π) w1)) fun ws s2 ⟨zs, H2, I2, rz, q2⟩ =>
    ⟨I2.kIn, by
      rw [hks]
      have rp : Vals (FL.pick π zs) (FL.pick π ws) := Vals.pick rz π
      have hl : (FL.pick π ws).length = ps.length := by rw [← rp.length]; exact spM.len Fn.len q2
      exact go_fn (args := ⟨[], ks.zip ws⟩) Fn hr gd pass0At I2 rp (hb.to s2 [] ws I2.kIn (by rw [if_pos rfl]; exact hl)) q2⟩) hpl) hdb)⟩
end
end FL

/-! FL6: the law's own def, entered from the judge's frame -/
namespace FL
open PySem PySem.Spec PyProof.Rows L2

/-- what is tracked at the entry: the tables of code objects, empty, and the script where it is no known object -/
def entryH (a : Addr) (one : Option HO) (ts : List Addr) : Hp := fun b => if b ∈ ts then some (.tbl #[]) else if b = a then one else none
/-- what a law's def promises: from the script alone it answers True; no exception leaves -/
def LawSp (K : PySem.W.Frag) (T : List (Addr × Str)) (n : Nat) : Sp := fun vs H Q _ => ∃ (a : Addr) (ns : List Int), vs = [.ref a] ∧ SqL K H a (ns.map V.int) ∧ ns.length ≤ n ∧ LamX.Tabs T H ∧ ∀ v H', v = .bl true → Q v H'
/-- .. entered while no repr runs -/
def LawG (P : Program) (w : World) (K : PySem.W.Frag) (T : List (Addr × Str)) (mg : Str → Option Value) (base : Heap) (j : Nat) (f : Addr) (fd : FuncData) (x : Str) (n : Nat) : Prop :=
  ∀ (A : Around) (outs : List Env) (s : Shared) (H : Hp) (args : Args) (us : List Value) (vs : List V) (Q : VK) (E : XK), Room j A → A.guards = some [] → Env0 P w K mg base A outs s H → BindsTo s fd args ([x].zip us) →
    Vals vs us → LawSp K T n vs H Q E → codeAny (model P w) A (.call (.ref f) args) (CR (L2.CX P w) outs P w H s Q E) s
/-- defs whose code objects' tables are tracked: each with its code object, its table and the name that its lambda bears -/
structure Tb where
  of : Str
  code : Addr
  tab : Addr
  nm : Str
abbrev tabsOf (ts : List Tb) : List (Addr × Str) := ts.map fun t => (t.tab, t.nm)

section
variable {P : Program} {w : World} {K : PySem.W.Frag} {mg mb : Str → Option Value} {j n : Nat} {fa a : Addr} {fd : FuncData} {x : Str} {s : Shared} {vs : List Value} {ns : List Int} {ts : List Tb}
/-- what is asked of the heap at the entry -/
structure Gr (K : PySem.W.Frag) (mg : Str → Option Value) (h : Heap) (ts : List Tb) : Prop where
  known : K.In h
  glob : h.Ns mainGlobals mg
  blt : ∃ mb, h.Ns builtinsNs mb ∧ ∀ y : Str, y ≠ "__name__" → mb y = bootBuiltins y
  lim : h.NoLimit
  mod : ∃ (bm : Addr) (ob : Obj), mg "__builtins__" = some (.ref bm) ∧ bm ≠ builtinsNs ∧ h.get? bm = some ob ∧ ob.cls = .type "module" ∧ ob.dict = some builtinsNs ∧ ob.data = .plain
  tabs : ∀ t ∈ ts, PySem.W.CodeHd h t.code t.tab ∧ h.get? t.tab = some (PySem.W.tabObj #[]) ∧ K.lookup t.tab = none
theorem enter_one (one : Option HO) (G : Gr K mg s.heap ts) (ng : s.gens = #[]) (obj : s.heap.get? a = some { cls := .type "list", data := .seq vs.toArray }) (len : ns.length ≤ n) (room : Room j callerA)
    (F : ∀ base : Heap, K.In base → base.Ns mainGlobals mg → (∀ t ∈ ts, LamX.TabB base mg t.code t.tab) → LawG P w K (tabsOf ts) mg base j fa fd x n) (bind : ∀ (s : Shared) (u : Value), BindsTo s fd ⟨[u], []⟩ [(x, u)])
    (seq : SqL K (entryH a one (ts.map (·.tab))) a (ns.map V.int)) (hok : HOk P w (entryH a one (ts.map (·.tab))) s.heap) (what : one = none ∨ (K.lookup a = none ∧ ∃ o, one = some (.frz o (.lst (ns.map V.int))))) :
    codeAny (model P w) callerA (.call (.ref fa) ⟨[.ref a], []⟩) (fun r s' => r = .ok (.ret (.bool true)) ∧ OldK s.heap s'.heap ∧ s'.os = s.os ∧ AllBare s'.gens) s := by
  obtain ⟨H, eH⟩ : ∃ H, H = entryH a one (ts.map (·.tab)) := ⟨_, rfl⟩
  rw [← eH] at seq hok
  have atT : ∀ t ∈ ts, H t.tab = some (.tbl #[]) := fun t ht => by rw [eH]; exact if_pos (List.mem_map_of_mem ht)
  have notT : a ∉ ts.map (·.tab) := fun z => by
    obtain ⟨t, ht, e⟩ := List.mem_map.mp z
    have q := (G.tabs t ht).2.1
    rw [e, obj] at q
    cases (congrArg Obj.data (Option.some.inj q))
  have atA : H a = one := by rw [eH]; unfold entryH; rw [if_neg notT, if_pos rfl]
  have off : ∀ b, b ∉ ts.map (·.tab) → b ≠ a → H b = none := fun b h1 h2 => by rw [eH]; unfold entryH; rw [if_neg h1, if_neg h2]
  -- an object that is neither an empty table nor the script is not tracked
  have free : ∀ (b : Addr) (o : Obj), s.heap.get? b = some o → o.data ≠ .fields #[] → (∀ us m, o.data ≠ .seq us m) → H b = none := fun b o e n1 n2 => by
    refine off b (fun z => ?_) fun z => ?_
    · obtain ⟨t, ht, e2⟩ := List.mem_map.mp z
      have q := (G.tabs t ht).2.1
      rw [e2, e] at q
      cases q
      exact n1 rfl
    · rw [z, obj] at e
      cases e
      exact n2 _ _ rfl
  have up : ∀ {b : Addr} {o : Obj}, s.heap.get? b = some o → o.data ≠ .fields #[] → (∀ us m, o.data ≠ .seq us m) → (hidT s.heap H).get? b = some o := fun e n1 n2 => hidT_get e (free _ _ e n1 n2)
  have under : ∀ (b : Addr) (m : Str → Option Value), s.heap.Ns b m → (hidT s.heap H).Ns b m := by
    rintro b m ⟨o, es, ep, e, d, r⟩
    exact ⟨o, es, ep, up e (by rw [d]; intro z; cases z) (by rw [d]; intro _ _ z; cases z), d, r⟩
  have known : K.In (hidT s.heap H) := by
    intro b o e
    refine hidT_get (G.known b o e) ?_
    by_cases hb : b ∈ ts.map (·.tab)
    · obtain ⟨t, ht, e2⟩ := List.mem_map.mp hb
      rw [← e2, (G.tabs t ht).2.2] at e
      cases e
    · by_cases hb2 : b = a
      · subst hb2
        rw [atA]
        rcases what with z | ⟨z, _⟩
        · exact z
        · rw [z] at e; cases e
      · exact off b hb hb2
  obtain ⟨mb, bl, same⟩ := G.blt
  have ground : Mod K mg (hidT s.heap H) := by
    refine ⟨known, under _ _ G.glob, ⟨mb, under _ _ bl, same⟩, ?_⟩
    obtain ⟨mc, l1, l2⟩ := G.lim
    exact ⟨mc, under _ _ l1, l2⟩
  have env : Env0 P w K mg (hidT s.heap H) callerA [] s H := by
    refine ⟨rfl, ground, fun b o e => of_hidT e, ?_, trivial, ?_, hok, AllBare.of_eq ng⟩
    · rw [hidT_size]
      exact Nat.le_refl _
    · intro b hb
      simp [frs] at hb
  have tb : ∀ t ∈ ts, LamX.TabB (hidT s.heap H) mg t.code t.tab := fun t ht => by
    obtain ⟨C, g, _⟩ := G.tabs t ht
    refine ⟨?_, ?_, fun z => ?_⟩
    · obtain ⟨o, us, file, tf, flags, tg, inF, text, tt, e1, r1, r2, r3, r⟩ := C
      refine ⟨o, us, file, tf, flags, tg, inF, text, tt, up e1 (fun z => ?_) (fun _ _ z => ?_), r1, r2, r3, r⟩
      · rw [r2] at z
        cases z
        simp at r3
      · rw [r2] at z
        cases z
    · obtain ⟨bm, ob, b1, b2, b3, b4, b5, b6⟩ := G.mod
      refine ⟨bm, ob, b1, b2, fun q => ?_, fun q => ?_, up b3 (by rw [b6]; intro z; cases z) (by rw [b6]; intro _ _ z; cases z), b4, b5, b6⟩
      · obtain ⟨o, es, ep, e, hd, _⟩ := G.glob
        rw [q, e] at b3
        cases b3
        rw [hd] at b6
        cases b6
      · rw [q, g] at b3
        cases b3
        cases b6
    · obtain ⟨o, es, ep, e, hd, _⟩ := G.glob
      rw [z, g] at e
      cases e
      cases hd
  have law := F _ known (under _ _ G.glob) tb callerA [] s H ⟨[.ref a], []⟩ [.ref a] [.ref a] (fun v _ => v = .bl true) (fun _ _ _ => False) room rfl env (bind s (.ref a)) (.cons rfl .nil)
    ⟨a, ns, rfl, seq, len, fun p hp => by
      obtain ⟨t, ht, e⟩ := List.mem_map.mp hp
      subst e
      exact LamX.TabS.nil (atT t ht), fun v H' e => e⟩
  refine codeAny_mono law ?_
  intro r s' after
  match r, after with
  | .ok (.ret u), after =>
    obtain ⟨v, H', os, bare, un, hok', rv, ev⟩ := after
    have ev : v = .bl true := ev
    subst ev
    have eu : u = Value.bool true := rv
    subst eu
    have old : ∀ b o, b ∉ ts.map (·.tab) → s.heap.get? b = some o → s'.heap.get? b = some o := fun b o hb e => by
      by_cases hn : H b = none
      · exact un.keep b o e hn (by simp [frs]) (by simp)
      · have hba : b = a := Classical.byContradiction fun z => hn (off b hb z)
        subst hba
        rw [atA] at hn
        rcases what with z | ⟨_, ob, z⟩
        · exact absurd z hn
        · have q : H b = some (.frz ob (.lst (ns.map V.int))) := by rw [atA]; exact z
          have o1 := (hok _ _ q).1
          have o2 := (hok' _ _ (un.frzs _ _ _ q)).1
          rw [e] at o1
          rw [o2]
          exact o1.symm
    have grown : ∀ t ∈ ts, ∃ more : Array Value, s'.heap.get? t.tab = some (PySem.W.tabObj more) := fun t ht => by
      obtain ⟨more, z⟩ := un.tbls t.tab #[] (atT t ht)
      exact ⟨_, hok' t.tab _ z⟩
    refine ⟨rfl, ⟨fun b o e => ?_, fun b o e => ?_⟩, os, bare⟩
    · by_cases hb : b ∈ ts.map (·.tab)
      · obtain ⟨t, ht, et⟩ := List.mem_map.mp hb
        obtain ⟨more, hm⟩ := grown t ht
        obtain ⟨C, g, _⟩ := G.tabs t ht
        subst et
        rw [g] at e
        cases e
        exact .inr (.inl ⟨(C.tab g).isCodeTable, rfl, #[], more, rfl, by rw [Array.empty_append]; exact hm⟩)
      · exact .inl (old b o hb e)
    · by_cases hb : b ∈ ts.map (·.tab)
      · obtain ⟨t, ht, et⟩ := List.mem_map.mp hb
        obtain ⟨more, hm⟩ := grown t ht
        subst et
        exact ⟨_, hm⟩
      · exact ⟨o, old b o hb e⟩
  | .ok .next, after => exact False.elim after
  | .ok .brk, after => exact False.elim after
  | .ok .cont, after => exact False.elim after
  | .error e, after =>
    obtain ⟨_, _, _, _, _, _, _, _, _, _, _, _, z⟩ := after
    exact z.elim
theorem enter_law (G : Gr K mg s.heap ts) (ng : s.gens = #[]) (obj : s.heap.get? a = some { cls := .type "list", data := .seq vs.toArray }) (areInts : IntsAre vs ns) (len : ns.length ≤ n) (hn : n ≤ sizeLine) (room : Room j callerA)
    (F : ∀ base : Heap, K.In base → base.Ns mainGlobals mg → (∀ t ∈ ts, LamX.TabB base mg t.code t.tab) → LawG P w K (tabsOf ts) mg base j fa fd x n)
    (bind : ∀ (s : Shared) (u : Value), BindsTo s fd ⟨[u], []⟩ [(x, u)]) : codeAny (model P w) callerA (.call (.ref fa) ⟨[.ref a], []⟩) (fun r s' => r = .ok (.ret (.bool true)) ∧ OldK s.heap s'.heap ∧ s'.os = s.os ∧ AllBare s'.gens) s := by
  have rel : Vals (ns.map V.int) vs := L2.vals_ints areInts
  have big : ns.length ≤ sizeLine := Nat.le_trans len hn
  have notT : a ∉ ts.map (·.tab) := fun z => by
    obtain ⟨t, ht, e⟩ := List.mem_map.mp z
    have q := (G.tabs t ht).2.1
    rw [e, obj] at q
    cases (congrArg Obj.data (Option.some.inj q))
  have okT : ∀ one u b, b ∈ ts.map (·.tab) → entryH a one (ts.map (·.tab)) b = some u → ObjOk P w (entryH a one (ts.map (·.tab))) s.heap b u := fun one u b hb z => by
    unfold entryH at z
    rw [if_pos hb] at z
    cases z
    obtain ⟨t, ht, et⟩ := List.mem_map.mp hb
    subst et
    exact (G.tabs t ht).2.1
  cases look : K.lookup a with
  | some o =>
    have e := G.known a o look
    rw [obj] at e
    have eo := (Option.some.inj e)
    subst eo
    refine enter_one none G ng obj len room F bind (Or.inr ⟨_, vs.toArray, _, look, rfl, rfl, rfl, ?_, by simpa using rel⟩) (fun b u z => ?_) (Or.inl rfl)
    · rw [List.size_toArray, ← rel.length, List.length_map]
      exact big
    · by_cases hb : b ∈ ts.map (·.tab)
      · exact okT _ _ b hb z
      · unfold entryH at z
        rw [if_neg hb] at z
        split at z <;> cases z
  | none =>
    obtain ⟨one, eo⟩ : ∃ one, one = some (HO.frz { cls := .type "list", data := .seq vs.toArray } (.lst (ns.map V.int))) := ⟨_, rfl⟩
    have at_a : entryH a one (ts.map (·.tab)) a = one := by unfold entryH; rw [if_neg notT, if_pos rfl]
    refine enter_one one G ng obj len room F bind (Or.inl (Or.inr ⟨_, at_a.trans eo⟩)) (fun b u z => ?_) (Or.inr ⟨look, _, eo⟩)
    by_cases hb : b ∈ ts.map (·.tab)
    · exact okT _ _ b hb z
    · by_cases hb2 : b = a
      · subst hb2
        rw [at_a, eo] at z
        have := Option.some.inj z
        subst this
        exact ⟨obj, by rw [List.length_map]; exact big, vs, _, rel, obj⟩
      · unfold entryH at z
        rw [if_neg hb, if_neg hb2] at z
        cases z
end
theorem walk_law {l : PySem.W.OpenLaw} {n j : Nat} {q : Program} {loose : List Str} {XP : (Str → Option Value) → Heap → Prop} {YP : World → Heap → Prop} {d : DefRec} {K : Params → PySem.W.Frag} {x : Str} (ts : List Tb) (hn : l.most = some n) (hn2 : n ≤ sizeLine) (hdf : d.params.defaults = []) (room : Room j callerA)
    (hY : ∀ (w : World) (h : Heap), YP w h → (K w.params).In h)
    (hT : ∀ (w : World) (h : Heap), YP w h → ∀ t ∈ ts, PySem.W.CodeHd h t.code t.tab ∧ h.get? t.tab = some (PySem.W.tabObj #[]) ∧ (K w.params).lookup t.tab = none)
    (F : ∀ (w : World) (mg : Str → Option Value) (fa : Addr) (h : Heap), (K w.params).In h → h.Ns mainGlobals mg → mg d.name = some (.ref fa) → ∃ fd : FuncData, (∀ (s : Shared) (u : Value), BindsTo s fd ⟨[u], []⟩ [(x, u)]) ∧
      ∀ base : Heap, (K w.params).In base → base.Ns mainGlobals mg → (∀ t ∈ ts, LamX.TabB base mg t.code t.tab) → LawG l.prog w (K w.params) (tabsOf ts) mg base j fa fd x n) :
    PySem.W.WalkO q loose XP YP l.row.toRowW d [] (fun f vs => PySem.call f vs) :=
  Att.attach_call hn hdf fun w s₀ s₁ mg mb fa o pm cd doc a vs ns G Y ho hd hcd hmg hobj hints hlen hg => by
    have KX := hY w _ Y
    obtain ⟨fd, bind, all⟩ := F w mg fa _ KX G.T.g hmg
    exact enter_law ⟨KX, G.T.g, ⟨mb, G.T.b, G.T.builtins⟩, G.T.nolimit, G.T.bmain, hT w _ Y⟩ hg hobj hints hlen hn2 room all bind
end FL

/-! FL7: built-in functions over trees -/
namespace FL
open PySem PySem.Spec PyProof.Rows L2 RZ

section
variable {X : Cx} {k : Kx} {E : XE}
theorem vals_ref1 {a : Addr} {us : List Value} (r : Vals [V.ref a] us) : us = [Value.ref a] := L2.Vals.ref1 r
/-! ### lists, lent or not -/
def asL : D → Option (List D)
  | .lst xs => some xs
  | .bor xs => some xs
  | _ => none
/-- it stands so from here on -/
def Stands (k : Kx) (F : Hp) (a : Addr) (vs : List V) : Prop := ∀ F1 H1, Same F F1 → Same F1 H1 → Same k.B H1 → H1 a = some (.lst vs)
theorem asL_use {F : Hp} {v : V} {d : D} {xs : List D} (r : Rep k F v d) (e : asL d = some xs) : ∃ a vs, v = .ref a ∧ Reps k F vs xs ∧ Stands k F a vs := by
  cases r with
  | lst h rs => cases e; exact ⟨_, _, rfl, rs, fun F1 H1 s1 s2 _ => s2 _ _ (s1 _ _ h)⟩
  | bor h rs => cases e; exact ⟨_, _, rfl, rs, fun F1 H1 _ _ sb => sb _ _ h⟩
  | _ => cases e
theorem Stands.now {F H : Hp} {σ : L2.St} {Γ : Ev} {st : DS} {a : Addr} {vs : List V} (h : Stands k F a vs) (ok : Ok k F H σ Γ st) : H a = some (.lst vs) := h F H (Same.refl _) ok.sub ok.bsub
theorem Stands.at {F F1 H1 : Hp} {σ : L2.St} {Γ : Ev} {st : DS} {a : Addr} {vs : List V} (h : Stands k F a vs) (s : Same F F1) (ok : Ok k F1 H1 σ Γ st) : H1 a = some (.lst vs) := h F1 H1 s ok.sub ok.bsub
/-! ### len -/
def gLen : List D → M D := fun ds st => match ds with
  | [.lst xs] => .ok (.int xs.length) st
  | [.bor xs] => .ok (.int xs.length) st
  | [.tup xs] => .ok (.int xs.length) st
  | [.str z] => if decide (z.length ≤ sizeLine) then .ok (.int z.length) st else .stuck
  | _ => .stuck
theorem c_len (hk : k.K = X.K := by rfl) : CallS X k (.builtin "len") gLen :=
  ⟨_, call_len_seq.or call_len_str, fun {E σ F H Γ st vs ds Q} ok r w => by
    unfold gLen at w
    split at w
    · match vs, r with
      | [_], .cons (.lst h rs) .nil =>
        refine .inl ⟨_, _, rfl, .inl (SqL.of (ok.sub _ _ h)), ?_⟩
        rw [rs.length]
        exact w F H ok.refl _ (.int _)
    · match vs, r with
      | [_], .cons (.bor h rs) .nil =>
        refine .inl ⟨_, _, rfl, .inl (SqL.of (ok.bsub _ _ h)), ?_⟩
        rw [rs.length]
        exact w F H ok.refl _ (.int _)
    · match vs, r with
      | [_], .cons (.tup h rs _) .nil =>
        rw [hk] at h
        refine .inl ⟨_, _, rfl, .inr (sqt_mono ok.sub h), ?_⟩
        rw [rs.length]
        exact w F H ok.refl _ (.int _)
    · split at w
      · rename_i hz
        match vs, r with
        | [_], .cons (.str z) .nil => exact .inr ⟨_, rfl, of_decide_eq_true hz, w F H ok.refl _ (.int _)⟩
      · exact w.elim
    · exact w.elim⟩
/-! ### numbers -/
def gAbs : List D → M D := fun ds st => match ds with
  | [.int i] => .ok (.int (if i < 0 then -i else i)) st
  | _ => .stuck
theorem c_abs : CallS X k (.builtin "abs") gAbs :=
  ⟨_, call_abs, fun {E σ F H Γ st vs ds Q} ok r w => by
    unfold gAbs at w
    split at w
    · match vs, r with
      | [_], .cons (.int _) .nil => exact ⟨_, rfl, w F H ok.refl _ (.int _)⟩
    · exact w.elim⟩
def gIntOf : List D → M D := fun ds st => match ds with
  | [.int i] => .ok (.int i) st
  | _ => .stuck
theorem c_int : CallS X k (.type "int") gIntOf :=
  ⟨_, call_int1, fun {E σ F H Γ st vs ds Q} ok r w => by
    unfold gIntOf at w
    split at w
    · match vs, r with
      | [_], .cons (.int _) .nil => exact .inl ⟨_, rfl, w F H ok.refl _ (.int _)⟩
    · exact w.elim⟩
/-- ints of trees -/
def intsD : List D → Option (List Int)
  | [] => some []
  | .int i :: ds => (intsD ds).map (i :: ·)
  | _ :: _ => none
theorem intsD_map : ∀ ns : List Int, intsD (ns.map D.int) = some ns
  | [] => rfl
  | n :: ns => by rw [List.map_cons, intsD, intsD_map ns]; rfl
theorem Reps.ints {F : Hp} : ∀ {vs : List V} {ds : List D} {ns : List Int}, Reps k F vs ds → intsD ds = some ns → vs = ns.map V.int
  | _, _, _, .nil, e => by cases e; rfl
  | _, _, ns, .cons (d := d) (ds := ds) h t, e => by
    cases h with
    | int i =>
      cases e' : intsD ds with
      | none => rw [intsD, e'] at e; cases e
      | some ms =>
        rw [intsD, e'] at e
        cases e
        rw [Reps.ints t e']
        rfl
    | _ => cases e
def minI : Int → List Int → Int
  | a, [] => a
  | a, b :: r => minI (if b < a then b else a) r
theorem minI_spec : ∀ (a : Int) (r : List Int), minI a r ∈ a :: r ∧ ∀ y ∈ a :: r, minI a r ≤ y
  | a, [] => by simp [minI]
  | a, b :: r => by
    obtain ⟨h1, h2⟩ := minI_spec (if b < a then b else a) r
    unfold minI
    by_cases hb : b < a
    · rw [if_pos hb] at h1 h2 ⊢
      refine ⟨?_, fun y hy => ?_⟩
      · rcases List.mem_cons.mp h1 with e | e
        · rw [e]; simp
        · simp [e]
      · rcases List.mem_cons.mp hy with rfl | hy
        · exact Int.le_trans (h2 b (by simp)) (Int.le_of_lt hb)
        · rcases List.mem_cons.mp hy with rfl | hy
          · exact h2 _ (by simp)
          · exact h2 y (by simp [hy])
    · rw [if_neg hb] at h1 h2 ⊢
      refine ⟨?_, fun y hy => ?_⟩
      · rcases List.mem_cons.mp h1 with e | e
        · rw [e]; simp
        · simp [e]
      · rcases List.mem_cons.mp hy with rfl | hy
        · exact h2 _ (by simp)
        · rcases List.mem_cons.mp hy with rfl | hy
          · exact Int.le_trans (h2 a (by simp)) (Int.not_lt.mp hb)
          · exact h2 y (by simp [hy])
theorem minI_uniq {a : Int} {r : List Int} {m : Int} (h1 : m ∈ a :: r) (h2 : ∀ y ∈ a :: r, m ≤ y) : m = minI a r :=
  Int.le_antisymm (h2 _ (minI_spec a r).1) ((minI_spec a r).2 m h1)
def maxI : Int → List Int → Int
  | a, [] => a
  | a, b :: r => maxI (if a < b then b else a) r
theorem maxI_spec : ∀ (a : Int) (r : List Int), maxI a r ∈ a :: r ∧ ∀ y ∈ a :: r, y ≤ maxI a r
  | a, [] => by simp [maxI]
  | a, b :: r => by
    obtain ⟨h1, h2⟩ := maxI_spec (if a < b then b else a) r
    unfold maxI
    by_cases hb : a < b
    · rw [if_pos hb] at h1 h2 ⊢
      refine ⟨?_, fun y hy => ?_⟩
      · rcases List.mem_cons.mp h1 with e | e
        · rw [e]; simp
        · simp [e]
      · rcases List.mem_cons.mp hy with rfl | hy
        · exact Int.le_trans (Int.le_of_lt hb) (h2 b (by simp))
        · rcases List.mem_cons.mp hy with rfl | hy
          · exact h2 _ (by simp)
          · exact h2 y (by simp [hy])
    · rw [if_neg hb] at h1 h2 ⊢
      refine ⟨?_, fun y hy => ?_⟩
      · rcases List.mem_cons.mp h1 with e | e
        · rw [e]; simp
        · simp [e]
      · rcases List.mem_cons.mp hy with rfl | hy
        · exact h2 _ (by simp)
        · rcases List.mem_cons.mp hy with rfl | hy
          · exact Int.le_trans (Int.not_lt.mp hb) (h2 a (by simp))
          · exact h2 y (by simp [hy])
theorem maxI_uniq {a : Int} {r : List Int} {m : Int} (h1 : m ∈ a :: r) (h2 : ∀ y ∈ a :: r, y ≤ m) : m = maxI a r :=
  Int.le_antisymm ((maxI_spec a r).2 m h1) (h2 _ (maxI_spec a r).1)
/-- min(..), max(..) of a list of ints, or of two ints -/
def gMin : List D → M D := fun ds st => match ds with
  | [.lst xs] => (match intsD xs with | some (a :: r) => .ok (.int (minI a r)) st | _ => .stuck)
  | [.int i, .int j] => .ok (.int (if j < i then j else i)) st
  | _ => .stuck
theorem c_min (hc : X.calm = true := by rfl) : CallS X k (.builtin "min") gMin :=
  ⟨_, (cr_min hc).or (call_min2 hc), fun {E σ F H Γ st vs ds Q} ok r w => by
    unfold gMin at w
    split at w
    · split at w
      · rename_i a r' e
        match vs, r with
        | [_], .cons (.lst h rs) .nil =>
          have ev := rs.ints e
          subst ev
          refine .inl ⟨_, a :: r', rfl, SqL.of (ok.sub _ _ h), by simp, fun m h1 h2 => ?_⟩
          rw [minI_uniq h1 h2]
          exact w F H ok.refl _ (.int _)
      · exact w.elim
    · match vs, r with
      | [_, _], .cons (.int _) (.cons (.int _) .nil) => exact .inr ⟨_, _, rfl, w F H ok.refl _ (.int _)⟩
    · exact w.elim⟩
def gMax : List D → M D := fun ds st => match ds with
  | [.lst xs] => (match intsD xs with | some (a :: r) => .ok (.int (maxI a r)) st | _ => .stuck)
  | [.int i, .int j] => .ok (.int (if j > i then j else i)) st
  | _ => .stuck
theorem c_max (hc : X.calm = true := by rfl) : CallS X k (.builtin "max") gMax :=
  ⟨_, (cr_max hc).or (call_max2 hc), fun {E σ F H Γ st vs ds Q} ok r w => by
    unfold gMax at w
    split at w
    · split at w
      · rename_i a r' e
        match vs, r with
        | [_], .cons (.lst h rs) .nil =>
          have ev := rs.ints e
          subst ev
          refine .inl ⟨_, a :: r', rfl, SqL.of (ok.sub _ _ h), by simp, fun m h1 h2 => ?_⟩
          rw [maxI_uniq h1 h2]
          exact w F H ok.refl _ (.int _)
      · exact w.elim
    · match vs, r with
      | [_, _], .cons (.int _) (.cons (.int _) .nil) => exact .inr ⟨_, _, rfl, w F H ok.refl _ (.int _)⟩
    · exact w.elim⟩
/-- sum of a list, of a tuple of ints -/
theorem sum_tup {a : Addr} {its : List Value} {ns : List Int} {prog : Program} {w : World} {A : Around} {E : Value → Shared → Prop} {s : Shared} {Q : Value → Shared → Prop} (hh : A.handled = none) (ht : IsTup s.heap a its.toArray) (hi : IntsAre its ns)
    (h : ∀ h' tk t', (∀ b o, s.heap.get? b = some o → h'.get? b = some o) → Q (.int ns.sum t') { s with heap := h', toks := tk }) : wpAny (model prog w) A (call (.builtin "sum") [.ref a]) Q E s := by
  obtain ⟨xs, e⟩ := hi.allInts.items
  have hn : numsOf (intItems xs).toList = ns := by rw [← e]; exact hi.numsOf
  rw [nums_intItems] at hn
  rw [e] at ht
  have ht' : s.heap.IsTuple a (intItems xs) := ht
  have lt : a < s.heap.objs.size := ht.lt
  refine call_sum_walkG (wpAny_pyIter_tuple ht' ?_)
  refine ⟨_, [s.heap.objs.size, a], [s.heap.objs.size], (intItems xs).size, fun i v => (intItems xs)[i]? = some v, fun i h => h.IsTupleIter s.heap.objs.size a i ∧ h.IsTuple a (intItems xs), numAt xs, rfl,
    Walks.tuple (A := A.in1) hh _ a (Nat.ne_of_lt lt) (intItems xs), ⟨⟨_, Heap.get?_push_size _ rfl, rfl, rfl⟩, ht'.at fun o q => Heap.get?_push_of_some _ q⟩, fun b hb => ?_, (fun _ _ => intItems_at), fun h' tk t' hk => ?_⟩
  · show b < (s.heap.push _).objs.size
    rw [Heap.size_push]
    rcases List.mem_cons.mp hb with z | hb
    · rw [z]; exact Nat.lt_succ_self _
    · have z : b = a := by simpa using hb
      rw [z]; exact Nat.lt_succ_of_lt lt
  · have q := h h' tk t' fun b o eo => hk b o (fun z => by
      have z' : b = s.heap.objs.size := by simpa using z
      exact absurd (Heap.lt_size eo) (by rw [z']; exact Nat.lt_irrefl _)) (Heap.get?_push_of_some _ eo)
    rw [preSum_eq, List.take_of_length_le (by simp [intItems]), hn]
    exact q
theorem c_sum_tup (hc : X.calm = true) : CallR X (.builtin "sum") (fun vs H Q => ∃ (a : Addr) (ns : List Int), vs = [V.ref a] ∧ SqT X.K H a (ns.map V.int) ∧ Q (.int ns.sum) H) := by
  intro pins s σ H vs us Q I r ⟨a, ns, e, hs, q⟩
  subst e
  obtain ⟨its, rv, ht, _⟩ := I.tuple hs
  rw [vals_ref1 r]
  exact sum_tup (I.ok.hd hc) ht rv.ints fun h' tk t' hk => ⟨.int _, H, I.kept hk, ⟨_, rfl⟩, q⟩
def gSum : List D → M D := fun ds st => match ds with
  | [.lst xs] => (match intsD xs with | some ns => .ok (.int ns.sum) st | none => .stuck)
  | [.bor xs] => (match intsD xs with | some ns => .ok (.int ns.sum) st | none => .stuck)
  | [.tup xs] => (match intsD xs with | some ns => .ok (.int ns.sum) st | none => .stuck)
  | _ => .stuck
theorem c_sum (hc : X.calm = true := by rfl) (hk : k.K = X.K := by rfl) : CallS X k (.builtin "sum") gSum :=
  ⟨_, (cr_sum hc).or (c_sum_tup hc), fun {E σ F H Γ st vs ds Q} ok r w => by
    unfold gSum at w
    split at w
    · split at w
      · rename_i ns e
        match vs, r with
        | [_], .cons (.lst h rs) .nil =>
          have ev := rs.ints e
          subst ev
          exact .inl ⟨_, ns, rfl, SqL.of (ok.sub _ _ h), w F H ok.refl _ (.int _)⟩
      · exact w.elim
    · split at w
      · rename_i ns e
        match vs, r with
        | [_], .cons (.bor h rs) .nil =>
          have ev := rs.ints e
          subst ev
          exact .inl ⟨_, ns, rfl, SqL.of (ok.bsub _ _ h), w F H ok.refl _ (.int _)⟩
      · exact w.elim
    · split at w
      · rename_i ns e
        match vs, r with
        | [_], .cons (.tup h rs _) .nil =>
          rw [hk] at h
          have ev := rs.ints e
          subst ev
          exact .inr ⟨_, ns, rfl, sqt_mono ok.sub h, w F H ok.refl _ (.int _)⟩
      · exact w.elim
    · exact w.elim⟩
/-! ### truth values -/
def blsD : List D → Option (List Bool)
  | [] => some []
  | .bl i :: ds => (blsD ds).map (i :: ·)
  | _ :: _ => none
theorem blsD_map : ∀ ns : List Bool, blsD (ns.map D.bl) = some ns
  | [] => rfl
  | n :: ns => by rw [List.map_cons, blsD, blsD_map ns]; rfl
theorem Reps.bls {F : Hp} : ∀ {vs : List V} {ds : List D} {ns : List Bool}, Reps k F vs ds → blsD ds = some ns → vs = ns.map V.bl
  | _, _, _, .nil, e => by cases e; rfl
  | _, _, ns, .cons (d := d) (ds := ds) h t, e => by
    cases h with
    | bl i =>
      cases e' : blsD ds with
      | none => rw [blsD, e'] at e; cases e
      | some ms =>
        rw [blsD, e'] at e
        cases e
        rw [Reps.bls t e']
        rfl
    | _ => cases e
def gAll : List D → M D := fun ds st => match ds with
  | [.lst xs] => (match blsD xs with | some bs => .ok (.bl (bs.all id)) st | none => .stuck)
  | _ => .stuck
theorem c_all (hc : X.calm = true := by rfl) : CallS X k (.builtin "all") gAll :=
  ⟨_, cr_all hc, fun {E σ F H Γ st vs ds Q} ok r w => by
    unfold gAll at w
    split at w
    · split at w
      · rename_i bs e
        match vs, r with
        | [_], .cons (.lst h rs) .nil =>
          have ev := rs.bls e
          subst ev
          exact ⟨_, bs, rfl, SqL.of (ok.sub _ _ h), w F H ok.refl _ (.bl _)⟩
      · exact w.elim
    · exact w.elim⟩
def gAny : List D → M D := fun ds st => match ds with
  | [.lst xs] => (match blsD xs with | some bs => .ok (.bl (bs.any id)) st | none => .stuck)
  | _ => .stuck
theorem c_any (hc : X.calm = true := by rfl) : CallS X k (.builtin "any") gAny :=
  ⟨_, cr_any hc, fun {E σ F H Γ st vs ds Q} ok r w => by
    unfold gAny at w
    split at w
    · split at w
      · rename_i bs e
        match vs, r with
        | [_], .cons (.lst h rs) .nil =>
          have ev := rs.bls e
          subst ev
          exact ⟨_, bs, rfl, SqL.of (ok.sub _ _ h), w F H ok.refl _ (.bl _)⟩
      · exact w.elim
    · exact w.elim⟩
/-! ### tuple(..), list(..) -/
def gTuple : List D → M D := fun ds st => match ds with
  | [.lst xs] => .ok (.tup xs) st
  | [.bor xs] => .ok (.tup xs) st
  | [.tup xs] => .ok (.tup xs) st
  | _ => .stuck
theorem c_tuple (hk : k.K = X.K := by rfl) : CallS X k (.type "tuple") gTuple :=
  ⟨_, call_tuple_ofS, fun {E σ F H Γ st vs ds Q} ok r w => by
    unfold gTuple at w
    split at w
    · match vs, r with
      | [_], .cons (.lst h rs) .nil =>
        exact ⟨_, _, rfl, .inl ⟨SqL.of (ok.sub _ _ h), fun p ob np nd => w _ _ (ok.new np) _ (.tup (sqt_frz upd_same) (rs.mono (ok.new np).ext) (.of upd_same nd))⟩⟩
    · match vs, r with
      | [_], .cons (.bor h rs) .nil =>
        exact ⟨_, _, rfl, .inl ⟨SqL.of (ok.bsub _ _ h), fun p ob np nd => w _ _ (ok.new np) _ (.tup (sqt_frz upd_same) (rs.mono (ok.new np).ext) (.of upd_same nd))⟩⟩
    · match vs, r with
      | [_], .cons (.tup h rs q) .nil =>
        have h' := h
        rw [hk] at h
        exact ⟨_, _, rfl, .inr ⟨sqt_mono ok.sub h, w _ _ ok.refl _ (.tup h' rs q)⟩⟩
    · exact w.elim⟩
/-- a list that is new, its reading in another's words -/
def CallO (X : Cx) (k : Kx) (f : Value) (g : List D → M (List D)) : Prop :=
  ∃ r : List V → Hp → VK → Prop, CallR X f r ∧ ∀ {E : XE} {σ : L2.St} {F H : Hp} {Γ : Ev} {st : DS} {vs : List V} {ds : List D} {Q : VK}, Ok k F H σ Γ st → Reps k F vs ds →
    Wp k E σ F H (g ds st) (fun xs F' H' _ => ∀ a vs, H' a = some (.lst vs) → F' a = none → H a = none → Reps k F' vs xs → Q (.ref a) H') → r vs H Q
def mCallO (g : List D → M (List D)) (mr : Ev → M (List D)) : Ev → M (List D) := fun Γ => do
  let ds ← mr Γ
  g ds
theorem back_new {F H F1 H1 : Hp} {st1 : DS} {Q : VK} {F' H' : Hp} {xs : List D} (s1 : Step k F H F1 H1 st1) (w : ∀ a vs, H' a = some (.lst vs) → F' a = none → H a = none → Reps k F' vs xs → Q (.ref a) H') : ∀ a vs, H' a = some (.lst vs) → F' a = none → H1 a = none → Reps k F' vs xs → Q (.ref a) H' :=
  fun a vs h1 h2 h3 h4 => w a vs h1 h2 (s1.back h3) h4
variable {e : Expr} {es : List Expr} {mr : Ev → M (List D)} {pos p : Pos} {x : Str}
theorem o_ty {T : String} {g : List D → M (List D)} (hc : CallO X k (.type T) g) (hg : Gl X x) (hm : X.mg x = none) (hv : bootBuiltins x = some (.type T)) (ha : PA X (e :: es) (tA k E mr)) (hn : x ≠ "__name__" := by decide) (hdb : (x == ("__debug__" : Str)) = false := by decide)
    (he : starEach (e :: es) X.env = (false, eval e X.env) :: starEach es X.env := by rfl) (hpl : (backTo pos (starEach es X.env)).any (·.1) = false := by rfl) : PE X (.Call (.Name x p) (e :: es) [] pos) (tO k E (mCallO g mr)) := by
  obtain ⟨r, h1, h2⟩ := hc
  exact PE.weak (pe_callTy h1 hg hm hv ha hn hdb he hpl) fun σ H Q ⟨F, Γ, st, ok, w⟩ => tA.then_ ok w fun vs ds F1 H1 st1 s1 ok1 r1 w1 => h2 ok1 r1 (w1.mono fun xs F' H' st' s' q => back_new s1 q)
theorem o_blt {T : String} {g : List D → M (List D)} (hc : CallO X k (.builtin T) g) (hg : Gl X x) (hm : X.mg x = none) (hv : bootBuiltins x = some (.builtin T)) (ha : PA X (e :: es) (tA k E mr)) (hn : x ≠ "__name__" := by decide) (hdb : (x == ("__debug__" : Str)) = false := by decide)
    (he : starEach (e :: es) X.env = (false, eval e X.env) :: starEach es X.env := by rfl) (hpl : (backTo pos (starEach es X.env)).any (·.1) = false := by rfl) : PE X (.Call (.Name x p) (e :: es) [] pos) (tO k E (mCallO g mr)) := by
  obtain ⟨r, h1, h2⟩ := hc
  exact PE.weak (pe_callB h1 hg hm hv ha hn hdb he hpl) fun σ H Q ⟨F, Γ, st, ok, w⟩ => tA.then_ ok w fun vs ds F1 H1 st1 s1 ok1 r1 w1 => h2 ok1 r1 (w1.mono fun xs F' H' st' s' q => back_new s1 q)
def gListOf : List D → M (List D) := fun ds st => match ds with
  | [.lst xs] => .ok xs st
  | [.bor xs] => .ok xs st
  | [.tup xs] => .ok xs st
  | _ => .stuck
theorem c_list (hk : k.K = X.K := by rfl) : CallO X k (.type "list") gListOf :=
  ⟨_, call_list_of, fun {E σ F H Γ st vs ds Q} ok r w => by
    unfold gListOf at w
    split at w
    · match vs, r with
      | [_], .cons (.lst h rs) .nil =>
        exact ⟨_, _, rfl, .inl (SqL.of (ok.sub _ _ h)), fun p np => w _ _ (ok.new' np) p _ upd_same (ok.fnone np) np rs⟩
    · match vs, r with
      | [_], .cons (.bor h rs) .nil =>
        exact ⟨_, _, rfl, .inl (SqL.of (ok.bsub _ _ h)), fun p np => w _ _ (ok.new' np) p _ upd_same (ok.fnone np) np rs⟩
    · match vs, r with
      | [_], .cons (.tup h rs _) .nil =>
        rw [hk] at h
        exact ⟨_, _, rfl, .inr (sqt_mono ok.sub h), fun p np => w _ _ (ok.new' np) p _ upd_same (ok.fnone np) np rs⟩
    · exact w.elim⟩
/-! ### repr of data -/
def reprOk (d : D) : Bool := d.plain && d.py.showable && !d.py.hasDict && decide (d.py.depth ≤ 60) && decide (d.py.shown.length ≤ sizeLine)
def gRepr : List D → M D := fun ds st => match ds with
  | [d] => if reprOk d then .ok (.str d.py.shown) st else .stuck
  | _ => .stuck
theorem call_repr_D (gd : X.A.guards = some []) (hu : X.A.units + 64 < cLine) : CallR X (.builtin "repr") (fun vs H Q => ∃ v d, vs = [v] ∧ Dp X.K H v d ∧ d.showable = true ∧ d.hasDict = false ∧ d.depth ≤ 60 ∧ d.shown.length ≤ sizeLine ∧ Q (.str d.shown) H) := by
  intro pins s σ H vs us Q I r ⟨v, d, e, dp, h1, h2, h3, h4, q⟩
  subst e
  obtain ⟨u, rfl, ru⟩ := L2.vals1 r
  obtain ⟨as, rd⟩ := Dp.reads I d v u dp ru
  cases rd with
  | none => exact PySem.P.repr_of_none ⟨.str _, H, I.tok _, ⟨_, rfl⟩, by simpa [PyData.shown] using q⟩
  | bool b => exact PySem.P.repr_of_bool ⟨.str _, H, I.tok _, ⟨_, rfl⟩, by simpa [PyData.shown] using q⟩
  | int i t =>
    have hs : i.natAbs.log2 < 1920 := by simpa [PyData.showable] using h1
    exact PySem.P.repr_of_int hs ⟨.str _, H, I.tok _, ⟨_, rfl⟩, by simpa [PyData.shown] using q⟩
  | str x t => exact PySem.P.repr_of_str ⟨.str _, H, I.tok _, ⟨_, rfl⟩, by simpa [PyData.shown] using q⟩ (by simpa [PyData.shown] using h4)
  | list ho hc hd hr => exact repr_of_reads' (Reads.list ho hc hd hr) h1 (PyData.noDict_hsm h2) gd (by omega) (fun _ _ z => z) (fun h' u tk hk => ⟨.str _, H, I.kept hk, ⟨_, rfl⟩, q⟩) h4
  | tuple ho hc hd hr => exact repr_of_reads' (Reads.tuple ho hc hd hr) h1 (PyData.noDict_hsm h2) gd (by omega) (fun _ _ z => z) (fun h' u tk hk => ⟨.str _, H, I.kept hk, ⟨_, rfl⟩, q⟩) h4
  | dict => simp [PyData.hasDict] at h2
theorem c_repr (gd : X.A.guards = some []) (hu : X.A.units + 64 < cLine) (hk : k.K = X.K := by rfl) : CallS X k (.builtin "repr") gRepr :=
  ⟨_, call_repr_D gd hu, fun {E σ F H Γ st vs ds Q} ok r w => by
    unfold gRepr at w
    split at w
    · split at w
      · rename_i d hc
        unfold reprOk at hc
        simp only [Bool.and_eq_true, Bool.not_eq_true', decide_eq_true_eq] at hc
        match vs, r with
        | [v], .cons rv .nil => exact ⟨v, _, rfl, hk ▸ rv.dp ok.sub ok.bsub hc.1.1.1.1, hc.1.1.1.2, hc.1.1.2, hc.1.2, hc.2, w F H ok.refl _ (.str _)⟩
      · exact w.elim
    · exact w.elim⟩
/-! ### isinstance(e, T), T a built-in type -/
def tyN : D → String
  | .non => "NoneType"
  | .bl _ => "bool"
  | .int _ => "int"
  | .str _ => "str"
  | .tup _ => "tuple"
  | .lst _ => "list"
  | .bor _ => "list"
  | .kl _ => ""
  | .deal => "list"
  | .ins _ _ _ => ""
  | .ltp _ => "tuple"
  | .set _ => ""
  | .dic _ _ => ""
  | .dct _ _ => ""
def oddD : D → Bool
  | .ins _ _ _ => true
  | .set _ => true
  | .dic _ _ => true
  | .dct _ _ => true
  | .kl _ => true
  | _ => false
def gIsi (T : String) : D → M D := fun d st => if oddD d = true then .stuck else (match kitB (tyN d) T with | some b => .ok (.bl b) st | none => .stuck)
theorem Rep.tyX {F H : Hp} {v : V} {d : D} (s : Same F H) (sb : Same k.B H) (dl : k.on = true → ∃ xs, H k.dl = some (.lst xs)) (r : Rep k F v d) (no : oddD d = false) : TyX k.K H v (.type (tyN d)) := by
  cases r with
  | non => exact .base .non
  | bl b => exact .base (.bl b)
  | int i => exact .base (.int i)
  | str x => exact .base (.str x)
  | tup h r _ =>
    rcases h with (h | ⟨o, h⟩) | ⟨o, its, n, hk, hc, hd, hs, rv⟩
    · exact .base (.tup (s _ _ h))
    · exact .fTuple (s _ _ h)
    · exact .kTuple hk hc
  | ltp h r =>
    rcases h with (h | ⟨o, h⟩) | ⟨o, its, n, hk, hc, hd, hs, rv⟩
    · exact .base (.tup (s _ _ h))
    · exact .fTuple (s _ _ h)
    · exact .kTuple hk hc
  | lst h r => exact .base (.lst (s _ _ h))
  | bor h r => exact .base (.lst (sb _ _ h))
  | kl h r => cases no
  | deal on => exact let ⟨xs, h⟩ := dl on; .base (.lst h)
  | ins _ _ _ _ => cases no
  | setK _ _ => cases no
  | setT _ _ _ => cases no
  | dic _ _ _ => cases no
  | dct _ _ _ => cases no
variable {me : EM}
theorem e_isi {T : String} {y : Str} {p2 : Pos} (hg : Gl X "isinstance") (hm : X.mg "isinstance" = none) (he : PE X e (tM k E me)) (hgT : Gl X y) (hmT : X.mg y = none) (hv : bootBuiltins y = some (.type T)) (hb : bootBuiltins "isinstance" = some (.builtin "isinstance")) (hk : k.K = X.K := by rfl) (hyn : y ≠ "__name__" := by decide) (hyd : (y == ("__debug__" : Str)) = false := by decide)
    (hs : starEach [.Name y p2] X.env = (false, eval (.Name y p2) X.env) :: starEach [] X.env := by rfl) (hs2 : starEach [e, .Name y p2] X.env = (false, eval e X.env) :: starEach [.Name y p2] X.env := by rfl) (hpl : (backTo pos (starEach [.Name y p2] X.env)).any (·.1) = false := by rfl) :
    PE X (.Call (.Name "isinstance" p) [e, .Name y p2] [] pos) (tM k E (mUn (gIsi T) me)) :=
  PE.weak (pe_callB call_isi hg hm hb (pa_cons he (pa_cons (pe_bltn (v := .ty T) hgT hmT hv rfl hyn hyd) pa_nil hs) hs2) (by decide) (by decide) hs2 hpl) fun σ H Q ⟨F, Γ, st, ok, w⟩ => tM.then_ ok w fun v d F1 H1 st1 s1 ok1 r1 w1 => by
    unfold gIsi at w1
    split at w1
    · exact w1.elim
    · rename_i hd
      split at w1
      · rename_i b eb
        refine ⟨v, .ty T, _, _, b, rfl, .ty T, ?_, kit_ty eb, w1 F1 H1 ok1.refl _ (.bl b)⟩
        rw [← hk]
        exact r1.tyX ok1.sub ok1.bsub (fun on => ⟨_, (ok1.at_ on).dl⟩) (by simpa using hd)
      · exact w1.elim

/-! ### zip, enumerate as sources -/
theorem new_pair {F H : Hp} {σ : L2.St} {Γ : Ev} {st : DS} {T : Addr} {x y : V} {d d2 : D} (ok : Ok k F H σ Γ st) (nT : H T = none) (r1 : Rep k F x d) (r2 : Rep k F y d2) :
    ∃ F2, Step k F H F2 (upd H T (.tup [x, y])) st ∧ Rep k F2 (.ref T) (.ltp [d, d2]) :=
  ⟨_, ok.new nT, .ltp (SqT.of upd_same) (Reps.mono (ok.new nT).ext (.cons r1 (.cons r2 .nil)))⟩
def zipD (xs ys : List D) : List D := List.zipWith (fun a b => .ltp [a, b]) xs ys
theorem it_zip {K : PySem.W.Frag} {F : Hp} {a b : Addr} {vs ws : List V} {xs ys : List D} (h : Stands k F a vs) (h' : Stands k F b ws) (r : Reps k F vs xs) (r' : Reps k F ws ys) : ItOk k (Itz K a b) F (zipD xs ys) where
  go := fun i F1 H1 s1 s2 sb hi => by
    have hi' : i < xs.length ∧ i < ys.length := by
      have : i < min xs.length ys.length := by simpa [zipD] using hi
      omega
    have h1 : i < vs.length := by rw [r.length]; exact hi'.1
    have h2 : i < ws.length := by rw [r'.length]; exact hi'.2
    exact ⟨vs, ws, vs[i], ws[i], SqL.of (h _ _ s1 s2 sb), SqL.of (h' _ _ s1 s2 sb), List.getElem?_eq_getElem h1, List.getElem?_eq_getElem h2⟩
  stop := fun i F1 H1 s1 s2 sb hi => by
    have hi' : xs.length ≤ i ∨ ys.length ≤ i := by
      have : min xs.length ys.length ≤ i := by simpa [zipD] using hi
      omega
    exact ⟨vs, ws, SqL.of (h _ _ s1 s2 sb), SqL.of (h' _ _ s1 s2 sb), by rw [r.length, r'.length]; exact hi'⟩
  yld := fun i x F1 H1 H2 σ Γ st s1 ok hi y => by
    obtain ⟨T, u, v, e1, nT, e2, f1, f2⟩ := y
    subst e1 e2
    obtain ⟨d1, g1, q1⟩ := r.get (f1 vs (SqL.of (h.at s1 ok)))
    obtain ⟨d2, g2, q2⟩ := r'.get (f2 ws (SqL.of (h'.at s1 ok)))
    obtain ⟨F2, s2, q⟩ := new_pair ok nT (q1.mono s1) (q2.mono s1)
    exact ⟨_, F2, by simp [zipD, List.getElem?_zipWith, g1, g2], s2, q⟩
theorem it_zipT {K : PySem.W.Frag} {F : Hp} {a b : Addr} {vs ws : List V} {xs ys : List D} (h : SqT K F a vs) (h' : SqT K F b ws) (r : Reps k F vs xs) (r' : Reps k F ws ys) : ItOk k (ItzT K a b) F (zipD xs ys) where
  go := fun i F1 H1 s1 s2 _ hi => by
    have hi' : i < xs.length ∧ i < ys.length := by
      have : i < min xs.length ys.length := by simpa [zipD] using hi
      omega
    have h1 : i < vs.length := by rw [r.length]; exact hi'.1
    have h2 : i < ws.length := by rw [r'.length]; exact hi'.2
    exact ⟨vs, ws, vs[i], ws[i], sqt_mono (s1.trans s2) h, sqt_mono (s1.trans s2) h', List.getElem?_eq_getElem h1, List.getElem?_eq_getElem h2⟩
  stop := fun i F1 H1 s1 s2 _ hi => by
    have hi' : xs.length ≤ i ∨ ys.length ≤ i := by
      have : min xs.length ys.length ≤ i := by simpa [zipD] using hi
      omega
    exact ⟨vs, ws, sqt_mono (s1.trans s2) h, sqt_mono (s1.trans s2) h', by rw [r.length, r'.length]; exact hi'⟩
  yld := fun i x F1 H1 H2 σ Γ st s1 ok hi y => by
    obtain ⟨T, u, v, e1, nT, e2, f1, f2⟩ := y
    subst e1 e2
    obtain ⟨d1, g1, q1⟩ := r.get (f1 vs (sqt_mono (s1.trans ok.sub) h))
    obtain ⟨d2, g2, q2⟩ := r'.get (f2 ws (sqt_mono (s1.trans ok.sub) h'))
    obtain ⟨F2, s2, q⟩ := new_pair ok nT (q1.mono s1) (q2.mono s1)
    exact ⟨_, F2, by simp [zipD, List.getElem?_zipWith, g1, g2], s2, q⟩
def gZip : List D → M (List D) := fun ds st => match ds with
  | [.tup xs, .tup ys] => .ok (zipD xs ys) st
  | [d, e] => (match asL d, asL e with | some xs, some ys => .ok (zipD xs ys) st | _, _ => .stuck)
  | _ => .stuck
theorem i_zip {e2 : Expr} {elts : List Expr} {kk : Nat} {tpos : Pos} (hg : Gl X "zip") (hm : X.mg "zip" = none) (ha : PA X [e, e2] (tA k E mr)) (hk : k.K = X.K := by rfl)
    (hs : starEach [e, e2] X.env = (false, eval e X.env) :: starEach [e2] X.env := by rfl) (hpl : (backTo pos (starEach [e2] X.env)).any (·.1) = false := by rfl) :
    PI X (.Tuple elts kk tpos) (.Call (.Name "zip" p) [e, e2] [] pos) (tI k E (mSrc gZip mr)) :=
  PI.weak (pi_zipA hg hm ha hs hpl) fun σ H R ⟨F, Γ, st, ok, w⟩ => tA.then_ ok w fun vs ds F1 H1 st1 s1 ok1 r w1 => by
    unfold gZip at w1
    split at w1
    · match vs, r with
      | [_, _], .cons (.tup h r1 _) (.cons (.tup h' r2 _) .nil) =>
        rw [hk] at h h'
        exact ⟨_, _, _, _, rfl, .inr ⟨sqt_mono ok1.sub h, sqt_mono ok1.sub h', w1 F1 H1 ok1.refl _ (it_zipT h h' r1 r2)⟩⟩
    · split at w1
      · rename_i xs ys e1 e2
        match vs, r with
        | [_, _], .cons q1 (.cons q2 .nil) =>
          obtain ⟨a, vs1, rfl, r1, h1⟩ := asL_use q1 e1
          obtain ⟨b, vs2, rfl, r2, h2⟩ := asL_use q2 e2
          exact ⟨_, _, _, _, rfl, .inl ⟨SqL.of (h1.now ok1), SqL.of (h2.now ok1), w1 F1 H1 ok1.refl _ (it_zip h1 h2 r1 r2)⟩⟩
      · exact w1.elim
    · exact w1.elim
def enumD (xs : List D) : List D := (List.range xs.length).zipWith (fun i x => .ltp [.int (i : Nat), x]) xs
theorem it_enum {K : PySem.W.Frag} {F : Hp} {a : Addr} {vs : List V} {xs : List D} (h : Stands k F a vs) (r : Reps k F vs xs) : ItOk k (Ite K a) F (enumD xs) where
  go := fun i F1 H1 s1 s2 sb hi => by
    have hi' : i < xs.length := by simpa [enumD] using hi
    have h1 : i < vs.length := by rw [r.length]; exact hi'
    exact ⟨vs, vs[i], SqL.of (h _ _ s1 s2 sb), List.getElem?_eq_getElem h1⟩
  stop := fun i F1 H1 s1 s2 sb hi => ⟨vs, SqL.of (h _ _ s1 s2 sb), by rw [r.length]; simpa [enumD] using hi⟩
  yld := fun i x F1 H1 H2 σ Γ st s1 ok hi y => by
    obtain ⟨T, u, e1, nT, e2, f1⟩ := y
    subst e1 e2
    have hi' : i < xs.length := by simpa [enumD] using hi
    obtain ⟨d1, g1, q1⟩ := r.get (f1 vs (SqL.of (h.at s1 ok)))
    obtain ⟨F2, s2, q⟩ := new_pair ok nT (.int (i : Nat)) (q1.mono s1)
    have g2 : xs[i] = d1 := by rw [List.getElem?_eq_getElem hi'] at g1; exact Option.some.inj g1
    exact ⟨_, F2, by simp [enumD, List.getElem?_zipWith, g1, hi', List.getElem?_range, g2], s2, q⟩
def gEnum : List D → M (List D) := fun ds st => match ds with
  | [d] => (match asL d with | some xs => .ok (enumD xs) st | none => .stuck)
  | _ => .stuck
theorem i_enum {elts : List Expr} {kk : Nat} {tpos : Pos} (hg : Gl X "enumerate") (hm : X.mg "enumerate" = none) (ha : PA X [e] (tA k E mr)) (hs : starEach [e] X.env = [(false, eval e X.env)] := by rfl) :
    PI X (.Tuple elts kk tpos) (.Call (.Name "enumerate" p) [e] [] pos) (tI k E (mSrc gEnum mr)) :=
  PI.weak (pi_enum hg hm ha hs) fun σ H R ⟨F, Γ, st, ok, w⟩ => tA.then_ ok w fun vs ds F1 H1 st1 s ok1 r w1 => by
    unfold gEnum at w1
    split at w1
    · split at w1
      · rename_i xs e1
        match vs, r with
        | [_], .cons q1 .nil =>
          obtain ⟨a, vs1, rfl, r1, h1⟩ := asL_use q1 e1
          exact ⟨_, _, rfl, SqL.of (h1.now ok1), w1 F1 H1 ok1.refl _ (it_enum h1 r1)⟩
      · exact w1.elim
    · exact w1.elim
end
end FL

/-! FL8: lists that a frame alone has: made, lent, written -/
namespace FL
open PySem PySem.Spec PyProof.Rows L2

def gOwn (i : Nat) (Γ : Ev) : Option (List D) := match Γ[i]? with
  | some (some (.own (.ls xs))) => some xs
  | _ => none
theorem gOwn_use {i : Nat} {Γ : Ev} {xs : List D} (h : gOwn i Γ = some xs) : Γ[i]? = some (some (.own xs)) := by
  unfold gOwn at h
  split at h
  · rename_i ys e
    cases h
    exact e
  · cases h
section
variable {k : Kx} {G H0 P F H F1 H1 : Hp} {σ : L2.St} {Γ : Ev} {st st1 : DS}
theorem OkS.fresh0 (o : OkS k G H0 P F H σ Γ st) {a : Addr} (h : H a = none) : H0 a = none := o.toStep.back h
theorem Ok.bnone (o : Ok k F H σ Γ st) {a : Addr} (h : H a = none) : k.B a = none := o.bsub.free h
/-- slot i gets a list that is new -/
theorem OkS.setO (o : OkS k G H0 P F H σ Γ st) (s : Step k F H F1 H1 st1) {a : Addr} {ob : HO} {xs : OD} (i : Nat) (h0 : H a = none) (h1 : H1 a = some ob) (f1 : F1 a = none) (r : RepO k F1 ob xs) :
    OkS k G H0 P F1 H1 (σ.set i (some (.ref a))) (Γ.set i (some (.own xs))) st1 := by
  have o1 := o.step s
  have nd : ¬ k.hot a := o.ok.cold h0
  have old : ∀ (j : Nat) ys b, Γ[j]? = some (some (.own ys)) → σ[j]? = some (some (.ref b)) → b ≠ a := fun j ys b e1 e2 z => by
    obtain ⟨v, e3, c, ws, e4, e5, _⟩ := o.ok.slot j _ e1
    rw [e2] at e3
    cases e3
    cases e4
    rw [z, h0] at e5
    cases e5
  have at_i : ∀ (j : Nat) x, (Γ.set i (some (.own xs)))[j]? = some (some x) → (j = i ∧ x = .own xs ∧ (σ.set i (some (.ref a)))[j]? = some (some (.ref a))) ∨ (j ≠ i ∧ Γ[j]? = some (some x) ∧ (σ.set i (some (.ref a)))[j]? = σ[j]?) := by
    intro j x e
    by_cases hj : i = j
    · subst hj
      by_cases hl : i < Γ.length
      · rw [List.getElem?_set_self hl] at e
        cases e
        exact .inl ⟨rfl, rfl, List.getElem?_set_self (o.ok.len ▸ hl)⟩
      · rw [List.getElem?_eq_none (by simp; omega)] at e
        cases e
    · rw [List.getElem?_set_ne hj] at e
      exact .inr ⟨fun z => hj z.symm, e, List.getElem?_set_ne hj⟩
  refine ⟨⟨o1.ok.sub, o1.ok.at_, o1.ok.hid, o1.ok.bsub, o1.ok.blst, o1.ok.tabs, o1.ok.ftbl, by simp [o1.ok.len], fun j x e => ?_, fun j l ys zs b e1 e2 e3 e4 => ?_⟩, o1.per, o1.ext0, o1.stay0, o1.kept0, o1.nof0, fun j ys b e1 e2 => ?_, o1.base⟩
  · rcases at_i j x e with ⟨_, rfl, e2⟩ | ⟨_, e2, e3⟩
    · exact ⟨_, e2, a, ob, rfl, h1, f1, nd, o.ok.bnone h0, r⟩
    · rw [e3]
      exact o1.ok.slot j x e2
  · rcases at_i j _ e1 with ⟨rfl, _, f2⟩ | ⟨n1, f1', f2⟩
    · rcases at_i l _ e2 with ⟨rfl, _, _⟩ | ⟨n2, g1, g2⟩
      · rfl
      · rw [f2] at e3
        cases e3
        rw [g2] at e4
        exact absurd rfl (old l _ _ g1 e4)
    · rcases at_i l _ e2 with ⟨rfl, _, g2⟩ | ⟨n2, g1, g2⟩
      · rw [g2] at e4
        cases e4
        rw [f2] at e3
        exact absurd rfl (old j _ _ f1' e3)
      · rw [f2] at e3
        rw [g2] at e4
        exact o1.ok.apart j l ys zs b f1' g1 e3 e4
  · rcases at_i j _ e1 with ⟨rfl, _, f2⟩ | ⟨n1, f1', f2⟩
    · rw [f2] at e2
      cases e2
      exact o.fresh0 h0
    · rw [f2] at e2
      exact o1.own0 j ys b f1' e2
/-- the list of slot i is written -/
theorem OkS.mut (o : OkS k G H0 P F H σ Γ st) {i : Nat} {a : Addr} {xs ys : OD} {ob : HO} (e1 : Γ[i]? = some (some (.own xs))) (e2 : σ[i]? = some (some (.ref a))) (r : RepO k F ob ys) :
    OkS k G H0 P F (L2.upd H a ob) σ (Γ.set i (some (.own ys))) st := by
  obtain ⟨v, e3, b, vs, e4, ha, fa, nd, nb, r0⟩ := o.ok.slot i _ e1
  rw [e2] at e3
  cases e3
  cases e4
  have hi : i < Γ.length := (List.getElem?_eq_some_iff.mp e1).1
  have h0 := o.own0 i _ _ e1 e2
  have at_i : ∀ (j : Nat) x, (Γ.set i (some (.own ys)))[j]? = some (some x) → (j = i ∧ x = .own ys) ∨ (j ≠ i ∧ Γ[j]? = some (some x)) := by
    intro j x e
    by_cases hj : i = j
    · subst hj
      rw [List.getElem?_set_self hi] at e
      cases e
      exact .inl ⟨rfl, rfl⟩
    · rw [List.getElem?_set_ne hj] at e
      exact .inr ⟨fun z => hj z.symm, e⟩
  refine ⟨⟨fun b u e => ?_, fun h => (o.ok.at_ h).upd h nd, o.ok.hid, fun b u e => ?_, o.ok.blst, tabs_upd o.ok.tabs (.inr ⟨_, ha, r0.lstdk⟩), o.ok.ftbl, by simp [o.ok.len], fun j x e => ?_, fun j l us zs b q1 q2 q3 q4 => ?_⟩, o.per, o.ext0, fun b u e n1 n3 => ?_, fun b u e => ?_, o.nof0, fun j us b q1 q2 => ?_, o.base⟩
  · rw [upd_ne (fun z => by rw [z, fa] at e; cases e)]
    exact o.ok.sub b u e
  · rw [upd_ne (fun z => by rw [z, nb] at e; cases e)]
    exact o.ok.bsub b u e
  · rcases at_i j x e with ⟨rfl, rfl⟩ | ⟨hj, e'⟩
    · exact ⟨_, e2, a, ob, rfl, upd_same, fa, nd, nb, r⟩
    · obtain ⟨v, q1, q2⟩ := o.ok.slot j x e'
      refine ⟨v, q1, ?_⟩
      cases x with
      | dat d => exact q2
      | own us =>
        obtain ⟨c, ls, rfl, hc, fc, n1, n3, rr⟩ := q2
        have hca : c ≠ a := fun z => by
          subst z
          exact hj (o.ok.apart j i _ _ _ e' e1 q1 e2)
        exact ⟨c, ls, rfl, by rw [upd_ne hca]; exact hc, fc, n1, n3, rr⟩
  · rcases at_i j _ q1 with ⟨rfl, _⟩ | ⟨n1, p1⟩
    · rcases at_i l _ q2 with ⟨rfl, _⟩ | ⟨n2, p2⟩
      · rfl
      · exact o.ok.apart _ l _ _ b e1 p2 q3 q4
    · rcases at_i l _ q2 with ⟨rfl, _⟩ | ⟨n2, p2⟩
      · exact o.ok.apart j _ _ _ b p1 e1 q3 q4
      · exact o.ok.apart j l _ _ b p1 p2 q3 q4
  · rw [upd_ne (fun z => by rw [z, h0] at e; cases e)]
    exact o.stay0 b u e n1 n3
  · rw [upd_ne (fun z => by rw [z, h0] at e; cases e)]
    exact o.kept0 b u e
  · rcases at_i j _ q1 with ⟨rfl, _⟩ | ⟨n1, p1⟩
    · exact o.own0 _ _ _ e1 q2
    · exact o.own0 j _ _ p1 q2
/-- the list of slot i is frozen -/
theorem OkS.frz (o : OkS k G H0 P F H σ Γ st) {i : Nat} {xs : List D} (e1 : Γ[i]? = some (some (.own xs))) : ∃ F', OkS k G H0 P F' H σ (Γ.set i (some (.dat (.lst xs)))) st := by
  obtain ⟨v, e2, a, _, rfl, ha, fa, nd, nb, vs, rfl, r⟩ := o.ok.slot i _ e1
  have hi : i < Γ.length := (List.getElem?_eq_some_iff.mp e1).1
  have h0 := o.own0 i _ _ e1 e2
  have ext : Same F (L2.upd F a (.lst vs)) := fun b u e => by rw [upd_ne (fun z => by rw [z, fa] at e; cases e)]; exact e
  have at_i : ∀ (j : Nat) x, (Γ.set i (some (.dat (.lst xs))))[j]? = some (some x) → (j = i ∧ x = .dat (.lst xs)) ∨ (j ≠ i ∧ Γ[j]? = some (some x)) := by
    intro j x e
    by_cases hj : i = j
    · subst hj
      rw [List.getElem?_set_self hi] at e
      cases e
      exact .inl ⟨rfl, rfl⟩
    · rw [List.getElem?_set_ne hj] at e
      exact .inr ⟨fun z => hj z.symm, e⟩
  have un : ∀ (j : Nat) us, (Γ.set i (some (.dat (.lst xs))))[j]? = some (some (.own us)) → Γ[j]? = some (some (.own us)) ∧ j ≠ i := fun j us e => by
    rcases at_i j _ e with ⟨_, z⟩ | ⟨hj, z⟩
    · cases z
    · exact ⟨z, hj⟩
  refine ⟨L2.upd F a (.lst vs), ⟨fun b u e => ?_, o.ok.at_, fun h => ⟨by rw [upd_ne (fun z => nd ⟨h, .inl z.symm⟩)]; exact (o.ok.hid h).fdl, by rw [upd_ne (fun z => nd ⟨h, .inr z.symm⟩)]; exact (o.ok.hid h).fcl, (o.ok.hid h).ne, (o.ok.hid h).bdl, (o.ok.hid h).bcl⟩, o.ok.bsub, o.ok.blst, o.ok.tabs, fun b x h => by
      by_cases hb : b = a
      · subst hb; rw [upd_same] at h; cases h; exact ltbl
      · rw [upd_ne hb] at h; exact o.ok.ftbl _ _ h
    , by simp [o.ok.len], fun j x e => ?_, fun j l us zs b q1 q2 => o.ok.apart j l us zs b (un j us q1).1 (un l zs q2).1⟩, o.per.trans ext, o.ext0.trans ext, o.stay0, o.kept0, fun b u e g => ?_, fun j us b q => o.own0 j us b (un j us q).1, o.base⟩
  · by_cases hb : b = a
    · subst hb
      rw [upd_same] at e
      rw [ha]
      exact e
    · rw [upd_ne hb] at e
      exact o.ok.sub b u e
  · rcases at_i j x e with ⟨rfl, rfl⟩ | ⟨hj, e'⟩
    · exact ⟨_, e2, .lst upd_same (r.mono ext)⟩
    · obtain ⟨v, q1, q2⟩ := o.ok.slot j x e'
      refine ⟨v, q1, ?_⟩
      cases x with
      | dat d => exact Rep.mono ext q2
      | own us =>
        obtain ⟨c, ls, rfl, hc, fc, n1, n3, rr⟩ := q2
        have hca : c ≠ a := fun z => by
          subst z
          exact hj (o.ok.apart j i _ _ _ e' e1 q1 e2)
        exact ⟨c, ls, rfl, hc, by rw [upd_ne hca]; exact fc, n1, n3, rr.mono ext⟩
  · rw [upd_ne (fun z => by rw [z, h0] at e; cases e)]
    exact o.nof0 b u e g
end

section
variable {X : Cx} {k : Kx} {E : XE} {e : Expr} {m : Ev → M (List D)} {pos : Pos} {st : Stmt} {sm : SM}
/-- the statement sees slot i's list as data, from here on -/
def mFrzS (i : Nat) (sm : SM) : SM := fun Γ => match gOwn i Γ with
  | some xs => sm (Γ.set i (some (.dat (.lst xs))))
  | none => sm Γ
theorem s_frz (i : Nat) (h : PS X st (tS k E sm)) : PS X st (tS k E (mFrzS i sm)) := PS.weak h fun D σ H ⟨G, H0, P, F, Γ, s, ok, w⟩ => by
  unfold mFrzS at w
  cases eg : gOwn i Γ with
  | some xs =>
    rw [eg] at w
    obtain ⟨F', ok'⟩ := ok.frz (gOwn_use eg)
    exact ⟨G, H0, P, F', _, s, ok', w⟩
  | none =>
    rw [eg] at w
    exact ⟨G, H0, P, F, Γ, s, ok, w⟩
def mSetO (i : Nat) (m : Ev → M (List D)) : SM := fun Γ => sE (m Γ) Γ fun xs => pure (.nx (Γ.set i (some (.own xs))))
theorem setO_imp {i : Nat} {D0 : Ends} {σ : L2.St} {H : Hp} (h : tS k E (mSetO i m) D0 σ H) : tO k E m σ H fun x H1 => gName i x σ H1 D0.nx := by
  obtain ⟨G, H0, P, F, Γ, st, ok, w⟩ := h
  refine ⟨F, Γ, st, ok.ok, (Wp.inS (o := m Γ st) ok w).mono fun xs F1 H1 st1 s w1 a vs h1 f1 h0 r => ?_⟩
  exact w1 _ F1 H1 (ok.setO s i h0 h1 f1 ⟨_, rfl, r⟩)
theorem s_setO {i : Nat} {x : Str} {pos' : Pos} (hN : X.N.Nodup) (he : PE X e (tO k E m)) (hi : X.N[i]? = some x := by rfl) (hx : Loc X.env.scope x := by first | exact Or.inl rfl | exact Or.inr rfl) (hs : swapsWith e (some (.Name x pos')) pos.line X.env = pure false := by rfl) (hf : X.fn x = true ∨ X.env.scope.names.lookup x = some .local := by first | exact .inl rfl | exact .inr rfl | assumption) :
    PS X (.Assign [.Name x pos'] e pos) (tS k E (mSetO i m)) := PS.weak (ps_set hN hi hx he hs hf) fun D σ H h => setO_imp h
section
variable {i : Nat} {y : Str} {py : Pos} {elt tg iter : Expr} {ifs : List Expr} {scope : Scope} {own : List (Str × Nat)} {spos : Pos} {mi : Ev → M (List D)} {g : GM} {js : List Nat} {t : Ev → M Bool} {me : EM}
/-- x = [..] on one line, x a plain local -/
theorem s_lcO (hc : X.calm = true) (hN : X.N.Nodup) (hsw : swapsWith (.ListComp elt [⟨tg, iter, ifs, 0⟩] scope pos) (some (.Name y py)) spos.line X.env = pure true) (hi : PI X tg iter (tI k E mi)) (ok : BlkOk X.N X.env.scope scope own) (hj : ∀ j ∈ js, j ∈ own.map (·.2))
    (hg : ∀ (s : Shared) (H : Hp) (C : Addr) (cl : List (Str × Addr)) (fp : List Addr), PG (X.blk s H scope (compEnvC scope cl C X.env) fp) tg (gM k js g)) (ht : ∀ (s : Shared) (H : Hp) (C : Addr) (cl : List (Str × Addr)) (fp : List Addr), PTs (X.blk s H scope (compEnvC scope cl C X.env) fp) ifs (tT k EF t))
    (he : ∀ (s : Shared) (H : Hp) (C : Addr) (cl : List (Str × Addr)) (fp : List Addr), PE (X.blk s H scope (compEnvC scope cl C X.env) fp) elt (tM k EF me)) (hy : X.N[i]? = some y := by rfl) (hyl : X.env.scope.names.lookup y = some .local := by rfl) (hs : ∀ x, foldedSetIterable iter X.env x = pure x := by intro _; rfl) :
    PS X (.Assign [.Name y py] (.ListComp elt [⟨tg, iter, ifs, 0⟩] scope pos) spos) (tS k E (mSetO i (mComp mi g t me (own.map (·.2))))) :=
  PS.weak (ps_setLc hc hN hy hyl hsw hi ok hg ht he hs) fun D σ H h => lc_imp hj (setO_imp h)
theorem s_lc (hc : X.calm = true) (hN : X.N.Nodup) (hsw : swapsWith (.ListComp elt [⟨tg, iter, ifs, 0⟩] scope pos) (some (.Name y py)) spos.line X.env = pure true) (hi : PI X tg iter (tI k E mi)) (ok : BlkOk X.N X.env.scope scope own) (hj : ∀ j ∈ js, j ∈ own.map (·.2))
    (hg : ∀ (s : Shared) (H : Hp) (C : Addr) (cl : List (Str × Addr)) (fp : List Addr), PG (X.blk s H scope (compEnvC scope cl C X.env) fp) tg (gM k js g)) (ht : ∀ (s : Shared) (H : Hp) (C : Addr) (cl : List (Str × Addr)) (fp : List Addr), PTs (X.blk s H scope (compEnvC scope cl C X.env) fp) ifs (tT k EF t))
    (he : ∀ (s : Shared) (H : Hp) (C : Addr) (cl : List (Str × Addr)) (fp : List Addr), PE (X.blk s H scope (compEnvC scope cl C X.env) fp) elt (tM k EF me)) (hy : X.N[i]? = some y := by rfl) (hyl : X.env.scope.names.lookup y = some .local := by rfl) (hs : ∀ x, foldedSetIterable iter X.env x = pure x := by intro _; rfl) :
    PS X (.Assign [.Name y py] (.ListComp elt [⟨tg, iter, ifs, 0⟩] scope pos) spos) (tS k E (mAsg (mFrz (mComp mi g t me (own.map (·.2)))) (mgName i))) :=
  PS.weak (ps_setLc hc hN hy hyl hsw hi ok hg ht he hs) fun D σ H ⟨G, H0, P, F, Γ, st, ok, w⟩ => by
    have q : tM k E (mFrz (mComp mi g t me (own.map (·.2)))) σ H fun x H1 => gName i x σ H1 D.nx := tM.inS ok w fun v d F1 H1 st1 s ok1 r w1 => w1 _ F1 H1 (ok1.upd (Upd.set ok1.ok.len r))
    exact lc_imp hj (frz_imp q)
end
/-! ### lent -/
mutual
def noBor : D → Bool
  | .tup xs => noBors xs
  | .lst xs => noBors xs
  | .bor _ => false
  | .kl xs => noBors xs
  | .ins _ _ xs => noBors xs
  | .ltp xs => noBors xs
  | .dic _ xs => noBors xs
  | .dct _ xs => noBors xs
  | _ => true
def noBors : List D → Bool
  | [] => true
  | d :: ds => noBor d && noBors ds
end
section
variable {Pg : Program} {wd : World} {K : PySem.W.Frag} {on : Bool} {dl cl : Addr} {B B' : Hp} {F : Hp} {T : List (Addr × Str)}
mutual
theorem Rep.noB : ∀ {v : V} {d : D}, Rep ⟨K, on, dl, cl, B, T, Pg, wd⟩ F v d → noBor d = true → Rep ⟨K, on, dl, cl, B', T, Pg, wd⟩ F v d
  | _, _, .non, _ => .non
  | _, _, .bl b, _ => .bl b
  | _, _, .int i, _ => .int i
  | _, _, .str x, _ => .str x
  | _, _, .tup h r q, n => .tup h (Reps.noB r (by rw [noBor] at n; exact n)) q
  | _, _, .lst h r, n => .lst h (Reps.noB r (by rw [noBor] at n; exact n))
  | _, _, .bor h r, n => by rw [noBor] at n; cases n
  | _, _, .kl h r, n => .kl h (Reps.noB r (by rw [noBor] at n; exact n))
  | _, _, .deal h, _ => .deal h
  | _, _, .ins h h2 e r, n => .ins h h2 e (Reps.noB r (by rw [noBor] at n; exact n))
  | _, _, .ltp h r, n => .ltp h (Reps.noB r (by rw [noBor] at n; exact n))
  | _, _, .setK h hp, n => .setK h hp
  | _, _, .setT h hp r, n => .setT h hp r
  | _, _, .dic h e r, n => .dic h e (Reps.noB r (by rw [noBor] at n; exact n))
  | _, _, .dct h e r, n => .dct h e (Reps.noB r (by rw [noBor] at n; exact n))
theorem Reps.noB : ∀ {vs : List V} {ds : List D}, Reps ⟨K, on, dl, cl, B, T, Pg, wd⟩ F vs ds → noBors ds = true → Reps ⟨K, on, dl, cl, B', T, Pg, wd⟩ F vs ds
  | _, _, .nil, _ => .nil
  | _, _, .cons h t, n => by
    rw [noBors, Bool.and_eq_true] at n
    exact .cons (Rep.noB h n.1) (Reps.noB t n.2)
end
mutual
theorem Rep.upB (s : Same B B') : ∀ {v : V} {d : D}, Rep ⟨K, on, dl, cl, B, T, Pg, wd⟩ F v d → Rep ⟨K, on, dl, cl, B', T, Pg, wd⟩ F v d
  | _, _, .non => .non
  | _, _, .bl b => .bl b
  | _, _, .int i => .int i
  | _, _, .str x => .str x
  | _, _, .tup h r q => .tup h (Reps.upB s r) q
  | _, _, .lst h r => .lst h (Reps.upB s r)
  | _, _, .bor h r => .bor (s _ _ h) (Reps.upB s r)
  | _, _, .kl h r => .kl h (Reps.upB s r)
  | _, _, .deal h => .deal h
  | _, _, .ins h h2 e r => .ins h h2 e (Reps.upB s r)
  | _, _, .ltp h r => .ltp h (Reps.upB s r)
  | _, _, .setK h hp => .setK h hp
  | _, _, .setT h hp r => .setT h hp r
  | _, _, .dic h e r => .dic h e (Reps.upB s r)
  | _, _, .dct h e r => .dct h e (Reps.upB s r)
theorem Reps.upB (s : Same B B') : ∀ {vs : List V} {ds : List D}, Reps ⟨K, on, dl, cl, B, T, Pg, wd⟩ F vs ds → Reps ⟨K, on, dl, cl, B', T, Pg, wd⟩ F vs ds
  | _, _, .nil => .nil
  | _, _, .cons h t => .cons (Rep.upB s h) (Reps.upB s t)
end
theorem RepO.upB (s : Same B B') {ob : HO} {o : OD} (h : RepO ⟨K, on, dl, cl, B, T, Pg, wd⟩ F ob o) : RepO ⟨K, on, dl, cl, B', T, Pg, wd⟩ F ob o := by
  cases o with
  | ls xs => obtain ⟨vs, e, r⟩ := h; exact ⟨vs, e, Reps.upB s r⟩
  | dk kv => obtain ⟨vs, e, q, r⟩ := h; exact ⟨vs, e, q, Reps.upB s r⟩
  | dt kv => obtain ⟨vs, e, q, r⟩ := h; exact ⟨vs, e, q, Reps.upB s r⟩
theorem Step.anyB {H F' H' : Hp} {st' : DS} (s : Step ⟨K, on, dl, cl, B, T, Pg, wd⟩ F H F' H' st') : Step ⟨K, on, dl, cl, B', T, Pg, wd⟩ F H F' H' st' := ⟨s.ext, s.stay, s.kept, s.nof, s.tabs, s.ftbl, s.sub, fun h => ⟨(s.at_ h).few, (s.at_ h).dl, (s.at_ h).cl⟩⟩
/-- slot i's list is lent -/
theorem Ok.lend {H : Hp} {σ : L2.St} {Γ : Ev} {st : DS} (o : Ok ⟨K, on, dl, cl, B, T, Pg, wd⟩ F H σ Γ st) {i : Nat} {xs : List D} (e1 : Γ[i]? = some (some (.own xs))) : ∃ B', Same B B' ∧ Ok ⟨K, on, dl, cl, B', T, Pg, wd⟩ F H σ (Γ.set i (some (.dat (.bor xs)))) st := by
  obtain ⟨v, e2, a, _, rfl, ha, fa, nd, nb, vs, rfl, r⟩ := o.slot i _ e1
  have hi : i < Γ.length := (List.getElem?_eq_some_iff.mp e1).1
  have ext : Same B (L2.upd B a (.lst vs)) := fun b u e => by rw [upd_ne (fun z => by rw [z] at e; rw [show B a = none from nb] at e; cases e)]; exact e
  have at_i : ∀ (j : Nat) x, (Γ.set i (some (.dat (.bor xs))))[j]? = some (some x) → (j = i ∧ x = .dat (.bor xs)) ∨ (j ≠ i ∧ Γ[j]? = some (some x)) := by
    intro j x e
    by_cases hj : i = j
    · subst hj
      rw [List.getElem?_set_self hi] at e
      cases e
      exact .inl ⟨rfl, rfl⟩
    · rw [List.getElem?_set_ne hj] at e
      exact .inr ⟨fun z => hj z.symm, e⟩
  have un : ∀ (j : Nat) us, (Γ.set i (some (.dat (.bor xs))))[j]? = some (some (.own us)) → Γ[j]? = some (some (.own us)) ∧ j ≠ i := fun j us e => by
    rcases at_i j _ e with ⟨_, z⟩ | ⟨hj, z⟩
    · cases z
    · exact ⟨z, hj⟩
  refine ⟨L2.upd B a (.lst vs), ext, o.sub, fun h => ⟨(o.at_ h).few, (o.at_ h).dl, (o.at_ h).cl⟩, fun h => ⟨(o.hid h).fdl, (o.hid h).fcl, (o.hid h).ne, ?_, ?_⟩, fun b u e => ?_, fun b u e => ?_, o.tabs, o.ftbl, by simp [o.len], fun j x e => ?_, fun j l us zs b q1 q2 => o.apart j l us zs b (un j us q1).1 (un l zs q2).1⟩
  · show L2.upd B a (.lst vs) dl = none
    rw [upd_ne (fun z => nd ⟨h, .inl z.symm⟩)]
    exact (o.hid h).bdl
  · show L2.upd B a (.lst vs) cl = none
    rw [upd_ne (fun z => nd ⟨h, .inr z.symm⟩)]
    exact (o.hid h).bcl
  · have e : L2.upd B a (.lst vs) b = some u := e
    by_cases hb : b = a
    · subst hb
      rw [upd_same] at e
      rw [ha]
      exact e
    · rw [upd_ne hb] at e
      exact o.bsub b u e
  · have e : L2.upd B a (.lst vs) b = some u := e
    by_cases hb : b = a
    · subst hb
      rw [upd_same] at e
      cases e
      exact ⟨_, rfl⟩
    · rw [upd_ne hb] at e
      exact o.blst b u e
  · rcases at_i j x e with ⟨rfl, rfl⟩ | ⟨hj, e'⟩
    · exact ⟨_, e2, .bor (show L2.upd B a (.lst vs) a = some (.lst vs) from upd_same) (r.upB ext)⟩
    · obtain ⟨v, q1, q2⟩ := o.slot j x e'
      refine ⟨v, q1, ?_⟩
      cases x with
      | dat d => exact Rep.upB ext q2
      | own us =>
        obtain ⟨c, ls, rfl, hc, fc, n1, n3, rr⟩ := q2
        have hca : c ≠ a := fun z => by
          subst z
          exact hj (o.apart j i _ _ _ e' e1 q1 e2)
        exact ⟨c, ls, rfl, hc, fc, n1, by show L2.upd B a (.lst vs) c = none; rw [upd_ne hca]; exact n3, rr.upB ext⟩
def mBor (i : Nat) (m : EM) : EM := fun Γ => match gOwn i Γ with
  | some xs => (do
    let d ← nxM (m (Γ.set i (some (.dat (.bor xs)))))
    if noBor d then pure d else halt)
  | none => m Γ
def mBorT (i : Nat) (m : Ev → M Bool) : Ev → M Bool := fun Γ => match gOwn i Γ with
  | some xs => nxM (m (Γ.set i (some (.dat (.bor xs)))))
  | none => m Γ
theorem e_bor (i : Nat) {m : EM} (h : ∀ B, PE X e (tM ⟨K, on, dl, cl, B, T, Pg, wd⟩ E m)) : PE X e (tM ⟨K, on, dl, cl, B, T, Pg, wd⟩ E (mBor i m)) := ⟨fun pins s σ H Q I ⟨F, Γ, st, ok, w⟩ => by
  unfold mBor at w
  cases eg : gOwn i Γ with
  | some xs =>
    rw [eg] at w
    obtain ⟨B', sB, ok'⟩ := ok.lend (gOwn_use eg)
    have w : Wp ⟨K, on, dl, cl, B, T, Pg, wd⟩ E σ F H ((nxM (m (Γ.set i (some (.dat (.bor xs))))) st).bind fun d => (if noBor d = true then pure d else halt : M D)) (qD ⟨K, on, dl, cl, B, T, Pg, wd⟩ Q) := w
    obtain ⟨d, st', em, w'⟩ := Wp.nx_ok w
    refine (h B').run pins s σ H Q I ⟨F, _, st, ok', ?_⟩
    rw [em]
    intro F' H' s' v r
    split at w'
    · rename_i nb
      exact w' F' H' s'.anyB v (r.noB nb)
    · exact w'.elim
  | none =>
    rw [eg] at w
    exact (h B).run pins s σ H Q I ⟨F, Γ, st, ok, w⟩⟩
theorem t_bor (i : Nat) {m : Ev → M Bool} (h : ∀ B, PT X e (tT ⟨K, on, dl, cl, B, T, Pg, wd⟩ E m)) : PT X e (tT ⟨K, on, dl, cl, B, T, Pg, wd⟩ E (mBorT i m)) := ⟨fun pins s σ H Q I ⟨F, Γ, st, ok, w⟩ => by
  unfold mBorT at w
  cases eg : gOwn i Γ with
  | some xs =>
    rw [eg] at w
    obtain ⟨B', sB, ok'⟩ := ok.lend (gOwn_use eg)
    refine (h B').run pins s σ H Q I ⟨F, _, st, ok', ?_⟩
    have w : Wp ⟨K, on, dl, cl, B, T, Pg, wd⟩ E σ F H (nxM (m (Γ.set i (some (.dat (.bor xs))))) st) fun b _ H' _ => Q b H' := w
    unfold nxM at w
    revert w
    cases m (Γ.set i (some (.dat (.bor xs)))) st with
    | ok b st' => exact fun w F' H' s' => w F' H' s'.anyB
    | err C fs st' => exact fun w => w.elim
    | stuck => exact fun w => w.elim
  | none =>
    rw [eg] at w
    exact (h B).run pins s σ H Q I ⟨F, Γ, st, ok, w⟩⟩
end
/-! ### written -/
/-- x[i] = e -/
def gStore (i : Nat) (Γ : Ev) (xs : List D) (d ix : D) : M Fl := fun st => match ix with
  | .int n => (match ixN xs.length n with
    | some j => .ok (.nx (Γ.set i (some (.own (xs.set j d))))) st
    | none => .stuck)
  | _ => .stuck
def mStore (i : Nat) (me mi : EM) : SM := fun Γ => match gOwn i Γ with
  | some xs => sE (me Γ) Γ fun d => sE (mi Γ) Γ fun ix => gStore i Γ xs d ix
  | none => halt
theorem s_store (i : Nat) {x : Str} {px : Pos} {ie : Expr} {p2 : Pos} {me mi : EM} (he : PE X e (tM k E me)) (hi : PE X ie (tM k E mi)) (hN : X.N[i]? = some x := by rfl) (hv : Vis X.env.scope x := by first | exact Or.inl rfl | exact Or.inr (Or.inl rfl) | exact Or.inr (Or.inr rfl)) (hd : (x == ("__debug__" : Str)) = false := by decide) (hcd : (x == ("__classdict__" : Str)) = false := by decide)
    (hs : swapsWithSole [.Subscript (.Name x px) ie p2] e pos.line X.env = pure false := by rfl) (hw : swappedStores [.Subscript (.Name x px) ie p2] e X.env = pure none := by rfl) (h1 : (assignEach [.Subscript (.Name x px) ie p2] X.env).map (·.2) = [assign (.Subscript (.Name x px) ie p2) X.env] := by rfl)
    (ha : ∀ v, assign (.Subscript (.Name x px) ie p2) X.env v = (do
      let ov ← holding [v] (eval (.Name x px) X.env)
      let iv ← holding [v, ov] (eval ie X.env)
      standAt p2
      holding [v, ov, iv] (setItem ov iv v)
      release [v, ov, iv] []) := by intro _; rfl) : PS X (.Assign [.Subscript (.Name x px) ie p2] e pos) (tS k E (mStore i me mi)) :=
  PS.weak (ps_asg he (pg_sub (pv i hN hv hd hcd) hi set_list ha) hs hw h1) fun D σ H ⟨G, H0, P, F, Γ, st, ok, w⟩ => by
    unfold mStore at w
    cases eg : gOwn i Γ with
    | none => rw [eg] at w; exact w.elim
    | some xs =>
      rw [eg] at w
      refine tM.inS ok w fun v d F1 H1 st1 s1 ok1 r1 w1 => ?_
      obtain ⟨v0, e2, a, _, rfl, _⟩ := ok1.ok.slot i _ (gOwn_use eg)
      refine ⟨.ref a, e2, tM.inS ok1 w1 fun iv ix F2 H2 st2 s2 ok2 r2 w2 => ?_⟩
      obtain ⟨v0', e2', a', _, e3, ha', fa, n1, n3, vs', rfl, rr⟩ := ok2.ok.slot i _ (gOwn_use eg)
      rw [e2] at e2'
      cases e2'
      cases e3
      unfold gStore at w2
      split at w2
      · rename_i n
        cases r2
        split at w2
        · rename_i j ej
          refine ⟨a, vs', n, j, rfl, rfl, ha', by rw [rr.length]; exact ej, ?_⟩
          exact w2 σ F2 _ (ok2.mut (gOwn_use eg) e2 ⟨_, rfl, rr.set j (r1.mono s2.ext)⟩)
        · exact w2.elim
      · exact w2.elim
/-- x.append(e) -/
def mApp (i : Nat) (me : EM) : SM := fun Γ => match gOwn i Γ with
  | some xs => sE (me Γ) Γ fun d => if decide (xs.length < sizeLine) then pure (.nx (Γ.set i (some (.own (xs ++ [d]))))) else halt
  | none => halt
theorem s_app (i : Nat) {x : Str} {px apos cpos : Pos} {me : EM} (he : PE X e (tM k E me)) (hN : X.N[i]? = some x := by rfl) (hv : Vis X.env.scope x := by first | exact Or.inl rfl | exact Or.inr (Or.inl rfl) | exact Or.inr (Or.inr rfl)) (hd : (x == ("__debug__" : Str)) = false := by decide) (hcd : (x == ("__classdict__" : Str)) = false := by decide)
    (hbase : attributeBase (.Name x px) "append" X.env (eval (.Name x px) X.env) = eval (.Name x px) X.env := by rfl)
    (hfew : ((backTo cpos (starEach [e] X.env)).all (fun x => !x.1) && (backToKw cpos (keywordEach [] X.env)).all (fun x => x.1.isSome)
      && decide ([e].length + ([] : List Keyword).length + (if ([] : List Keyword).isEmpty then 0 else 1) < 30)) = true := by rfl)
    (hline : (apos.endLine == cpos.line) = true := by rfl) (hs : starEach [e] X.env = (false, eval e X.env) :: starEach [] X.env := by rfl) (hplain : (backTo cpos (starEach [] X.env)).any (·.1) = false := by rfl)
    (hsw : swapsWith (.Call (.Attribute (.Name x px) "append" apos) [e] [] cpos) none pos.line X.env = pure false := by rfl) : PS X (.Expr (.Call (.Attribute (.Name x px) "append" apos) [e] [] cpos) pos) (tS k E (mApp i me)) :=
  PS.weak (ps_expr (pe_bm PySem.F.plainAttrs_list PySem.F.slot_list_append PySem.F.type_list_append mt_append (pv i hN hv hd hcd) (pa_cons he pa_nil hs) hbase hfew hline hs hplain) hsw) fun D σ H ⟨G, H0, P, F, Γ, st, ok, w⟩ => by
    unfold mApp at w
    cases eg : gOwn i Γ with
    | none => rw [eg] at w; exact w.elim
    | some xs =>
      rw [eg] at w
      obtain ⟨v0, e2, a, _, rfl, ha, _, _, _, vs, rfl, _⟩ := ok.ok.slot i _ (gOwn_use eg)
      refine ⟨.ref a, e2, .inl ⟨rfl, _, SqL.of ha⟩, tM.inS ok w fun v d F1 H1 st1 s1 ok1 r1 w1 => ?_⟩
      obtain ⟨v0', e2', a', _, e3, ha', fa, n1, n3, vs', rfl, rr⟩ := ok1.ok.slot i _ (gOwn_use eg)
      rw [e2] at e2'
      cases e2'
      cases e3
      split at w1
      · rename_i hz
        refine ⟨a, vs', v, rfl, rfl, ha', by rw [rr.length]; exact of_decide_eq_true hz, ?_⟩
        exact w1 σ F1 _ (ok1.mut (gOwn_use eg) e2 ⟨_, rfl, rr.append (.cons r1 .nil)⟩)
      · exact w1.elim
end
end FL

/-! FL9: the deal: a number below m is drawn -/
namespace FL
open PySem PySem.Spec PyProof.Rows L2

def popZ (ns : List Int) : List Int := (ns.reverse.dropWhile (· == 0)).reverse
theorem popZ_snoc0 (ns : List Int) : popZ (ns ++ [0]) = popZ ns := by simp [popZ]
theorem popZ_snoc (ns : List Int) {r : Int} (h : r ≠ 0) : popZ (ns ++ [r]) = ns ++ [r] := by simp [popZ, h]
theorem popZ_nil : popZ [] = [] := rfl
def anyI (c : Int) (st : DS) (m : Int) : Int × DS := match (popZ st.1).getLast? with
  | some r => (r % m, ((popZ st.1).dropLast ++ [r / m], st.2))
  | none => ((st.2 * 48271 + c) % 2147483647 / 64 % m, ([], (st.2 * 48271 + c) % 2147483647))
def gAnyD (c : Int) : List D → M D := fun ds st => match ds with
  | [.deal, .int m] => if decide (0 < m ∧ m.natAbs.log2 < 9000) then .ok (.int (anyI c st m).1) (anyI c st m).2 else .stuck
  | _ => .stuck
section
variable (K : PySem.W.Frag)
def rInt1 : List V → Hp → VK → Prop := fun xs H Q => (∃ i, xs = [.int i] ∧ Q (.int i) H) ∨ ∃ k, xs = [.bl k] ∧ Q (.int (if k then 1 else 0)) H
def rModI : R2 := rI (fun _ j => 0 < j) fun i j => .int (i % j)
def rMulI : R2 := rI (fun a b => (-(2 ^ 64) < a ∧ a < 2 ^ 64) ∨ (-(2 ^ 64) < b ∧ b < 2 ^ 64)) fun i j => .int (i * j)
def tD0 : TE := tOp (rIx K) (tVar 0) (tC (.int 0))
def tNe0 : TT := tTest (tOp (rNeD K) (tD0 K) (tLst L2.tNil))
def tLast0 : TT := tTest (tOp (rEqD K) (tOp (rIx K) (tD0 K) (tUn (rU fun i => .int (-i)) (tC (.int 1)))) (tC (.int 0)))
def tPop0 : TE := tBM0 K "list" rPop (tD0 K)
def tAnyB (c : Int) : TS :=
  tSeq (tWhile (L2.tAnd (tNe0 K) (tLast0 K)) (tDrop (tPop0 K)))
    (tSeq (tIfS (tNe0 K) (tSeq (tAsg (tCB rInt1 (L2.tCons (tPop0 K) L2.tNil)) (gName 2)) (tSeq (tDrop (tBM K "list" rAppend (tD0 K) (L2.tCons (tOp (rI CDivW fun i j => .int (i / j)) (tVar 2) (tVar 1)) L2.tNil))) (tRet (tOp rModI (tVar 2) (tVar 1))))) tNext)
      (tSeq (tAsg (tOp rModI (tCB rInt1 (L2.tCons (tOp (rI0 fun i j => .int (i + j)) (tOp rMulI (tOp (rIx K) (tVar 0) (tC (.int 1))) (tC (.int 48271))) (tC (.int c))) L2.tNil)) (tC (.int 2147483647))) (L2.gSub (tVar 0) (tC (.int 1)) rSetL))
        (tRet (tOp rModI (tCB rInt1 (L2.tCons (tOp (rI (fun _ j => 0 < j ∧ j < 1073741824) fun i j => .int (i / j)) (tOp (rIx K) (tVar 0) (tC (.int 1))) (tC (.int 64))) L2.tNil)) (tVar 1)))))
end
theorem dpInts {K : PySem.W.Frag} {H : Hp} : ∀ ns : List Int, DpAll K H (ns.map V.int) (ns.map PyData.int)
  | [] => .nil
  | n :: ns => .cons (.int n) (dpInts ns)
theorem canLayInts : ∀ ns : List Int, PyData.canLayAll0 (ns.map PyData.int) = true
  | [] => by simp [PyData.canLayAll0]
  | n :: ns => by simp [PyData.canLayAll0, PyData.canLay0, canLayInts ns]
theorem depthInts : ∀ ns : List Int, PyData.depthAll (ns.map PyData.int) = 0
  | [] => by simp [PyData.depthAll]
  | n :: ns => by simp [PyData.depthAll, PyData.depth, depthInts ns]
theorem shapedInts (ns : List Int) : SeqAt.shaped (.list (ns.map PyData.int)) = true := by
  simp [SeqAt.shaped, PyData.canLay0, PyData.depth, canLayInts, depthInts]
theorem eqvNil : ∀ ns : List Int, PyData.eqv (.list (ns.map PyData.int)) (.list []) = ns.isEmpty
  | [] => by simp [PyData.eqv, PyData.eqvAll]
  | n :: ns => by simp [PyData.eqv, PyData.eqvAll]
section
variable {k : Kx} {F H : Hp} {σ : L2.St} {st : DS}
theorem d0_run {Q : VK} (ok : Ok k F H [] [] st) (on : k.on = true) (h0 : σ[0]? = some (some (.ref k.dl))) (q : Q (.ref k.cl) H) : tD0 k.K σ H Q :=
  ⟨_, h0, .inl ⟨k.dl, _, 0, _, rfl, rfl, SqL.of (ok.at_ on).dl, rfl, q⟩⟩
theorem ne0_run {Q : Bool → Hp → Prop} (ok : Ok k F H [] [] st) (on : k.on = true) (h0 : σ[0]? = some (some (.ref k.dl))) (q : ∀ H1, Ok k F H1 [] [] st → Step k F H F H1 st → Q (!st.1.isEmpty) H1) : tNe0 k.K σ H Q := by
  refine d0_run ok on h0 ⟨Nat.zero_le _, fun p np => ?_⟩
  have s := ok.new' (ob := .lst []) np
  have ok1 := ok.step s
  refine ⟨.list (st.1.map .int), .list [], .lst (SqL.of (ok1.at_ on).cl) (dpInts _), .lst (SqL.of upd_same) .nil, shapedInts _, shapedInts [], _, rfl, ?_⟩
  rw [eqvNil]
  exact q _ ok1 s
theorem atLast {α : Type} (xs : List α) (x : α) : atI (xs ++ [x]) (-1) = some x := by
  unfold atI
  have e : ixN (xs ++ [x]).length (-1) = some xs.length := by
    unfold ixN
    rw [if_neg (by decide), if_pos (by simp; omega)]
    simp
    omega
  rw [e]
  simp
theorem last0_run {Q : Bool → Hp → Prop} {ns : List Int} {r : Int} (ok : Ok k F H [] [] st) (on : k.on = true) (h0 : σ[0]? = some (some (.ref k.dl))) (e : st.1 = ns ++ [r]) (q : Q (r == 0) H) : tLast0 k.K σ H Q := by
  refine d0_run ok on h0 ⟨1, rfl, .inl ⟨k.cl, _, -1, .int r, rfl, rfl, SqL.of (ok.at_ on).cl, by rw [e, List.map_append]; exact atLast _ _, ?_⟩⟩
  refine ⟨.int r, .int 0, .int _, .int _, by simp [SeqAt.shaped, PyData.canLay0, PyData.depth], by decide +kernel, _, rfl, ?_⟩
  have e2 : PyData.eqv (.int r) (.int 0) = (r == 0) := by simp [PyData.eqv]
  rw [e2]
  exact q
/-- the cells are written -/
theorem Ok.cells (ok : Ok k F H [] [] st) (on : k.on = true) {ns : List Int} (hn : ns.length ≤ 63) : Step k F H F (L2.upd H k.cl (.lst (ns.map V.int))) (ns, st.2) where
  ext := fun _ _ h => h
  stay := fun a o h n _ => by rw [upd_ne (fun z => n ⟨on, .inr z⟩)]; exact h
  kept := fun a o h => by
    by_cases z : a = k.cl
    · subst z; exact ⟨_, upd_same⟩
    · exact ⟨o, by rw [upd_ne z]; exact h⟩
  nof := fun _ _ _ f => f
  tabs := tabs_upd ok.tabs (.inr ⟨_, (ok.at_ on).cl, .inl ⟨_, rfl⟩⟩)
  ftbl := ok.ftbl
  sub := fun b o e => by rw [upd_ne (fun z => by rw [z, (ok.hid on).fcl] at e; cases e)]; exact ok.sub b o e
  at_ := fun _ => ⟨hn, by rw [upd_ne (ok.hid on).ne]; exact (ok.at_ on).dl, upd_same⟩
/-- the mix is written -/
theorem Ok.mix (ok : Ok k F H [] [] st) (on : k.on = true) (b : Int) : Step k F H F (L2.upd H k.dl (.lst [.ref k.cl, .int b])) (st.1, b) where
  ext := fun _ _ h => h
  stay := fun a o h n _ => by rw [upd_ne (fun z => n ⟨on, .inl z⟩)]; exact h
  kept := fun a o h => by
    by_cases z : a = k.dl
    · subst z; exact ⟨_, upd_same⟩
    · exact ⟨o, by rw [upd_ne z]; exact h⟩
  nof := fun _ _ _ f => f
  tabs := tabs_upd ok.tabs (.inr ⟨_, (ok.at_ on).dl, .inl ⟨_, rfl⟩⟩)
  ftbl := ok.ftbl
  sub := fun b o e => by rw [upd_ne (fun z => by rw [z, (ok.hid on).fdl] at e; cases e)]; exact ok.sub b o e
  at_ := fun _ => ⟨(ok.at_ on).few, upd_same, by rw [upd_ne (ok.hid on).ne.symm]; exact (ok.at_ on).cl⟩
theorem pop0_run {Q : VK} {ns : List Int} {r : Int} (ok : Ok k F H [] [] st) (on : k.on = true) (h0 : σ[0]? = some (some (.ref k.dl))) (e : st.1 = ns ++ [r]) (q : ∀ H1, Ok k F H1 [] [] (ns, st.2) → Step k F H F H1 (ns, st.2) → Q (.int r) H1) : tPop0 k.K σ H Q := by
  have A := ok.at_ on
  have hn : ns.length ≤ 63 := by
    have := A.few
    rw [e] at this
    simp at this
    omega
  have s := ok.cells on hn
  refine d0_run ok on h0 ⟨.inl ⟨rfl, _, SqL.of A.cl⟩, k.cl, _, .int r, rfl, rfl, A.cl, ?_, ?_⟩
  · rw [e]; simp
  · have e2 : (st.1.map V.int).dropLast = ns.map V.int := by rw [e]; simp
    rw [e2]
    exact q _ (ok.step s) s
theorem any_run {c m : Int} {D0 : Ends} (ok : Ok k F H [] [] st) (on : k.on = true) (hm : 0 < m ∧ m.natAbs.log2 < 9000) (q : ∀ H', Step k F H F H' (anyI c st m).2 → D0.rt (.int (anyI c st m).1) H') :
    tAnyB k.K c D0 [some (.ref k.dl), some (.int m), none] H := by
  refine ⟨fun n σ H' => ∃ ns, n = ns.length ∧ σ = [some (.ref k.dl), some (.int m), none] ∧ Ok k F H' [] [] (ns, st.2) ∧ Step k F H F H' (ns, st.2) ∧ popZ ns = popZ st.1, ⟨_, st.1, rfl, rfl, ok, ok.refl, rfl⟩, ?_⟩
  rintro n σ H1 ⟨ns, rfl, rfl, ok1, s1, e1⟩
  refine ne0_run ok1 on rfl fun H2 ok2 s2 => ?_
  have s12 := ok.trans s1 s2
  rcases List.eq_nil_or_concat ns with en | ⟨ms, r, en⟩
  · subst en
    refine iteF (iteF (ne0_run ok2 on rfl fun H3 ok3 s3 => iteF ?_))
    have s13 := ok.trans s12 s3
    have A := ok3.at_ on
    have ea : anyI c st m = ((st.2 * 48271 + c) % 2147483647 / 64 % m, ([], (st.2 * 48271 + c) % 2147483647)) := by
      unfold anyI
      rw [← e1]
      rfl
    rw [ea] at q
    refine ⟨_, rfl, .inl ⟨k.dl, _, 1, _, rfl, rfl, SqL.of A.dl, rfl, ?_⟩⟩
    refine ⟨st.2, 48271, rfl, rfl, .inr ⟨by decide, by decide⟩, ?_⟩
    refine ⟨_, _, rfl, rfl, .inl ⟨_, rfl, ?_⟩⟩
    refine ⟨_, 2147483647, rfl, rfl, (by decide : (0 : Int) < 2147483647), ?_⟩
    refine ⟨_, rfl, k.dl, _, 1, 1, rfl, rfl, A.dl, rfl, ?_⟩
    have s4 := ok3.mix on ((st.2 * 48271 + c) % 2147483647)
    have ok4 := ok3.step s4
    refine ⟨_, rfl, .inl ⟨k.dl, _, 1, _, rfl, rfl, SqL.of (ok4.at_ on).dl, rfl, ?_⟩⟩
    refine ⟨_, 64, rfl, rfl, ⟨by decide, by decide⟩, ?_⟩
    refine .inl ⟨_, rfl, ?_⟩
    refine ⟨_, rfl, _, m, rfl, rfl, hm.1, ?_⟩
    exact q _ (ok.trans s13 s4)
  · rw [List.concat_eq_append] at en
    subst en
    have hb0 : (!(((ms ++ [r], st.2) : DS).1.isEmpty)) = true := by simp
    rw [hb0]
    refine iteT ?_
    refine last0_run (ns := ms) (r := r) ok2 on rfl rfl ?_
    by_cases hr : r = 0
    · subst hr
      refine iteT ⟨fun σ' H' => ∃ ns, ns = ms ∧ σ' = [some (.ref k.dl), some (.int m), none] ∧ Ok k F H' [] [] (ns, st.2) ∧ Step k F H F H' (ns, st.2) ∧ popZ ns = popZ st.1, ?_, ?_⟩
      · rintro σ' H' ⟨ns, rfl, a, b, c, d⟩
        exact ⟨ns.length, by simp, ns, rfl, a, b, c, d⟩
      · refine pop0_run (ns := ms) (r := 0) ok2 on rfl rfl fun H3 ok3 s3 => ⟨ms, rfl, rfl, ok3, ok.trans s12 s3, ?_⟩
        rw [← e1, popZ_snoc0]
    · have hb : (r == 0) = false := by simpa using hr
      rw [hb]
      refine iteF (ne0_run ok2 on rfl fun H3 ok3 s3 => ?_)
      rw [hb0]
      refine iteT ?_
      have ep := popZ_snoc ms hr
      rw [e1] at ep
      have ea : anyI c st m = (r % m, (ms ++ [r / m], st.2)) := by
        unfold anyI
        rw [ep]
        simp
      rw [ea] at q
      refine pop0_run (ns := ms) (r := r) ok3 on rfl rfl fun H4 ok4 s4 => .inl ⟨r, rfl, ?_⟩
      have A := ok4.at_ on
      have few := (ok3.at_ on).few
      simp at few
      refine ⟨_, rfl, .inl ⟨k.dl, _, 0, _, rfl, rfl, SqL.of A.dl, rfl, .inl ⟨rfl, _, SqL.of A.cl⟩, ?_⟩⟩
      refine ⟨_, rfl, _, rfl, r, m, rfl, rfl, hm, ?_⟩
      refine ⟨k.cl, _, .int (r / m), rfl, rfl, A.cl, ?_, ?_⟩
      · have : (ms.map V.int).length = ms.length := by simp
        show (ms.map V.int).length < sizeLine
        unfold sizeLine
        omega
      · have s5 := ok4.cells on (ns := ms ++ [r / m]) (by simp; omega)
        rw [List.map_append] at s5
        refine ⟨_, rfl, _, rfl, r, m, rfl, rfl, hm.1, ?_⟩
        exact q _ (ok.trans (ok.trans (ok.trans s12 s3) s4) s5)
end
end FL

/-! FL10: min(x, key=lambda y: ..) of a tuple: the key a pair of ints, read in the lambda's own frame -/
namespace FL
open PySem PySem.Spec PyProof.Rows L2

/-- a lambda of one parameter x, which captures names -/
structure LamP (sc scope : Scope) (x : Str) : Prop where
  kind : scope.kind = .function
  co : scope.isCoroutine = false
  gen : scope.isGenerator = false
  own : ∀ y ∈ scope.names, y.2 ≠ .cell
  loc : ∀ y ∈ scope.names, y.2 = .local → y.1 = x
  par : scope.names.lookup x = some .local
  free : ∀ y ∈ scope.names, y.2 = .free → sc.names.lookup y.1 = some .cell ∨ sc.names.lookup y.1 = some .free
def lamPB (sc scope : Scope) (x : Str) : Bool :=
  decide (scope.kind = .function) && (!scope.isCoroutine && (!scope.isGenerator && (decide (scope.names.lookup x = some .local) && scope.names.all fun y => !decide (y.2 = .cell) && ((!decide (y.2 = .local) || decide (y.1 = x)) && (!decide (y.2 = .free) || (decide (sc.names.lookup y.1 = some .cell) || decide (sc.names.lookup y.1 = some .free)))))))
theorem lamP_by {sc scope : Scope} {x : Str} (h : lamPB sc scope x = true) : LamP sc scope x := by
  unfold lamPB at h
  simp only [Bool.and_eq_true, Bool.or_eq_true, Bool.not_eq_true', decide_eq_true_eq, decide_eq_false_iff_not, List.all_eq_true] at h
  obtain ⟨h1, h2, h3, h4, h5⟩ := h
  refine ⟨h1, h2, h3, fun y hy => (h5 y hy).1, fun y hy e => ?_, h4, fun y hy e => ?_⟩
  · rcases (h5 y hy).2.1 with z | z
    · exact absurd e z
    · exact z
  · rcases (h5 y hy).2.2 with z | z
    · exact absurd e z
    · exact z
section
variable {X : Cx} {pins : List (Addr × Obj)} {σ : L2.St} {H HZ : Hp} {s s1 : Shared}
theorem LamP.has {scope : Scope} {x : Str} (L : LamP X.env.scope scope x) (ok : X.Ok) : ∀ y ∈ scope.names, y.2 = .free → ∃ c, X.env.cells.lookup y.1 = some c := fun y hy e =>
  ok.has y.1 (L.free y hy e)
/-- the lambda is made; what is tracked stays tracked -/
theorem lam_mk {T : List (Addr × Str)} {c P : Addr} {params : Arguments} {body : Expr} {scope : Scope} {pos : Pos} {Er : Value → Shared → Prop} {Q : Value → Shared → Prop} (I : Inv X pins σ H s) (TB : LamX.TabB X.base X.mg c P) (here : X.env.code = .ref c)
    (inT : (P, X.env.qual ++ "<lambda>") ∈ T) (oneN : ∀ p ∈ T, p.1 = P → p.2 = X.env.qual ++ "<lambda>") (tabs : LamX.Tabs T H) (nodef : defaultsOf params X.env = ([], [])) (caps : ∀ y ∈ scope.names, y.2 = .free → ∃ c, X.env.cells.lookup y.1 = some c)
    (go : ∀ (f c' : Addr) (pm ctv : Value) (H1 : Hp) (s' : Shared), Inv X pins σ H1 s' → LamX.ExtN H H1 → LamX.Tabs T H1 → (∀ b o, H b = some o → ∃ o', H1 b = some o') →
      s'.heap.get? f = some (PySem.W.kla_obj "<lambda>" (X.env.qual ++ "<lambda>") params body scope (cloFrom X.env.cells scope.names []) pm c' ctv) → H1 f = none → f ∉ frs X.stack → H1 c' = some (LamX.CodeO c' (X.env.qual ++ "<lambda>")) → X.base.objs.size ≤ f → f ≠ X.env.locals → Q (.ref f) s') :
    wpAny (model X.prog X.w) X.A (eval (.Lambda params body scope pos) X.env) Q Er s := by
  obtain ⟨ps, atP, trip, among⟩ := tabs _ inT
  refine PySem.W.kla_eval nodef ?_
  have blt : s.heap.BuiltinsAt X.mg P := TB.bm.keeps I.bk
  have realP : s.heap.get? P = some { cls := .none, data := .fields ps } := I.hok P _ atP
  have base_le : X.base.objs.size ≤ s.heap.objs.size := Nat.le_trans I.ok.bsz I.sz
  have new_fr : ∀ f, s.heap.objs.size ≤ f → f ∉ frs X.stack ∧ f ≠ X.env.locals := fun f hf => by
    have ne : f ≠ X.env.locals := fun e => absurd (Nat.lt_of_lt_of_le I.lt hf) (by rw [e]; exact Nat.lt_irrefl _)
    refine ⟨fun z => ?_, ne⟩
    rcases List.mem_cons.mp (I.stkSub _ z) with e | e
    · exact ne e
    · exact I.nofs hf e
  cases am : codeAmong pos ps.toList with
  | some cv =>
    obtain ⟨c', e, cobj⟩ := among pos cv am
    subst e
    refine PySem.W.kla_makeFunctionHit (mg := X.mg) (c := c) (P := P) (ps := ps) (closure_ok caps) I.ok.glob (I.mod.glob.keeps I.bk) here (TB.code.keeps I.bk) realP trip am blt fun ctv h' tk ext sz => ?_
    have I1 : Inv X pins σ H { s with heap := h'.push (PySem.W.kla_obj "<lambda>" (X.env.qual ++ "<lambda>") params body scope (cloFrom X.env.cells scope.names []) ((X.mg "__name__").getD .none) c' ctv), toks := tk } :=
      I.kept fun b o e => Heap.get?_push_of_some _ (ext b o e)
    exact go _ c' _ ctv H _ I1 (LamX.ExtN.refl H) tabs (fun _ o e => ⟨o, e⟩) (Heap.get?_push_size _ rfl) (I.hok.fresh sz) (new_fr _ sz).1 cobj (Nat.le_trans base_le sz) (new_fr _ sz).2
  | none =>
    refine PySem.W.kla_makeFunction (mg := X.mg) (c := c) (P := P) (ps := ps) (closure_ok caps) I.ok.glob (I.mod.glob.keeps I.bk) here (TB.code.keeps I.bk) realP trip am TB.gP blt fun c' ctv h' tk ext lo hi record tab' => ?_
    obtain ⟨c2, oc, vs, t, e2, hoc, hd, hv⟩ := record
    cases e2
    have sz : s.heap.objs.size ≤ h'.objs.size := Nat.le_trans lo (Nat.le_of_lt hi)
    have newC : H c' = none := I.hok.fresh lo
    obtain ⟨H1, eH1⟩ : ∃ H1, H1 = L2.upd (L2.upd H P (.tbl (ps ++ #[rawInt pos.line, rawInt pos.col, .ref c']))) c' (LamX.CodeO c' (X.env.qual ++ "<lambda>")) := ⟨_, rfl⟩
    have atC : H1 c' = some (LamX.CodeO c' (X.env.qual ++ "<lambda>")) := by rw [eH1]; exact upd_same
    have atP1 : H1 P = some (.tbl (ps ++ #[rawInt pos.line, rawInt pos.col, .ref c'])) := by rw [eH1, upd_ne (ne_of_none atP newC), upd_same]
    have old : ∀ b o, H b = some o → b ≠ P → H1 b = some o := fun b o e n => by rw [eH1, upd_ne (ne_of_none e newC), upd_ne n]; exact e
    have ntP : ∀ b o, H b = some o → (∀ us, o ≠ .tbl us) → b ≠ P := fun b o e n z => by
      rw [z, atP] at e
      cases e
      exact n ps rfl
    have I1 : Inv X pins σ H1 { s with heap := h'.push (PySem.W.kla_obj "<lambda>" (X.env.qual ++ "<lambda>") params body scope (cloFrom X.env.cells scope.names []) ((X.mg "__name__").getD .none) c' ctv), toks := tk } := by
      rw [eH1]
      exact LamX.inv_table (more := #[rawInt pos.line, rawInt pos.col, .ref c']) I atP (fun b o hb e => Heap.get?_push_of_some _ (ext b o hb e)) (Heap.get?_push_of_some _ tab') lo ⟨oc, vs, t, Heap.get?_push_of_some _ hoc, hd, hv⟩
    have eN : LamX.ExtN H H1 := fun b o e n => old b o e (ntP b o e n)
    have nC : ∀ us : Array Value, LamX.CodeO c' (X.env.qual ++ "<lambda>") ≠ .tbl us := fun us => LamX.codeO_ne us
    refine go h'.objs.size c' _ ctv H1 _ I1 eN (fun p hp => ?_) (fun b o e => ?_) (Heap.get?_push_size _ rfl) ?_ (new_fr _ sz).1 atC (Nat.le_trans base_le sz) (new_fr _ sz).2
    · obtain ⟨us, a1, a2, a3⟩ := tabs p hp
      by_cases hb : p.1 = P
      · have en := oneN p hp hb
        rw [en, hb]
        refine ⟨_, atP1, ?_, fun p' cv hcv => ?_⟩
        · rw [Array.toList_append]
          exact PySem.TriplesOk_snoc _ _ _ _ trip
        · rw [Array.toList_append] at hcv
          rcases LamX.among_app _ trip hcv with z | z
          · obtain ⟨c0, e1, e2⟩ := among p' cv z
            exact ⟨c0, e1, eN _ _ e2 fun us => LamX.codeO_ne us⟩
          · exact ⟨c', z, atC⟩
      · refine ⟨us, old _ _ a1 hb, a2, fun p' cv hcv => ?_⟩
        obtain ⟨c0, e1, e2⟩ := a3 p' cv hcv
        exact ⟨c0, e1, eN _ _ e2 fun us => LamX.codeO_ne us⟩
    · by_cases hb : b = P
      · rw [hb]
        exact ⟨_, atP1⟩
      · exact ⟨o, old b o e hb⟩
    · have q : H h'.objs.size = none := I.hok.fresh sz
      rw [eH1, upd_ne (Nat.ne_of_gt hi), upd_ne (fun z => by rw [z, atP] at q; cases q)]
      exact q
/-- the lambda's frame, at its entry: the parameter's slot is p -/
theorem lam_in {A : Around} {outer : List Env} {E : XK} {scope : Scope} {f c' : Addr} {h₁ : Heap} {tk p : Nat} {x : Str} {v : V} {u : Value} (I : Inv X pins σ H s) (L : LamP X.env.scope scope x) (nd : X.N.Nodup) (atp : X.N[p]? = some x) (rv : L2.RelV v u)
    (e0 : Env0 X.prog X.w X.K X.mg X.base A outer s1 HZ) (nohd : A.handled = none) (un : Un (frs X.stack) [] H HZ s.heap s1.heap) (ns : h₁.Ns s1.heap.objs.size fun y => [(x, u)].reverse.lookup y) (kp : ∀ b o, s1.heap.get? b = some o → h₁.get? b = some o) :
    Inv (LamX.lamCx X A outer s1 HZ E scope f c') [] (σ.set p (some v)) HZ { s1 with heap := h₁, toks := tk } := by
  have caps := L.has I.ok
  have back : ∀ {y c}, (cloFrom X.env.cells scope.names []).lookup y = some c → X.env.cells.lookup y = some c := fun {y c} e => by
    rcases cloFrom_mem (PySem.mem_of_lookup e) with hm | ⟨h1, h2⟩
    · exact absurd hm (by simp)
    · obtain ⟨c1, q⟩ := caps _ h1 rfl
      have q : X.env.cells.lookup y = some c1 := q
      rw [q] at h2
      rw [q]
      exact congrArg some h2.symm
  have fwd : ∀ {y}, scope.names.lookup y = some .free → ∃ c, (cloFrom X.env.cells scope.names []).lookup y = some c := fun {y} q =>
    mem_lookup (cloFrom_has (cells := X.env.cells) (acc := []) (PySem.mem_of_lookup q))
  have cellK : ∀ {c : Addr} {v : Option Value}, H c = none → s.heap.IsCell c v → h₁.IsCell c v := fun {c v} n ⟨o, ho, hd⟩ => by
    obtain ⟨sl, q⟩ := un.any ho n (by simp)
    exact ⟨_, kp _ _ q, hd⟩
  have nocell : ∀ y, scope.names.lookup y ≠ some .cell := fun y q => L.own _ (PySem.mem_of_lookup q) rfl
  have pl : p < σ.length := by rw [I.len]; exact (List.getElem?_eq_some_iff.mp atp).1
  have noex : ∀ b : Addr, b ∉ (LamX.lamCx X A outer s1 HZ E scope f c').ex := fun b => List.not_mem_nil
  have Ok1 : (LamX.lamCx X A outer s1 HZ E scope f c').Ok :=
    { mod := e0.mod, kind := L.kind, glob := rfl, blt := rfl, above := Nat.le_refl _, inj := fun y z c e1 e2 => I.ok.inj y z c (back e1) (back e2)
      has := fun y hy => hy.elim (fun z => absurd z (nocell y)) fun z => fwd z
      cab := fun y c z _ => absurd (show false = true from z) (by decide)
      hd := fun _ => nohd, frames := Around.frames_deeper e0.frames, stk := .inr ⟨rfl, rfl⟩, exf := fun b z => absurd z (noex b), bs := e0.bs, bsz := e0.bsz, noex := fun b _ _ => noex b, exfs := fun b z => absurd z (noex b), funs := e0.funs, frf := e0.frf }
  refine { ok := Ok1, os := rfl, bare := e0.bare, base := Un.kept kp, loc := ⟨_, ns, fun i y v' e1 e2 e3 => ?_⟩, cell := fun y c e => ?_, free := e0.hok.fresh (Nat.le_refl _), freeC := fun y c e => ?_, pin := fun q hq => absurd (show q ∈ ([] : List (Addr × Obj)) ++ [] from hq) (by simp), hok := e0.hok.kept kp, len := by rw [List.length_set]; exact I.len }
  · have e1 : X.N[i]? = some y := e1
    have e3 : Vis scope y := e3
    by_cases hi : p = i
    · subst hi
      rw [atp] at e1
      cases e1
      rw [List.getElem?_set_self pl] at e2
      cases e2
      exact ⟨u, rv, .inl ⟨L.par, by simp⟩⟩
    · rw [List.getElem?_set_ne hi] at e2
      have hyx : y ≠ x := fun z => hi (nodup_ix nd atp (by rw [← z]; exact e1))
      rcases e3 with q | q | q
      · exact absurd (L.loc _ (PySem.mem_of_lookup q) rfl) hyx
      · exact absurd q (nocell y)
      · obtain ⟨m, hn, hl⟩ := I.loc
        have cap := L.free _ (PySem.mem_of_lookup q) rfl
        obtain ⟨w', r, z⟩ := hl i y v' e1 e2 (.inr cap)
        obtain ⟨c2, h2⟩ := fwd q
        refine ⟨w', r, .inr ⟨.inr q, c2, h2, ?_⟩⟩
        have h1 := back h2
        rcases z with ⟨z, _⟩ | ⟨_, c3, e', z⟩
        · have z : X.env.scope.names.lookup y = some .local := z
          rcases cap with cap | cap
          · rw [show X.env.scope.names.lookup y = some .cell from cap] at z; cases z
          · rw [show X.env.scope.names.lookup y = some .free from cap] at z; cases z
        · rw [h1] at e'
          cases e'
          exact cellK (I.freeC y _ h1) z
  · obtain ⟨w', z⟩ := I.cell y c (back e)
    exact ⟨w', cellK (I.freeC y c (back e)) z⟩
  · obtain ⟨w', o, ho, hd⟩ := I.cell y c (back e)
    exact un.free c o ho (I.freeC y c (back e)) (by simp)
end
end FL

/-! FL11: min(x, key=lambda y: ..): the walk -/
namespace FL
open PySem PySem.Spec PyProof.Rows L2

def ltP (a b : Int × Int) : Bool := decide (a.1 < b.1) || (a.1 == b.1 && decide (a.2 < b.2))
/-! ### readings that lay nothing -/
def tQ (k : Kx) (m : Ev → Option D) : TE := fun σ H Q => ∃ F Γ st, Ok k F H σ Γ st ∧ ∃ d, m Γ = some d ∧ ∀ v, Rep k F v d → Q v H
def tQs (k : Kx) (m : Ev → Option (List D)) : TA := fun σ H Q => ∃ F Γ st, Ok k F H σ Γ st ∧ ∃ ds, m Γ = some ds ∧ ∀ vs, Reps k F vs ds → Q vs H
section
variable {X : Cx} {k : Kx} {a b e : Expr} {es : List Expr} {ma mb : Ev → Option D} {mr : Ev → Option (List D)} {pos p : Pos} {x : Str}
def nVar (i : Nat) : Ev → Option D := fun Γ => match Γ[i]? with
  | some (some (.dat d)) => some d
  | _ => none
theorem q_var (i : Nat) {x : Str} (hN : X.N[i]? = some x := by rfl) (hv : Vis X.env.scope x := by first | exact Or.inl rfl | exact Or.inr (Or.inl rfl) | exact Or.inr (Or.inr rfl)) (hd : (x == ("__debug__" : Str)) = false := by decide)
    (hcd : (x == ("__classdict__" : Str)) = false := by decide) : PE X (.Name x pos) (tQ k (nVar i)) :=
  PE.weak (pv i hN hv hd hcd) fun σ H Q ⟨F, Γ, st, ok, d, e, w⟩ => by
    unfold nVar at e
    split at e
    · rename_i d' e'
      cases e
      obtain ⟨v, e2, r⟩ := ok.slot i _ e'
      exact ⟨v, e2, w v r⟩
    · cases e
def nIx (ma mb : Ev → Option D) : Ev → Option D := fun Γ => match ma Γ, mb Γ with
  | some (.tup xs), some (.int i) => atI xs i
  | some (.lst xs), some (.int i) => atI xs i
  | _, _ => none
theorem q_ix (ha : PE X a (tQ k ma)) (hb : PE X b (tQ k mb)) (hs : PlainIx b := by exact fun _ _ => rfl) (hk : k.K = X.K := by rfl) : PE X (.Subscript a b pos) (tQ k (nIx ma mb)) :=
  PE.weak (pe_ix ix_seq ha hb hs) fun σ H Q ⟨F, Γ, st, ok, d, e, w⟩ => by
    unfold nIx at e
    split at e
    · rename_i xs i ea eb
      refine ⟨F, Γ, st, ok, _, ea, fun v rv => ⟨F, Γ, st, ok, _, eb, fun u ru => ?_⟩⟩
      cases ru
      cases rv with
      | tup h r =>
        obtain ⟨y, e1, e2⟩ := r.atI e
        rw [hk] at h
        exact .inr (.inl ⟨_, _, _, _, rfl, rfl, sqt_mono ok.sub h, e1, w y e2⟩)
    · rename_i xs i ea eb
      refine ⟨F, Γ, st, ok, _, ea, fun v rv => ⟨F, Γ, st, ok, _, eb, fun u ru => ?_⟩⟩
      cases ru
      cases rv with
      | lst h r =>
        obtain ⟨y, e1, e2⟩ := r.atI e
        exact .inl ⟨_, _, _, _, rfl, rfl, SqL.of (ok.sub _ _ h), e1, w y e2⟩
    · cases e
def nNil : Ev → Option (List D) := fun _ => some []
def nCons (ma : Ev → Option D) (mr : Ev → Option (List D)) : Ev → Option (List D) := fun Γ => match ma Γ, mr Γ with
  | some d, some ds => some (d :: ds)
  | _, _ => none
theorem q_nil : PA X [] (tQs k nNil) := PA.weak pa_nil fun σ H Q ⟨F, Γ, st, ok, ds, e, w⟩ => by
  cases e
  exact w [] .nil
theorem q_cons (ha : PE X a (tQ k ma)) (hr : PA X es (tQs k mr)) (hs : starEach (a :: es) X.env = (false, eval a X.env) :: starEach es X.env := by rfl) : PA X (a :: es) (tQs k (nCons ma mr)) :=
  PA.weak (pa_cons ha hr hs) fun σ H Q ⟨F, Γ, st, ok, ds, e, w⟩ => by
    unfold nCons at e
    split at e
    · rename_i d ds' ea er
      cases e
      exact ⟨F, Γ, st, ok, d, ea, fun v rv => ⟨F, Γ, st, ok, ds', er, fun vs rs => w _ (.cons rv rs)⟩⟩
    · cases e
end
/-! ### the least by keys that are pairs of ints -/
abbrev KM := Ev → Option (List D)
def keysM (mk : KM) (p : Nat) (Γ : Ev) : List D → Option (List (Int × Int))
  | [] => some []
  | d :: r => match mk (Γ.set p (some (.dat d))) with
    | some [.int a, .int b] => (keysM mk p Γ r).map ((a, b) :: ·)
    | _ => none
def btK (ks : List (Int × Int)) (i j : Nat) : Bool := ltP (ks.getD i (0, 0)) (ks.getD j (0, 0))
def gMinKey (mk : KM) (p : Nat) (Γ : Ev) : List D → M D := fun ds st => match ds with
  | [.tup xs] => (match keysM mk p Γ xs with
    | some ks => if xs = [] then .stuck else (match xs[argBest (btK ks) (xs.length - 1)]? with
      | some d => .ok d st
      | none => .stuck)
    | none => .stuck)
  | _ => .stuck
def mMinKey (mr : Ev → M (List D)) (p : Nat) (mk : KM) : EM := fun Γ => do
  let ds ← mr Γ
  gMinKey mk p Γ ds
theorem keysM_get {mk : KM} {p : Nat} {Γ : Ev} : ∀ {xs : List D} {ks : List (Int × Int)}, keysM mk p Γ xs = some ks → ∀ {i : Nat} {d : D}, xs[i]? = some d → mk (Γ.set p (some (.dat d))) = some [.int (ks.getD i (0, 0)).1, .int (ks.getD i (0, 0)).2]
  | [], _, _, i, d, e => by simp at e
  | x :: xs, ks, h, i, d, e => by
    unfold keysM at h
    split at h
    · rename_i a b em
      cases er : keysM mk p Γ xs with
      | none => rw [er] at h; cases h
      | some ks' =>
        rw [er] at h
        cases h
        cases i with
        | zero =>
          simp at e
          subst e
          simpa using em
        | succ i =>
          have q := keysM_get er (i := i) (d := d) (by simpa using e)
          simpa using q
    · cases h

section
variable {X : Cx} {pins : List (Addr × Obj)} {σ : L2.St} {H : Hp} {s : Shared}
/-- the lambda is called with u, from within a built-in: the pair that it lays is not tracked -/
theorem lam_call {scope : Scope} {x : Str} {f c' : Addr} {p j : Nat} {v : V} {u : Value} {params : Arguments} {es : List Expr} {tn : Nat} {tpos : Pos} {pm ctv : Value} {k1 : Int × Int} {Er : Value → Shared → Prop} {tb : TA} (I : Inv X pins σ H s) (L : LamP X.env.scope scope x) (nd : X.N.Nodup) (atp : X.N[p]? = some x) (rv : L2.RelV v u) (room : Room (j + 2) X.A)
    (obj : s.heap.get? f = some (PySem.W.kla_obj "<lambda>" (X.env.qual ++ "<lambda>") params (.Tuple es tn tpos) scope (cloFrom X.env.cells scope.names []) pm c' ctv)) (code : H c' = some (LamX.CodeO c' (X.env.qual ++ "<lambda>")))
    (binds : bindArgs (PySem.W.kla_fn "<lambda>" (X.env.qual ++ "<lambda>") params (.Tuple es tn tpos) scope (cloFrom X.env.cells scope.names []) pm (.ref c') ctv) ⟨[u], []⟩ = pure [(x, u)])
    (bd : PA (LamX.lamCx X X.A.in1 X.stack s H (fun _ _ _ => False) scope f c') es tb) (ht : tb (σ.set p (some v)) H fun vs H1 => vs = [.int k1.1, .int k1.2] ∧ H1 = H) :
    wpAny (model X.prog X.w) X.A.in1 (call (.ref f) [u]) (fun r s' => s'.os = s.os ∧ AllBare s'.gens ∧ Un (frs X.stack) [] H H s.heap s'.heap ∧ HOk X.prog X.w H s'.heap ∧ ∃ ka t1 t2, r = .ref ka ∧ s'.heap.IsTuple ka #[.int k1.1 t1, .int k1.2 t2] ∧ H ka = none ∧ s.heap.objs.size ≤ ka) Er s := by
  obtain ⟨⟨oc, us, t, hoc, hdc, hvc⟩, _, _⟩ := I.hok c' _ code
  have room1 : Room (j + 1) X.A.in1 := Room.in1 room
  have e0 : Env0 X.prog X.w X.K X.mg X.base X.A.in1 X.stack s H := let e := I.env0; ⟨e.frames, e.mod, e.bs, e.bsz, e.funs, e.frf, e.hok, e.bare⟩
  refine wpAny_call ?_
  refine PySem.W.kla_callFunE room1.depth obj rfl L.co L.gen rfl ⟨c', oc, us, t, rfl, hoc, hdc, hvc⟩ ?_
  rw [binds]
  refine wpAny_pure (wpAny_newFunctionEnv (fun y hy => L.own y hy) (fun y hy => by rw [List.mem_singleton.mp hy]; exact L.par) (fun h₁ ns same => ⟨I.nolimit.fresh _ same, ?_⟩) L.kind)
  show codeAny _ _ (.expr (.Tuple es tn tpos) (LamX.lamEnv X scope s.heap.objs.size f c')) _ _
  have kp : ∀ b o, s.heap.get? b = some o → h₁.get? b = some o := fun b o e => same.extBut b o (Nat.ne_of_lt (Heap.lt_size e)) (Heap.get?_push_of_some _ e)
  have J : Inv (LamX.lamCx X X.A.in1 X.stack s H (fun _ _ _ => False) scope f c') [] (σ.set p (some v)) H { s with heap := h₁, toks := s.toks + [(x, u)].length } := lam_in I L nd atp rv e0 room1.hd Un.refl ns kp
  refine PySem.W.kla_codeExpr (wpAny_mono (Q := fun r s' => s'.os = s.os ∧ AllBare s'.gens ∧ Un (frs X.stack) [] H H s.heap s'.heap ∧ HOk X.prog X.w H s'.heap ∧ ∃ ka t1 t2, r = .ref ka ∧ s'.heap.IsTuple ka #[.int k1.1 t1, .int k1.2 t2] ∧ H ka = none ∧ s.heap.objs.size ≤ ka) (E := (LamX.lamCx X X.A.in1 X.stack s H (fun _ _ _ => False) scope f c').xe) ?_ (fun r s' hq => hq) (fun e s' hq => ?_))
  · refine wpAny_Tuple_spliced (thn (bd.run tpos [] _ _ H _ J ht) fun ws s1 ⟨vs, H1, I1, r, q⟩ => ?_)
    obtain ⟨q1, q2⟩ := q
    rw [q1] at r
    rw [q2] at I1
    obtain ⟨u1, u2, ew, ⟨t1, z1⟩, ⟨t2, z2⟩⟩ := vals2 r
    rw [ew, z1, z2]
    have un : Un (frs X.stack) [] H H s.heap s1.heap := I1.base
    have kp2 : ∀ o : Obj, ∀ b ob, s1.heap.get? b = some ob → (s1.heap.push o).get? b = some ob := fun o b ob e => Heap.get?_push_of_some _ e
    refine ⟨(by show 2 ≤ sizeLine; unfold sizeLine; omega), I1.os, I1.bare, un.trans (Un.kept (kp2 _)), I1.hok.kept (kp2 _), _, t1, t2, rfl, ⟨_, Heap.get?_push_size _ rfl, rfl, _, rfl⟩, I1.hok.fresh (Nat.le_refl _), ?_⟩
    exact I1.sz
  · refine wpAny_mono hq (fun _ _ z => ?_) (fun _ _ z => ?_)
    · obtain ⟨_, _, _, _, _, _, _, _, _, _, _, _, z⟩ := z
      exact z.elim
    · obtain ⟨_, _, _, _, _, _, _, _, _, _, _, _, z⟩ := z
      exact z.elim
end
/-- a tuple is walked, its items known up to their marks -/
theorem walks_vals {prog : Program} {w : World} {A : Around} (hh : A.handled = none) (it a : Addr) (hne : a ≠ it) (vs : List V) : WalksS prog w A it [it, a] [it] (fun g g' => g' = g) vs.length (fun i v => ∃ x, vs[i]? = some x ∧ L2.RelV x v)
    (fun i s => s.heap.IsTupleIter it a i ∧ ∃ its : List Value, s.heap.IsTuple a its.toArray ∧ Vals vs its) where
  sub := fun b hb => List.mem_cons.mpr (.inl (List.mem_singleton.mp hb))
  grefl := fun _ => rfl
  gtrans := fun _ _ _ e1 e2 => e2.trans e1
  frame := fun i s h' tk st _ kp => by
    obtain ⟨s1, its, s2, r⟩ := st
    exact ⟨s1.at fun o e => kp it (by simp) o e, its, s2.at fun o e => kp a (by simp) o e, r⟩
  item := fun i s Q E hi st hQ => by
    obtain ⟨s1, its, s2, r⟩ := st
    have sz : its.toArray.size = vs.length := by rw [List.size_toArray, r.length]
    refine (Walks.tuple hh it a hne its.toArray).toS.item i s Q E (by rw [sz]; exact hi) ⟨s1, s2⟩ fun v s' hv st' m => ?_
    have hv : its.toArray[i]? = some v := hv
    obtain ⟨u, e1, e2⟩ := r.get (List.getElem?_eq_getElem hi)
    have ev : v = u := by
      rw [List.getElem?_toArray, e1] at hv
      exact (Option.some.inj hv).symm
    exact hQ v s' ⟨_, List.getElem?_eq_getElem hi, ev ▸ e2⟩ ⟨st'.1, its, st'.2, r⟩ m
  done := fun s Q E st hQ => by
    obtain ⟨s1, its, s2, r⟩ := st
    have sz : its.toArray.size = vs.length := by rw [List.size_toArray, r.length]
    exact (Walks.tuple hh it a hne its.toArray).toS.done s Q E (by rw [sz]; exact ⟨s1, s2⟩) hQ
  self := fun i s Q E st hQ => by
    obtain ⟨s1, its, s2, r⟩ := st
    exact (Walks.tuple hh it a hne its.toArray).toS.self i s Q E ⟨s1, s2⟩ hQ

section
variable {X : Cx} {pins : List (Addr × Obj)} {σ : L2.St} {H : Hp} {s s' : Shared}
theorem inv_moved {S it : Addr} (I : Inv X pins σ H s) (m : Moved [S, it] (fun g g' => g' = g) s s') (nS : H S = none) (nI : H it = none)
    (far : ∀ b ∈ [S, it], X.s_0.heap.objs.size ≤ b ∧ b ≠ X.env.locals ∧ (∀ x c, X.env.cells.lookup x = some c → c ≠ b) ∧ ∀ p ∈ X.pn ++ pins, p.1 ≠ b) : Inv X pins σ H s' := by
  obtain ⟨h', g', d', t', o'⟩ := s'
  have eo : o' = s.os := m.os
  have eg : g' = s.gens := m.gens
  subst eo eg
  have off : ∀ b u, H b = some u → b ∉ [S, it] := fun b u e z => by
    rcases List.mem_cons.mp z with z | z
    · rw [z, nS] at e; cases e
    · rw [List.mem_singleton.mp z, nI] at e; cases e
  refine I.step (ch := [S, it]) (fun b hb => ⟨.inr (far b hb).1, (far b hb).2⟩) (fun b o _ _ nc e _ => m.heap b o nc e) (fun b o _ _ nc e _ => ⟨o.slots, m.heap b o nc e⟩) (fun _ _ _ _ n => n) (fun b o nc e => ⟨o, m.heap b o nc e⟩) (fun _ _ e => e) (fun _ _ _ e => e) (fun b ps e => ⟨#[], by rw [e]; simp⟩) (fun μ hm => ?_) (fun b u e => ?_) I.bare
  · obtain ⟨o, es, ep, ho, r⟩ := hm
    exact ⟨o, es, ep, m.heap _ o (fun z => (far _ z).2.1 rfl) ho, r⟩
  · refine (I.hok b u e).stay (fun c v hc q => m.heap c v ?_ q) (fun _ q => q) fun _ _ q => q
    rcases hc with z | z
    · rw [z]; exact off b u e
    · exact off c _ z
theorem lexPair (a b c d : Int) : Ob.lexAt (fun j => if j = 0 then a == c else b == d) (fun j => if j = 0 then decide (a < c) else decide (b < d)) (decide ((2 : Nat) < 2)) 0 2 = ltP (a, b) (c, d) := by
  unfold ltP
  by_cases h : a = c
  · subst h
    by_cases h2 : b = d
    · subst h2
      simp [Ob.lexAt]
    · simp [Ob.lexAt, h2]
  · by_cases h3 : a < c
    · simp [Ob.lexAt, h, h3]
    · simp [Ob.lexAt, h, h3]
theorem cmp_pair {A : Around} {l b : Addr} {k1 k2 : Int × Int} {t1 t2 t3 t4 : Tok} (hu : A.units < cLine) (h1 : s.heap.IsTuple l #[.int k1.1 t1, .int k1.2 t2]) (h2 : s.heap.IsTuple b #[.int k2.1 t3, .int k2.2 t4]) : Ob.RcOp .Lt A s (.ref l) (.ref b) (ltP k1 k2) := by
  have q := Ob.RcOp.tuples_lt (e := fun j => if j = 0 then k1.1 == k2.1 else k1.2 == k2.2) (r := fun j => if j = 0 then decide (k1.1 < k2.1) else decide (k1.2 < k2.2)) h1 h2 hu (fun j g1 g2 => ?_) (fun j g1 g2 _ => ?_)
  · have e := lexPair k1.1 k1.2 k2.1 k2.2
    rw [← e]
    exact q
  · match j, g1, g2 with
    | 0, _, _ => exact SeqAt.EqAt.int_int _ _ _ _
    | 1, _, _ => exact SeqAt.EqAt.int_int _ _ _ _
    | j + 2, g1, _ => exact absurd g1 (by simp)
  · match j, g1, g2 with
    | 0, _, _ => exact Ob.RcOp.lt_int _ _ _ _
    | 1, _, _ => exact Ob.RcOp.lt_int _ _ _ _
    | j + 2, g1, _ => exact absurd g1 (by simp)
end
section
variable {X : Cx} {k : Kx} {E : XE} {a : Expr} {mr : Ev → M (List D)} {mk : EM} {pos pf kpos lpos : Pos} {x : Str} {p j : Nat} {c P : Addr} {params : Arguments} {body : Expr} {scope : Scope}
theorem step_lam {F H H1 : Hp} {σ : L2.St} {Γ : Ev} {st : DS} (ok : Ok k F H σ Γ st) (eN : LamX.ExtN H H1) (tabs : LamX.Tabs k.T H1) (kept : ∀ b o, H b = some o → ∃ o', H1 b = some o') : Step k F H F H1 st where
  ext := fun _ _ e => e
  stay := fun b o e _ n => eN b o e n
  kept := kept
  nof := fun _ _ _ f => f
  tabs := tabs
  ftbl := ok.ftbl
  sub := fun b o e => eN b o (ok.sub b o e) (ok.ftbl b o e)
  at_ := fun h => ⟨(ok.at_ h).few, eN _ _ (ok.at_ h).dl ltbl, eN _ _ (ok.at_ h).cl ltbl⟩
end
end FL

/-! FL12: min(x, key=lambda y: ..): the rule -/
namespace FL
open PySem PySem.Spec PyProof.Rows L2
section
variable {X : Cx} {k : Kx} {E : XE} {a : Expr} {mr : Ev → M (List D)} {mk : KM} {pos pf kpos lpos tpos : Pos} {x : Str} {p j tn : Nat} {c P : Addr} {params : Arguments} {es : List Expr} {scope : Scope}
theorem bmin : bootBuiltins "min" = some (.builtin "min") := by decide +kernel
theorem e_minKey (hK : k.K = X.K) (nd : X.N.Nodup) (atp : X.N[p]? = some x) (room : Room (j + 2) X.A) (calm : X.calm = true) (hg : Gl X "min") (hm : X.mg "min" = none) (ha : PA X [a] (tA k E mr))
    (TB : LamX.TabB X.base X.mg c P) (here : X.env.code = .ref c) (inT : (P, X.env.qual ++ "<lambda>") ∈ k.T) (oneN : ∀ q ∈ k.T, q.1 = P → q.2 = X.env.qual ++ "<lambda>") (L : LamP X.env.scope scope x) (nodef : defaultsOf params X.env = ([], []))
    (binds : ∀ (q : Str) (cl : List (Str × Addr)) (pm cv ctv u : Value), bindArgs (PySem.W.kla_fn "<lambda>" q params (.Tuple es tn tpos) scope cl pm cv ctv) ⟨[u], []⟩ = pure [(x, u)])
    (he : backTo pos (starEach [a] X.env) = (false, eval a X.env) :: backTo pos (starEach [] X.env)) (hpl : (backTo pos (starEach [a] X.env)).any (·.1) = false)
    (bd : ∀ (A : Around) (outer : List Env) (s : Shared) (H : Hp) (E' : XK) (f c' : Addr), PA (LamX.lamCx X A outer s H E' scope f c') es (tQs k mk)) :
    PE X (.Call (.Name "min" pf) [a] [⟨some "key", .Lambda params (.Tuple es tn tpos) scope lpos, kpos⟩] pos) (tM k E (mMinKey mr p mk)) := by
  refine ⟨fun pins s σ H Q I ⟨F, Γ, st, ok, w⟩ => ?_⟩
  refine wpAny_Call_Name_kw (ld_blt I hg hm bmin ?_ (by decide) (by decide))
  refine PyProof.Rows.callWith_kw (thn (ha.run pos pins s σ H (fun vs H1 => ∃ F1 st1 ds, Ok k F1 H1 σ Γ st1 ∧ Reps k F1 vs ds ∧ Wp k E σ F1 H1 (gMinKey mk p Γ ds st1) (qD k Q)) I (tA.then_ ok w fun vs ds F1 H1 st1 s1 ok1 r1 w1 => ⟨F1, st1, ds, ok1, r1, w1⟩)) fun us s1 ⟨vs, H1, I1, r1, F1, st1, ds, ok1, rr, w1⟩ => ?_) he hpl (by rfl) (by rfl)
  unfold gMinKey at w1
  split at w1
  case h_2 => exact w1.elim
  rename_i xs
  cases ek : keysM mk p Γ xs with
  | none => rw [ek] at w1; exact w1.elim
  | some ks =>
    rw [ek] at w1
    by_cases hx : xs = []
    · simp only [hx, if_true] at w1
      exact w1.elim
    · simp only [hx, if_false] at w1
      cases ed : xs[argBest (btK ks) (xs.length - 1)]? with
      | none => rw [ed] at w1; exact w1.elim
      | some best =>
        rw [ed] at w1
        cases rr with
        | cons rh rt =>
        cases rt
        cases rh with
        | @tup ad ws _ ht rw_ _ =>
          refine PyProof.Rows.kws_cons (lam_mk I1 TB here inT oneN ok1.tabs nodef (L.has I1.ok) fun f c' pm ctv H2 s2 I2 eN tabs kept obj nf nfr cobj above nloc => PyProof.Rows.kws_nil ?_)
          have st2 := step_lam ok1 eN tabs kept
          have ok2 := ok1.step st2
          have eu : us = [Value.ref ad] := vals_ref1 r1
          subst eu
          rw [hK] at ht
          obtain ⟨its, rv, it0, _⟩ := I2.tuple (sqt_mono ok2.sub ht)
          refine call_min_walkK (wpAny_pyIter_tuple it0 ?_)
          have ge : ∀ b ∈ [s2.heap.objs.size + 1, s2.heap.objs.size], s2.heap.objs.size ≤ b := fun b hb => by
            rcases List.mem_cons.mp hb with z | z
            · exact Nat.le_of_lt (Nat.lt_of_lt_of_eq (Nat.lt_succ_self _) z.symm)
            · exact Nat.le_of_eq (List.mem_singleton.mp z).symm
          have far : ∀ b ∈ [s2.heap.objs.size + 1, s2.heap.objs.size], X.s_0.heap.objs.size ≤ b ∧ b ≠ X.env.locals ∧ (∀ x c, X.env.cells.lookup x = some c → c ≠ b) ∧ ∀ p ∈ X.pn ++ pins, p.1 ≠ b := by
            intro b hb
            have hb := ge b hb
            refine ⟨Nat.le_trans I2.sz hb, fun z => ?_, fun y c e z => ?_, fun q hq z => ?_⟩
            · exact Nat.lt_irrefl _ (Nat.lt_of_lt_of_le I2.lt (by rw [← z]; exact hb))
            · obtain ⟨v, o, ho, _⟩ := I2.cell y c e
              exact Nat.lt_irrefl _ (Nat.lt_of_lt_of_le (Heap.lt_size ho) (by rw [z]; exact hb))
            · exact Nat.lt_irrefl _ (Nat.lt_of_lt_of_le (Heap.lt_size (I2.pin q hq).1) (by rw [z]; exact hb))
          have nfs : ∀ b, s2.heap.objs.size ≤ b → b ∉ frs X.stack := fun b hb z => by
            rcases List.mem_cons.mp (I2.stkSub _ z) with e | e
            · exact Nat.lt_irrefl _ (Nat.lt_of_lt_of_le I2.lt (by rw [← e]; exact hb))
            · exact I2.nofs hb e
          have ada : ad < s2.heap.objs.size := by obtain ⟨o, ho, _⟩ := it0; exact Heap.lt_size ho
          have szS : (s2.heap.push { cls := .type "tuple_iterator", data := .fields #[.ref ad, .int 0 0] }).objs.size = s2.heap.objs.size + 1 := Heap.size_push _ _
          have freshS : H2 (s2.heap.objs.size + 1) = none := I2.hok.fresh (Nat.le_succ _)
          have freshI : H2 s2.heap.objs.size = none := I2.hok.fresh (Nat.le_refl _)
          refine ⟨s2.heap.objs.size, [s2.heap.objs.size, ad], [s2.heap.objs.size], (fun g g' => g' = g), ws.length, (fun i v => ∃ x, ws[i]? = some x ∧ L2.RelV x v),
            (fun i s => s.heap.IsTupleIter s2.heap.objs.size ad i ∧ ∃ its : List Value, s.heap.IsTuple ad its.toArray ∧ Vals ws its),
            (fun t => Inv X pins σ H2 t ∧ t.heap.get? f = some (PySem.W.kla_obj "<lambda>" (X.env.qual ++ "<lambda>") params (.Tuple es tn tpos) scope (cloFrom X.env.cells scope.names []) pm c' ctv)),
            (fun i kx t => ∃ ka t1 t2, kx = .ref ka ∧ t.heap.IsTuple ka #[.int (ks.getD i (0, 0)).1 t1, .int (ks.getD i (0, 0)).2 t2] ∧ H2 ka = none ∧ s2.heap.objs.size + 1 < ka), btK ks, rfl, walks_vals (A := X.A.in1) (I2.ok.hd calm) _ ad (Nat.ne_of_lt ada) ws, ?_, ?_, ?_, ?_, ?_, ?_⟩
          · exact ⟨⟨_, Heap.get?_push_size _ rfl, rfl, rfl⟩, its, let ⟨o, ho, r⟩ := it0; ⟨o, Heap.get?_push_of_some _ ho, r⟩, rv⟩
          · intro b hb
            show b < (s2.heap.push _).objs.size
            rw [szS]
            rcases List.mem_cons.mp hb with z | z
            · rw [z]; exact Nat.lt_succ_self _
            · rw [List.mem_singleton.mp z]; exact Nat.lt_succ_of_lt ada
          · rw [rw_.length]
            exact List.length_pos_iff.mpr hx
          · show KeyRun X.prog X.w X.A.in1 (.ref f) .Lt (s2.heap.push _).objs.size _ _ _ _ _ _ _ _
            rw [szS]
            have nin : f ∉ [s2.heap.objs.size + 1, s2.heap.objs.size] := fun z => by
              have h1 := Heap.lt_size obj
              exact Nat.lt_irrefl _ (Nat.lt_of_lt_of_le h1 (ge f z))
            refine ⟨fun t t' ⟨q2, q5⟩ m => ?_, fun i kx t t' ⟨ka, t1, t2, e1, e2, e3, e4⟩ m => ?_, fun i v t o Q' E' hi hP ⟨q2, q5⟩ hst hS hQ => ?_, fun i jj ki kj t Q' E' hJ ⟨ka, t1, t2, e1, e2, e3, e4⟩ ⟨kb, t3, t4, g1, g2, g3, g4⟩ hQ => ?_⟩
            · exact ⟨inv_moved q2 m freshS freshI far, m.heap f _ nin q5⟩
            · refine ⟨ka, t1, t2, e1, let ⟨o, ho, r⟩ := e2; ⟨o, m.heap ka o (fun z => ?_) ho, r⟩, e3, e4⟩
              have z : ka ∈ [s2.heap.objs.size + 1, s2.heap.objs.size] := z
              rcases List.mem_cons.mp z with z | z
              · exact Nat.lt_irrefl _ (Nat.lt_of_lt_of_eq e4 z)
              · exact Nat.lt_irrefl _ (Nat.lt_trans (Nat.lt_succ_self _) (Nat.lt_of_lt_of_eq e4 (List.mem_singleton.mp z)))
            · obtain ⟨y, e1, e2⟩ := hP
              obtain ⟨d, d1, d2⟩ := rw_.get e1
              have hk := keysM_get ek d1
              have ltS : s2.heap.objs.size + 1 < t.heap.objs.size := Heap.lt_size hS
              refine wpAny_mono (lam_call (k1 := ks.getD i (0, 0)) q2 L nd atp e2 room q5 cobj (binds _ _ _ _ _ _) (bd _ _ _ _ _ _ _) ⟨F1, Γ.set p (some (.dat d)), st1, ok2.upd (Upd.set ok2.len d2), _, hk, fun vs rs => ?_⟩) (fun r t' hr => ?_) fun _ _ z => z
              · cases rs with
                | cons r1 rs =>
                  cases r1
                  cases rs with
                  | cons r2 rs =>
                    cases r2
                    cases rs
                    exact ⟨rfl, rfl⟩
              · obtain ⟨os, bare, un, hok, ka, t1, t2, er, ik, nk, gk⟩ := hr
                subst er
                have I' : Inv X pins σ H2 t' := q2.call' (ch := []) os un hok bare (fun b z => absurd z List.not_mem_nil)
                have atS := un.keep _ o hS freshS (nfs _ (Nat.le_succ _)) List.not_mem_nil
                obtain ⟨⟨oi, oi1, oi2⟩, _, _, _⟩ := hst
                have atI := un.keep _ oi oi1 freshI (nfs _ (Nat.le_refl _)) List.not_mem_nil
                have atf := un.keep f _ q5 nf nfr List.not_mem_nil
                obtain ⟨its2, rv2, it2, _⟩ := I'.tuple (sqt_mono ok2.sub ht)
                refine hQ _ t' ⟨I', atf⟩ ⟨⟨oi, atI, oi2⟩, its2, it2, rv2⟩ atS ⟨ka, t1, t2, rfl, ik, nk, by omega⟩ fun i' k' ⟨kc, t3, t4, w1, ⟨o3, w2, w2'⟩, w3, w4⟩ => ?_
                exact ⟨kc, t3, t4, w1, ⟨o3, un.keep _ o3 w2 w3 (nfs _ (by omega)) List.not_mem_nil, w2'⟩, w3, w4⟩
            · subst e1 g1
              have hu : X.A.in1.units < cLine := by have := room.un; show X.A.units + 1 < _; omega
              exact cmp_pair hu e2 g2 _ _ _ _ hQ
          · exact ⟨I2.kept fun b o e => Heap.get?_push_of_some _ e, Heap.get?_push_of_some _ obj⟩
          · intro v t hP ⟨q2, _⟩
            obtain ⟨y, e1, e2⟩ := hP
            obtain ⟨d, d1, d2⟩ := rw_.get e1
            rw [rw_.length] at d1
            rw [d1] at ed
            cases ed
            exact ⟨y, H2, q2, e2, w1 F1 H2 st2 y d2⟩
end
end FL

/-! FL13: sorted(..) of data -/
namespace FL
open PySem PySem.Spec PyProof.Rows L2
section
variable {prog : Program} {w : World} {A : Around} {E : Value → Shared → Prop} {s : Shared}
theorem call_tup_lt {Q : Value → Shared → Prop} {l b : Addr} {xs ys : Array Value} {e r : Nat → Bool} (hl : s.heap.IsTuple l xs) (hb : s.heap.IsTuple b ys)
    (he : ∀ j (h1 : j < xs.size) (h2 : j < ys.size), SeqAt.EqAt A.in1 s xs[j] ys[j] (e j)) (hr : ∀ j (h1 : j < xs.size) (h2 : j < ys.size), e j = false → SeqAt.RcLt A.in1 s xs[j] ys[j] (r j))
    (h : Q (.bool (SeqAt.firstLt e r (decide (xs.size < ys.size)) (List.range (min xs.size ys.size)))) s) : wpAny (model prog w) A (call (.builtin "tuple.__lt__") [.ref l, .ref b]) Q E s := by
  obtain ⟨⟨c1, d1, t1, s1⟩, g1, q1, n1, z1⟩ := id hl
  obtain ⟨⟨c2, d2, t2, s2⟩, g2, q2, n2, z2⟩ := id hb
  simp only at q1 z1 q2 z2
  subst q1 z1 q2 z2
  exact call_meets F.slot_tuple_lt ⟨_, g1, rfl⟩ F.entry_tuple_lt (F.args_tuple_lt_2 _ _) (SeqAt.tuple_ltAt l b xs ys n1 n2 d1 d2 s1 s2 e r) ⟨g1, g2, he, hr, h⟩
theorem one_tups {xs ys : List PyData} {a b : Value} {as bs : List Addr} {Q : Bool → Shared → Prop} (ra : Reads s.heap a (.tuple xs) as) (rb : Reads s.heap b (.tuple ys) bs) (h : PySem.W.alikeAll xs ys = true)
    (hu : A.units + min (PyData.tuple xs).depth (PyData.tuple ys).depth < cLine) (hq : Q (PySem.W.dataLt (.tuple xs) (.tuple ys)) s) : wpAny (model prog w) A (oneLt' true a b) Q E s := by
  cases ra with
  | @tuple l o vs n _ a1 h1 h2 h3 h4 =>
    cases rb with
    | @tuple l' o' vs' n' _ b1 k1 k2 k3 k4 =>
      have z1 : vs.size = xs.length := by simpa using SeqAt.ReadsAll.length _ _ _ h4
      have z2 : vs'.size = ys.length := by simpa using SeqAt.ReadsAll.length _ _ _ k4
      rw [PySem.W.dataLt_tuple, ← PySem.W.firstLt_toks xs ys h, ← z1, ← z2] at hq
      rw [oneLt'_eq, if_pos rfl]
      refine wpAny_bind (wpAny_cRoomFor (SeqAt.room_here hu) ?_)
      refine wpAny_bind (wpAny_callSpecialIfBound?_slot (T := "tuple") ⟨_, h1, h2⟩ F.slot_tuple_lt (call_tup_lt (e := SeqAt.pairEq xs ys) (r := fun j => PySem.W.dataLt (xs.getD j .none) (ys.getD j .none)) ⟨_, h1, h2, _, h3⟩ ⟨_, k1, k2, _, k3⟩ (fun j j1 j2 => ?_) (fun j j1 j2 hj => ?_) (wpAny_truthy_bool hq)))
      · have q := PySem.W.eqAt_alikeAll xs ys A.in1 s vs.toList vs'.toList _ _ h4 k4 h (SeqAt.room_in hu) j (by simpa using j1) (by simpa using j2)
        simpa using q
      · have q := PySem.W.rcLt_alikeAll xs ys A.in1 s vs.toList vs'.toList _ _ h4 k4 h (SeqAt.room_in hu) j (by simpa using j1) (by simpa using j2) hj
        simpa using q
end

section
variable {M : Model} {A : Around} {E : Value → Shared → Prop} {s : Shared}
open PySem.W (EachIs Looks)
theorem firsts_opt : ∀ {vs : List Value} {xss : List (Array Value)} {Q : List (Option Value) → Shared → Prop}, EachIs (fun v xs => ∃ a, v = Value.ref a ∧ s.heap.IsTuple a xs) vs xss → Q (xss.map fun xs => xs[0]?) s → wpAny M A (vs.mapM firstOfTuple') Q E s
  | [], [], _, _, h => by rw [List.mapM_nil]; exact wpAny_pure h
  | v :: vs, xs :: xss, Q, .cons hv t, h => by
    obtain ⟨a, e, ⟨c1, d1, t1, s1⟩, g1, q1, n1, z1⟩ := hv
    simp only at q1 z1
    subst e q1 z1
    rw [List.mapM_cons]
    refine wpAny_bind ?_
    rw [PySem.W.kas_first_eq]
    refine wpAny_bind (Looks.here (show Looks M s.heap (typeOf (.ref a)) (.type "tuple") from (Looks.ld g1).andThen .now) ?_)
    rw [if_neg (by first | decide | simp)]
    refine wpAny_bind (listItems_at g1 rfl (wpAny_pure ?_))
    exact wpAny_bind (firsts_opt (Q := fun r s' => wpAny M A (pure (xs[0]? :: r)) Q E s') t (wpAny_pure h))
/-- tuples, the first of them empty -/
theorem kind_mixed {vs : List Value} {xss : List (Array Value)} {Q : SortKind → Shared → Prop} (t : EachIs (fun v xs => ∃ a, v = Value.ref a ∧ s.heap.IsTuple a xs) vs (#[] :: xss)) (h : Q oneType' s) : wpAny M A (keyKind' vs.toArray) Q E s := by
  rw [kat_kind_eq, List.mapM_toArray, map_eq_pure_bind]
  refine wpAny_bind (wpAny_bind (firsts_opt t (wpAny_pure ?_)))
  have n1 : ((((#[] :: xss).map fun xs : Array Value => xs[0]?)).toArray.all fun x => x.isSome) = false := by simp
  rw [n1]
  simp only [Bool.false_eq_true, if_false]
  have n2 : (((((#[] :: xss).map fun xs : Array Value => xs[0]?)).toArray[0]?.bind id).isSome) = false := by simp
  rw [n2]
  simp only [Bool.false_eq_true, if_false]
  rw [oneTypeOnly'_eq, List.mapM_toArray, map_eq_pure_bind]
  have ty : ∀ v ∈ vs, ∀ (Q' : Value → Shared → Prop), Q' (.type "tuple") s → wpAny M A (typeOf v) Q' E s := fun v hv Q' hq => by
    obtain ⟨xs, _, a, e, o, g1, q1, _⟩ := t.left v hv
    subst e
    exact Looks.here (show Looks M s.heap (typeOf (.ref a)) o.cls from (Looks.ld g1).andThen .now) (by rw [q1]; exact hq)
  refine wpAny_bind (wpAny_bind (wpAny_bind (PySem.W.kas_mapM (r := .type "tuple") _ (fun v hv Q' hq => ty v hv Q' hq) (wpAny_pure ?_))))
  cases t with
  | cons h1 t =>
    rename_i v vs
    have all : ((List.map (fun _ => Value.type "tuple") (v :: vs)).toArray.all fun x => x == Value.type "tuple") = true := by
      simp only [List.all_toArray, List.all_map, List.all_eq_true]
      intro _ _
      exact beq_self_eq_true _
    have h0 : (List.map (fun _ => Value.type "tuple") (v :: vs)).toArray[0]? = some (Value.type "tuple") := by simp
    rw [h0]
    simp only [all, if_true]
    exact wpAny_pure (wpAny_pure h)
end

section
variable {prog : Program} {w : World} {A : Around} {s : Shared}
open PySem.W (EachIs SortsAt AllAlike)
theorem sorts_mixed {vs : List Value} {ds : List PyData} (e : EachIs (fun v d => ∃ as, Reads s.heap v d as) vs (.tuple [] :: ds)) (al : AllAlike (.tuple [] :: ds)) (ht : ∀ d ∈ PyData.tuple [] :: ds, ∃ xs, d = .tuple xs) (hu : ∀ d ∈ PyData.tuple [] :: ds, A.units + d.depth < cLine) :
    SortsAt prog w A s (PySem.W.dataKind s.heap (.tuple [] :: ds)) vs := by
  refine ⟨fun v hv => ?_, oneType', fun E x y a b Q ha hb hq => ?_, fun _ E Q hq => ?_⟩
  · obtain ⟨d, hd, as, r⟩ := e.left v hv
    exact ⟨_, PySem.W.dataKind_some al hd r⟩
  · obtain ⟨d, as, hd, ra, rfl⟩ := PySem.W.dataKind_inv ha
    obtain ⟨d', as', hd', rb, rfl⟩ := PySem.W.dataKind_inv hb
    obtain ⟨xs, rfl⟩ := ht d hd
    obtain ⟨ys, rfl⟩ := ht d' hd'
    rw [keyLt'_oneType]
    exact one_tups ra rb (by simpa [PySem.W.alike] using al _ hd _ hd') (Nat.lt_of_le_of_lt (Nat.add_le_add_left (Nat.min_le_left _ _) _) (hu _ hd)) hq
  · have tups : ∀ {vs : List Value} {ds : List PyData}, EachIs (fun v d => ∃ as, Reads s.heap v d as) vs ds → (∀ d ∈ ds, ∃ xs, d = .tuple xs) → ∃ xss, EachIs (fun v xs => ∃ a, v = Value.ref a ∧ s.heap.IsTuple a xs) vs xss ∧ (∀ r, ds = .tuple [] :: r → ∃ r', xss = #[] :: r') := by
      intro vs ds e
      induction e with
      | nil => exact fun _ => ⟨[], .nil, fun r z => by cases z⟩
      | @cons v d vs ds h t ih =>
        intro ht
        obtain ⟨xss, h1, _⟩ := ih fun d hd => ht d (List.mem_cons_of_mem _ hd)
        obtain ⟨xs, rfl⟩ := ht d List.mem_cons_self
        obtain ⟨as, r⟩ := h
        cases r with
        | @tuple l o us n _ a1 q1 q2 q3 q4 =>
          refine ⟨us :: xss, .cons ⟨l, rfl, o, q1, q2, n, q3⟩ h1, fun r z => ?_⟩
          have z1 : xs = [] := by
            have := (List.cons.inj z).1
            simpa using this
          subst z1
          have z2 : us.size = 0 := by simpa using SeqAt.ReadsAll.length _ _ _ q4
          have z3 : us = #[] := Array.size_eq_zero_iff.mp z2
          exact ⟨xss, by rw [z3]⟩
    obtain ⟨xss, h1, h2⟩ := tups e ht
    obtain ⟨r', e2⟩ := h2 ds rfl
    subst e2
    exact kind_mixed h1 hq
end
/-! ### the rule -/
def isTupD : D → Bool
  | .tup _ => true
  | _ => false
def fullTupD : D → Bool
  | .tup (_ :: _) => true
  | _ => false
def headNil : List D → Bool
  | .tup [] :: _ => true
  | _ => false
def othersD : D → Bool
  | .non => false
  | .tup _ => false
  | .ltp _ => false
  | _ => true
def sortOk (xs : List D) : Bool := D.plains xs && (xs.all fun a => xs.all fun b => PySem.W.alike a.py b.py) && (xs.all fullTupD || xs.all othersD || (headNil xs && xs.all isTupD)) && (xs.all fun a => decide (a.py.depth ≤ 60)) && decide (xs.length ≤ sizeLine)
def sortD (xs : List D) : List D := xs.mergeSort (PySem.W.dataLe false D.py)
section
variable {X : Cx} {k : Kx}
open PySem.W (EachIs)
def rSortD (X : Cx) : List V → Hp → VK → Prop := fun vs H Q => ∃ (k : Kx) (F : Hp) (a : Addr) (xs : List V) (bs : List D), k.K = X.K ∧ Same F H ∧ Same k.B H ∧ vs = [.ref a] ∧ SqL X.K H a xs ∧ Reps k F xs bs ∧ sortOk bs = true ∧ ∀ ys p, Reps k F ys (sortD bs) → H p = none → Q (.ref p) (L2.upd H p (.lst ys))
theorem each_out {F : Hp} : ∀ {out : List Value} {bs : List D}, EachIs (fun v b => ∃ x, L2.RelV x v ∧ Rep k F x b) out bs → ∃ ws, Vals ws out ∧ Reps k F ws bs
  | [], [], .nil => ⟨[], .nil, .nil⟩
  | _ :: _, _ :: _, .cons ⟨x, h1, h2⟩ t => let ⟨ws, q1, q2⟩ := each_out t; ⟨x :: ws, .cons h1 q1, .cons h2 q2⟩
theorem each_in {F : Hp} : ∀ {its : List Value} {xs : List V} {bs : List D}, Vals xs its → Reps k F xs bs → EachIs (fun v b => ∃ x, L2.RelV x v ∧ Rep k F x b) its bs
  | _, _, _, .nil, .nil => .nil
  | _, _, _, .cons h t, .cons r rs => .cons ⟨_, h, r⟩ (each_in t rs)
theorem cr_sortD (hu : X.A.units + 80 < cLine) : CallR X (.builtin "sorted") (rSortD X) := by
  intro pins s σ H vs us Q I r ⟨k, F, a, xs, bs, hk, sF, sB, e, hs, rr, ok, q⟩
  subst e
  obtain ⟨its, rv, hl, hz⟩ := I.list hs
  rw [vals_ref1 r]
  unfold sortOk at ok
  simp only [Bool.and_eq_true, Bool.or_eq_true, List.all_eq_true, decide_eq_true_eq] at ok
  obtain ⟨⟨⟨⟨pl, al⟩, kind⟩, dp⟩, len⟩ := ok
  have pl : ∀ b ∈ bs, b.plain = true := by rw [D.plains_all, List.all_eq_true] at pl; exact pl
  have ei := each_in rv rr
  have er : EachIs (fun v b => ∃ as, Reads s.heap v (D.py b) as) its bs := (PySem.W.each_mem ei).mono fun v b ⟨⟨x, h1, h2⟩, hb⟩ => by
    exact Dp.reads I _ _ _ (hk ▸ h2.dp sF sB (pl b hb)) h1
  have all : PySem.W.AllAlike (bs.map D.py) := fun d hd d' hd' => by
    obtain ⟨b, hb, e⟩ := List.mem_map.mp hd
    obtain ⟨b', hb', e'⟩ := List.mem_map.mp hd'
    subst e e'
    exact al b hb b' hb'
  have fin : ∀ out : List Value, out.length = bs.length → EachIs (fun v b => ∃ x, L2.RelV x v ∧ Rep k F x b) out (sortD bs) → EP X pins σ Q (.ref (s.heap.objs.size + 1)) { s with heap := sortedAll s.heap its (List.toArray out) } := fun out lo eo => by
    obtain ⟨ws, q1, q2⟩ := each_out eo
    obtain ⟨ep, he⟩ := sortedAll_at s.heap its (List.toArray out)
    refine ⟨.ref _, L2.upd H (s.heap.objs.size + 1) (.lst ws), I.laid (t' := s.toks) (fun _ _ => sortedAll_old) (Nat.le_succ _) ⟨?_, out, ep, q1, he⟩, rfl, q ws _ q2 (I.hok.fresh (Nat.le_succ _))⟩
    rw [q1.length, lo]
    exact len
  have hu' : ∀ b, b ∈ bs → X.A.units + 2 + (D.py b).depth < cLine := fun b hb => by have := dp b hb; omega
  have er' : EachIs (fun v b => ∃ as, Reads (PySem.W.sortingHeap (PySem.W.copyHeap s.heap its) (s.heap.objs.size + 1) its) v (D.py b) as) its bs := er.mono fun _ _ ⟨as, r⟩ => ⟨as, PyProof.Rows.Reads.keeps (fun _ _ => PySem.W.sorting_copy_old) r⟩
  rcases kind with (hk1 | hk2) | ⟨h0, h1⟩
  · refine PySem.W.sorted_data (enc := D.py) hl.isList ei er all (.inl fun d hd => ?_) len hu' fin
    obtain ⟨b, hb, e⟩ := List.mem_map.mp hd
    subst e
    have z := hk1 b hb
    unfold fullTupD at z
    split at z
    · rw [D.py, D.pys]; exact ⟨_, _, rfl⟩
    · cases z
  · refine PySem.W.sorted_data (enc := D.py) hl.isList ei er all (.inr fun d hd => ?_) len hu' fin
    obtain ⟨b, hb, e⟩ := List.mem_map.mp hd
    subst e
    have z := hk2 b hb
    have p := pl b hb
    cases b with
    | non => cases z
    | tup _ => cases z
    | ltp _ => cases z
    | deal => simp [D.plain] at p
    | ins _ _ _ => simp [D.plain] at p
    | set _ => simp [D.plain] at p
    | dic _ _ => simp [D.plain] at p
    | dct _ _ => simp [D.plain] at p
    | _ => rw [D.py]; exact ⟨by simp, fun _ q => by cases q⟩
  · have hd0 : ∃ r, bs.map D.py = .tuple [] :: r := by
      unfold headNil at h0
      split at h0
      · exact ⟨_, by rw [List.map_cons, D.py, D.pys]⟩
      · cases h0
    obtain ⟨r0, e0⟩ := hd0
    have tups : ∀ d ∈ bs.map D.py, ∃ xs, d = .tuple xs := fun d hd => by
      obtain ⟨b, hb, e⟩ := List.mem_map.mp hd
      subst e
      have z := h1 b hb
      unfold isTupD at z
      split at z
      · rw [D.py]; exact ⟨_, rfl⟩
      · cases z
    have em := PySem.W.each_map (R := fun v d => ∃ as, Reads (PySem.W.sortingHeap (PySem.W.copyHeap s.heap its) (s.heap.objs.size + 1) its) v d as) D.py er'
    have sa : PySem.W.SortsAt X.prog X.w X.A.in1.in1 { s with heap := PySem.W.sortingHeap (PySem.W.copyHeap s.heap its) (s.heap.objs.size + 1) its } (PySem.W.dataKind (PySem.W.sortingHeap (PySem.W.copyHeap s.heap its) (s.heap.objs.size + 1) its) (bs.map D.py)) its := by
      have bd : ∀ d ∈ bs.map D.py, X.A.in1.in1.units + d.depth < cLine := fun d hd => by
        obtain ⟨b, hb, e⟩ := List.mem_map.mp hd
        subst e
        exact hu' b hb
      rw [e0] at em all tups bd ⊢
      exact sorts_mixed (s := { s with heap := PySem.W.sortingHeap (PySem.W.copyHeap s.heap its) (s.heap.objs.size + 1) its }) em all tups bd
    exact PySem.W.sorted_vals hl.isList sa (by rw [← rv.length]; exact hz) (fin _ (by rw [PySem.W.sortVals_length false rfl]; exact ei.length) (PySem.W.sortVals_data false ei er' all))
def gSorted : List D → M (List D) := fun ds st => match ds with
  | [d] => (match asL d with
    | some xs => if sortOk xs then .ok (sortD xs) st else .stuck
    | none => .stuck)
  | _ => .stuck
theorem c_sorted (hu : X.A.units + 80 < cLine) (hk : k.K = X.K := by rfl) : CallO X k (.builtin "sorted") gSorted :=
  ⟨_, cr_sortD hu, fun {E σ F H Γ st vs ds Q} ok r w => by
    unfold gSorted at w
    split at w
    · split at w
      · rename_i d xs ex
        split at w
        · rename_i hs
          match vs, r with
          | [_], .cons rh .nil =>
            obtain ⟨a, ws, e, rs, sd⟩ := asL_use rh ex
            subst e
            exact ⟨k, F, a, ws, xs, hk, ok.sub, ok.bsub, rfl, SqL.of (sd.now ok), rs, hs, fun ys p ry np => w _ _ (ok.new' np) p _ upd_same (ok.fnone np) np ry⟩
        · exact w.elim
      · exact w.elim
    · exact w.elim⟩
end
end FL

/-! FL14: enumerate of a tuple, x[::-1], sorted(set(..)) of ints, [..] * n as one's own -/
namespace PySem
open Sem (wp)
open AutoSeq1 (wpAny_loadPart')
theorem fl_enum_tup (t : Addr) (items : Array Value) (n : Nat) (dct : Option Addr) (sl : Array (Option Value)) :
    Meets (Builtin.«enumerate.__new__» ⟨[.type "enumerate", .ref t], []⟩) (fun _ R s => s.heap.get? t = some { cls := .type "tuple", dict := dct, data := .seq items n, slots := sl } ∧
      R (.ok (.ret (.ref (s.heap.push { cls := .type "tuple_iterator", data := .fields #[.ref t, .int 0 0] }).objs.size)))
        { s with heap := (s.heap.push { cls := .type "tuple_iterator", data := .fields #[.ref t, .int 0 0] }).push { cls := .type "enumerate", data := .fields #[.none, .bool false, .ref s.heap.objs.size, rawInt 0, .none, .none] } }) :=
  .of_wp fun prog w A R s ⟨at_, fin⟩ => by
    obtain ⟨hp, gs, dr, tk, os⟩ := s
    have sube := sub_enumerate
    have tup : Heap.IsTuple (Shared.heap ⟨hp, gs, dr, tk, os⟩) t items := ⟨_, at_, rfl, n, rfl⟩
    wp_walk using wpAny_loadPart' at_
    refine wpAny_stack_any fun stk => (wpAny_pure ?_)
    split
    · rename_i c _ _ _ _ _
      cases (c == Value.type "enumerate") <;> (wp_walk using wpAny_loadPart' at_, wpAny_pyIter_tuple tup) <;> exact ⟨_, rfl, fin⟩
    · wp_walk using wpAny_loadPart' at_, wpAny_pyIter_tuple tup
      exact ⟨_, rfl, fin⟩
section
variable {prog : Program} {w : World} {A : Around} {E : Value → Shared → Prop} {s : Shared}
theorem fl_call_enum_tup {t : Addr} {items : Array Value} {Q : Value → Shared → Prop} (tup : s.heap.IsTuple t items)
    (go : ∀ h', IsEnum h' (s.heap.objs.size + 1) s.heap.objs.size 0 .none → h'.IsTupleIter s.heap.objs.size t 0 → (∀ b o, s.heap.get? b = some o → h'.get? b = some o) → Q (.ref (s.heap.objs.size + 1)) { s with heap := h' }) :
    wpAny (model prog w) A (call (.type "enumerate") [.ref t]) Q E s := by
  obtain ⟨⟨c, dct, dt, sl⟩, at_, e1, n, e2⟩ := tup
  simp only at e1 e2
  subst e1 e2
  refine callType_new F.called_enumerate (by decide) (F.typeCall_enumerate_1 _) (F.newCall_enumerate_1 _) (fun ob => F.args_object_init_2 ob _) F.entry_enumerate_new (fl_enum_tup t items n dct sl) ⟨at_, ?_⟩
  have z : (s.heap.push { cls := .type "tuple_iterator", data := .fields #[.ref t, .int 0 0] }).objs.size = s.heap.objs.size + 1 := Heap.size_push ..
  show _ ∧ _
  rw [z]
  have en : IsEnum ((s.heap.push { cls := .type "tuple_iterator", data := .fields #[.ref t, .int 0 0] }).push { cls := .type "enumerate", data := .fields #[.none, .bool false, .ref s.heap.objs.size, rawInt 0, .none, .none] }) (s.heap.objs.size + 1) s.heap.objs.size 0 .none := by
    have q := Heap.get?_push_size (s.heap.push { cls := .type "tuple_iterator", data := .fields #[.ref t, .int 0 0] }) (o := { cls := .type "enumerate", data := .fields #[.none, .bool false, .ref s.heap.objs.size, rawInt 0, .none, .none] }) rfl
    rw [z] at q
    exact q
  exact ⟨⟨_, en, rfl⟩, go _ en ⟨_, Heap.get?_push_of_some _ (Heap.get?_push_size _ rfl), rfl, rfl⟩ fun b o x => Heap.get?_push_of_some _ (Heap.get?_push_of_some _ x)⟩
end
end PySem
namespace FL
open PySem PySem.Spec PyProof.Rows L2 RZ
/-! ### for i, x in enumerate(t) -/
def IteT (K : PySem.W.Frag) (a : Addr) : It :=
  ⟨fun i H => ∃ (xs : List V) (x : V), SqT K H a xs ∧ xs[i]? = some x, fun i H v H' => ∃ T x, v = .ref T ∧ H T = none ∧ H' = L2.upd H T (.tup [.int (i : Nat), x]) ∧ ∀ xs, SqT K H a xs → xs[i]? = some x, fun i H => ∃ xs : List V, SqT K H a xs ∧ xs.length ≤ i⟩
theorem turn_enumT {P : Program} {w : World} {K : PySem.W.Frag} {elts : List Expr} {kk : Nat} {tpos : Pos} (a e it : Addr) :
    Turn P w K (.Tuple elts kk tpos) (IteT K a) [e, it] e (fun i h => (∃ old, IsEnum h e it ((i : Nat) : Int) old) ∧ h.IsTupleIter it a i ∧ e ≠ it) where
  mem := by simp
  obj := fun i h st b hb => by
    obtain ⟨⟨old, he⟩, ⟨o, ho, hc, hd⟩, _⟩ := st
    rcases List.mem_cons.mp hb with z | z
    · rw [z]; exact ⟨_, he, fun v q => nomatch q⟩
    · rw [List.mem_singleton.mp z]; exact ⟨o, ho, fun v q => by rw [hd] at q; cases q⟩
  keep := fun i h h' st kp => let ⟨⟨old, he⟩, hi, hne⟩ := st; ⟨⟨old, kp e (by simp) _ he⟩, hi.at fun o q => kp it (by simp) o q, hne⟩
  item := by
    intro X hP hw hK calm i pins s σ H E I hf st hg
    subst hP hw hK
    obtain ⟨⟨old, en⟩, hit, ne⟩ := st
    obtain ⟨xs, x, hq, hx⟩ := hg
    obtain ⟨its, rv, p, hz⟩ := I.tuple hq
    obtain ⟨u, hu, ru⟩ := rv.get hx
    have lt1 : e < s.heap.objs.size := Heap.lt_size en
    have lt2 : it < s.heap.objs.size := by obtain ⟨_, q, _⟩ := hit; exact Heap.lt_size q
    have ea : e ≠ a := fun z => by
      obtain ⟨o, ho, c, _⟩ := p
      rw [← z, en] at ho
      cases ho
      exact absurd (Value.type.inj c) (by decide)
    have ita : a ≠ it := fun z => by
      obtain ⟨o, ho, c, _⟩ := p
      obtain ⟨o', ho', c', _⟩ := hit
      rw [z, ho'] at ho
      cases ho
      rw [c] at c'
      exact absurd (Value.type.inj c') (by decide)
    have D := Draws.tuple (prog := X.prog) (w := X.w) (A := X.A.in1) (I.ok.hd calm) it a ita its.toArray
    have iz : i < its.toArray.size := by
      rw [List.size_toArray]
      exact (List.getElem?_eq_some_iff.mp hu).1
    refine wpAny_pyNext_enum_itemD D en ⟨hit, p⟩ iz ne (by simp [ne, ea]) fun y h' tk py ho st' hT hsz hk => ?_
    have ey : y = u := by
      have py : its.toArray[i]? = some y := py
      rw [List.getElem?_toArray, hu] at py
      exact (Option.some.inj py).symm
    subst ey
    refine ⟨_, rfl, wpAny_letOwnedTupleGo_enum (s := { s with heap := h', toks := tk + 1 }) ho fun h'' he' sb => ?_⟩
    have hT2 : h''.get? s.heap.objs.size = some { cls := .type "tuple", data := .seq #[.int i tk, y] } := (sb.2 _ (Nat.ne_of_gt lt1)).trans hT
    have new : ObjOk X.prog X.w (L2.upd H s.heap.objs.size (.tup [.int (i : Nat), x])) h'' s.heap.objs.size (.tup [.int (i : Nat), x]) :=
      ⟨by show 2 ≤ sizeLine; decide, [.int i tk, y], .cons ⟨_, rfl⟩ (.cons ru .nil), ⟨_, hT2, rfl, _, rfl⟩⟩
    have I1 : Inv X pins σ (L2.upd H s.heap.objs.size (.tup [.int (i : Nat), x])) { s with heap := h'', toks := tk + 1 } :=
      I.turnedNew (ch := [e, it]) (fun b ob hb q => (sb.2 b (fun z => hb (by simp [z]))).trans (hk b ob (fun z => hb (by simp [z])) (fun z => hb (by simp [z])) q)) hf (Nat.le_refl _) new
    refine ⟨.ref s.heap.objs.size, _, I1, rfl, ⟨_, x, rfl, I.hok.fresh (Nat.le_refl _), rfl, fun ys hy => by rw [I.tuple_inj hy hq]; exact hx⟩, ⟨⟨y, ?_⟩, st'.1.at fun o q => (sb.2 it (Ne.symm ne)).trans q, ne⟩, fun b hb => ?_⟩
    · have e1 : ((i + 1 : Nat) : Int) = (i : Int) + 1 := by omega
      rw [e1]
      exact he'
    · have hb' : b < s.heap.objs.size := by
        rcases List.mem_cons.mp hb with z | z
        · rw [z]; exact lt1
        · rw [List.mem_singleton.mp z]; exact lt2
      rw [upd_ne (Nat.ne_of_lt hb')]
      exact (hf b hb).1
  done := by
    intro X hP hw hK calm i pins s σ H E I hf st hg
    subst hP hw hK
    obtain ⟨⟨old, en⟩, hit, ne⟩ := st
    obtain ⟨xs, hq, hx⟩ := hg
    obtain ⟨its, rv, p, hz⟩ := I.tuple hq
    obtain ⟨f0, f1, f2, f3, f4, f5⟩ := hf it (by simp)
    have ita : a ≠ it := fun z => by
      obtain ⟨o, ho, c, _⟩ := p
      obtain ⟨o', ho', c', _⟩ := hit
      rw [z, ho'] at ho
      cases ho
      rw [c] at c'
      exact absurd (Value.type.inj c') (by decide)
    have hl := rv.length
    unfold pyNext
    have hT : s.TypeIs (.ref e) "enumerate" := ⟨_, en, rfl⟩
    refine wpAny_bind (wpAny_attempt (wpAny_callSpecial?_slot (name := Str.ofString "__next__") hT F.slot_enumerate_next (wpAny_call_entry F.slot_enumerate_next hT F.entry_enumerate_next ?_ (F.args_enumerate_next_1 _))))
    show wpAny _ _ (field (.ref e) 2 >>= _) _ _ _
    refine wpAny_bind (wpAny_field en rfl (x := .ref it) rfl ?_)
    refine wpAny_bind (wpAny_nextOf_tuple_end (I.ok.hd calm) hit p (by simp; omega) fun h' x he' hx' => ?_)
    obtain ⟨o, ho, hc⟩ := hx'
    refine wpAny_bind (wpAny_isInstance (T := "StopIteration") (b := true) ⟨o, ho, hc⟩ isSubtype_stop (wpAny_pure ⟨rfl, I.turned (t' := s.toks) (fun b o hb e => he' b o hb e) f0 f1 f3 f4 f5⟩))
  self := fun A i s Q E st h => let ⟨⟨_, he⟩, _⟩ := st; wpAny_pyIter_enum he h
def iEnumT (K : PySem.W.Frag) (ta : TA) : TI := fun σ H R => ta σ H fun vs H1 => ∃ a xs, vs = [.ref a] ∧ ((SqL K H1 a xs ∧ R (Ite K a) H1) ∨ (SqT K H1 a xs ∧ R (IteT K a) H1))
theorem pi_enumT {X : Cx} {e : Expr} {ta : TA} {p pos tpos : Pos} {elts : List Expr} {kk : Nat} (hg : Gl X "enumerate") (hm : X.mg "enumerate" = none) (ha : PA X [e] ta) (hs : starEach [e] X.env = [(false, eval e X.env)] := by rfl) :
    PI X (.Tuple elts kk tpos) (.Call (.Name "enumerate" p) [e] [] pos) (iEnumT X.K ta) := by
  refine ⟨fun pins s σ H R I h => ?_⟩
  refine Call_ (ld_blt I hg hm boot_enumerate (PyProof.Rows.callWith_type1 (thn (ha.run pos pins s σ H _ I h) fun us s1 ⟨vs, H1, I1, r1, a, xs, ex, q⟩ => ?_) hs rfl))
  subst ex
  obtain rfl := vals_ref1 r1
  have far : ∀ b ∈ [s1.heap.objs.size + 1, s1.heap.objs.size], s1.heap.objs.size ≤ b := fun b hb => by
    rcases List.mem_cons.mp hb with z | z
    · rw [z]; exact Nat.le_add_right _ _
    · rw [List.mem_singleton.mp z]; exact Nat.le_refl _
  rcases q with ⟨hq, q⟩ | ⟨hq, q⟩
  · obtain ⟨its, rv, p', hz⟩ := I1.list hq
    refine call_enumerate_list p'.isList fun h' en hit _ kp => wpAny_pyIter_enum en ?_
    exact ⟨s1.heap.objs.size + 1, [s1.heap.objs.size + 1, s1.heap.objs.size], _, _, H1, rfl, I1.kept (t' := s1.toks) kp, turn_enum a (s1.heap.objs.size + 1) s1.heap.objs.size, ⟨⟨.none, en⟩, hit, Nat.succ_ne_self _⟩, fun b hb => I1.fpOk (far b hb) (I1.hok.fresh (far b hb)), q⟩
  · obtain ⟨its, rv, p', hz⟩ := I1.tuple hq
    refine fl_call_enum_tup p' fun h' en hit kp => wpAny_pyIter_enum en ?_
    exact ⟨s1.heap.objs.size + 1, [s1.heap.objs.size + 1, s1.heap.objs.size], _, _, H1, rfl, I1.kept (t' := s1.toks) kp, turn_enumT a (s1.heap.objs.size + 1) s1.heap.objs.size, ⟨⟨.none, en⟩, hit, Nat.succ_ne_self _⟩, fun b hb => I1.fpOk (far b hb) (I1.hok.fresh (far b hb)), q⟩
end FL

/-! FL15: t[::-1], sources and sets as rules over trees -/
namespace HT
open PySem PySem.Calls PyProof.Rows
section
variable {prog : Program} {w : World} {A : Around} {E : Value → Shared → Prop} {s : Shared}
theorem fl_applied_rev {sl : Addr} {va vb vc : Value} {n : Nat} {Q : Int × Int × Nat → Shared → Prop} (hs : s.heap.IsSliceOf sl va vb vc) (pa : IsPart va none) (pb : IsPart vb none) (pc : IsPart vc (some (-1)))
    (h : Q ((n : Int) - 1, -1, n) s) : wpAny (model prog w) A (Builtin.Slice.sliceApplied (.ref sl) (pure (n : Int))) Q E s := by
  obtain ⟨so, at_, cls, flds⟩ := id hs
  unfold Builtin.Slice.sliceApplied Builtin.Slice.sliceFields
  refine wpAny_bind (wpAny_bind (wpAny_field at_ flds (x := va) rfl (wpAny_bind (wpAny_field at_ flds (x := vb) rfl (wpAny_bind (wpAny_field at_ flds (x := vc) rfl (wpAny_pure ?_)))))))
  refine wpAny_bind (slicePart_ pc ?_)
  show wpAny _ _ (if ((-1 : Int) == 0) = true then _ else _) _ _ s
  rw [if_neg (by decide)]
  refine wpAny_bind (slicePart_ pa (wpAny_bind (slicePart_ pb (wpAny_bind (wpAny_pure ?_)))))
  show wpAny _ _ (pure (((n : Int) - 1), (-1 : Int), Builtin.Slice.slicePlaces ((n : Int) - 1) (-1) (-1))) _ _ s
  have e : Builtin.Slice.slicePlaces ((n : Int) - 1) (-1) (-1) = n := by
    unfold Builtin.Slice.slicePlaces
    rw [if_neg (by decide)]
    by_cases hn : 0 < n
    · rw [if_pos (by omega)]
      have : (-(-1 : Int)) = 1 := by decide
      rw [this, Int.ediv_one]
      omega
    · rw [if_neg (by omega)]
      omega
  rw [e]
  exact wpAny_pure h
theorem fm_map {α β : Type} {f : α → Option β} {g : α → β} : ∀ {l : List α}, (∀ m ∈ l, f m = some (g m)) → l.filterMap f = l.map g
  | [], _ => rfl
  | m :: l, h => by rw [List.filterMap_cons, h m List.mem_cons_self, List.map_cons, fm_map fun x hx => h x (List.mem_cons_of_mem _ hx)]
theorem fl_pick_rev (xs : Array Value) : ((List.range xs.size).filterMap fun (m : Nat) => xs[((xs.size : Int) - 1 + (m : Int) * (-1)).toNat]?) = xs.toList.reverse := by
  apply List.ext_getElem?
  intro i
  by_cases hi : i < xs.size
  · have e : ((List.range xs.size).filterMap fun (m : Nat) => xs[((xs.size : Int) - 1 + (m : Int) * (-1)).toNat]?) = (List.range xs.size).map fun m => xs[xs.size - 1 - m]?.getD .none := by
      refine fm_map fun m hm => ?_
      have hm := List.mem_range.mp hm
      have q : ((xs.size : Int) - 1 + (m : Int) * (-1)).toNat = xs.size - 1 - m := by omega
      rw [q, Array.getElem?_eq_getElem (by omega)]
      rfl
    rw [e, List.getElem?_map, List.getElem?_range hi, List.getElem?_reverse (by simpa using hi)]
    simp [Array.getElem?_eq_getElem (show xs.size - 1 - i < xs.size by omega)]
  · have hl : ((List.range xs.size).filterMap fun (m : Nat) => xs[((xs.size : Int) - 1 + (m : Int) * (-1)).toNat]?).length ≤ i := by
      refine Nat.le_trans (List.length_filterMap_le _ _) ?_
      simpa using hi
    rw [List.getElem?_eq_none hl, List.getElem?_eq_none (by simpa using hi)]
theorem fl_rev_tup {t sl : Addr} {items : Array Value} {va vb vc : Value} {Q : Value → Shared → Prop} (ht : IsTup s.heap t items) (hs : s.heap.IsSliceOf sl va vb vc) (pa : IsPart va none) (pb : IsPart vb none) (pc : IsPart vc (some (-1)))
    (h : Q (.ref s.heap.objs.size) { s with heap := s.heap.push { cls := .type "tuple", data := .seq items.toList.reverse.toArray } }) (hsz : items.size ≤ sizeLine) : wpAny (model prog w) A (getItem (.ref t) (.ref sl)) Q E s := by
  have fits : sizeOk (.seq items.toList.reverse.toArray) := by
    show items.toList.reverse.toArray.size ≤ sizeLine
    simpa using hsz
  obtain ⟨so, at_, cls, flds⟩ := id hs
  have ty : s.TypeIs (.ref sl) "slice" := ⟨so, at_, cls⟩
  unfold getItem
  try with_reducible refine wpAny_holding ?_
  first | refine wpAny_bind (wpAny_pure ?_) | skip
  refine wpAny_bind (wpAny_sequenceKey ht.typeIs (by decide) ?_)
  refine wpAny_bind (wpAny_callSpecial?_slot (name := Str.ofString "__getitem__") ht.typeIs PyProof.Rows.slot_tuple_getitem (wpAny_call_entry PyProof.Rows.slot_tuple_getitem ht.typeIs entry_tuple_getitem ?_ (args_tuple_getitem _ _)))
  show wpAny _ _ (Builtin.Tuple.tupleItemsOf (.ref t) >>= _) _ _ s
  refine wpAny_bind (tupleItemsOf_ ht (wpAny_bind (wpAny_typeOf ty ?_)))
  rw [if_pos (by decide)]
  refine wpAny_bind (fl_applied_rev hs pa pb pc ?_)
  show wpAny _ _ (if (((items.size : Int) - 1 == 0 && (-1 : Int) == 1 && items.size == items.size)) = true then _ else _) _ _ s
  rw [if_neg (by simp), fl_pick_rev]
  first
    | exact wpAny_bind (m := Builtin.Tuple.tupleExact _) (wpAny_newObj_type (wpAny_pure ⟨_, rfl, wpAny_pure h⟩) fits)
    | exact wpAny_bind (m := Builtin.Tuple.tupleExact _) (wpAny_newObj_type (wpAny_bind (wpAny_pure (wpAny_pure ⟨_, rfl, wpAny_pure h⟩))) fits)
    | exact wpAny_bind (wpAny_bind (m := Builtin.Tuple.tupleExact _) (wpAny_newObj_type (wpAny_pure (wpAny_pure ⟨_, rfl, wpAny_pure h⟩)) fits))
    | exact wpAny_bind (wpAny_bind (m := Builtin.Tuple.tupleExact _) (wpAny_newObj_type (wpAny_pure ⟨_, rfl, wpAny_pure h⟩) fits))
end
end HT
namespace FL
open PySem PySem.Spec PyProof.Rows L2 RZ
section
variable {X : Cx} {k : Kx} {E : XE} {e : Expr} {me : EM} {mr : Ev → M (List D)} {pos p : Pos}
/-! ### x[::-1] of a list, a tuple -/
def tRevA (K : PySem.W.Frag) (te : TE) : TE := fun σ H Q => te σ H fun x H1 => ∃ a xs, x = .ref a ∧ ((SqL K H1 a xs ∧ ∀ p, H1 p = none → Q (.ref p) (L2.upd H1 p (.lst xs.reverse))) ∨ (SqT K H1 a xs ∧ ∀ p o, H1 p = none → o.dict = none → Q (.ref p) (L2.upd H1 p (.frz o (.tup xs.reverse)))))
theorem pe_revA {te : TE} {j : Nat} {p1 p2 p3 : Pos} (he : PE X e te) : PE X (.Subscript e (.Slice none none (some (.UnaryOp .USub (.Constant (.int 1) j p1) p2)) p3) pos) (tRevA X.K te) := by
  refine ⟨fun pins s σ H Q I h => ?_⟩
  refine Subscript_ (thn (he.run pins s σ H _ I h) fun v s1 ⟨x, H1, I1, r1, a, xs, ex, q1⟩ => ?_)
  subst ex
  obtain rfl : v = Value.ref a := r1
  have stp : PO X (some (.UnaryOp .USub (.Constant (.int 1) j p1) p2)) (tPart (tUn (rU fun i => .int (-i)) (tC (.int 1)))) := po_some (pe_un un_neg pe_int)
  refine wpAny_Slice (thn (po_none.run pins s1 σ H1 (fun o H2 => o = none ∧ H2 = H1) I1 ⟨rfl, rfl⟩) fun vl s2 ⟨l, H2, I2, pl, el, e2⟩ => ?_)
  subst el e2
  refine thn (po_none.run pins s2 σ H2 (fun o H3 => o = none ∧ H3 = H2) I2 ⟨rfl, rfl⟩) fun vu s3 ⟨u, H3, I3, pu, eu, e3⟩ => ?_
  subst eu e3
  refine thn (stp.run pins s3 σ H3 (fun o H4 => o = some (-1) ∧ H4 = H3) I3 ⟨1, rfl, -1, rfl, rfl, rfl⟩) fun vs s4 ⟨o, H4, I4, ps, eo, e4⟩ => ?_
  subst eo e4
  have I5 : Inv X pins σ H4 { s4 with heap := s4.heap.push { cls := .type "slice", data := .fields #[vl, vu, vs] } } := I4.kept (t' := s4.toks) fun b ob q => Heap.get?_push_of_some _ q
  show wpAny (model X.prog X.w) X.A (subscriptTail e (.Slice none none (some (.UnaryOp .USub (.Constant (.int 1) j p1) p2)) p3) (.ref a) (.ref s4.heap.objs.size)) (EP X pins σ Q) X.xe _
  rcases q1 with ⟨hx, q⟩ | ⟨hx, q⟩
  · obtain ⟨its, r, ht, hz⟩ := I5.list hx
    have hlen := r.length
    refine tail_any (ops := [.ref a, .ref s4.heap.objs.size]) ht.isList.typeIs (PySem.slot_list_getitem.lookup) (wpAny_getItem_list_slice ht.isList (Heap.IsSliceOf.new _ vl vu vs) pl pu ps (by decide) ?_ (by rw [List.size_toArray]; omega)) (by with_unfolding_all rfl)
    rw [PySem.W.krv_pick]
    refine ⟨.ref _, _, I5.laid (t' := s4.toks) (o := .lst xs.reverse) (fun b ob q => Heap.get?_push_of_some _ q) (Nat.le_refl _) ⟨by rw [List.length_reverse]; exact hz, _, 0, r.reverse, Heap.get?_push_size _ rfl⟩, rfl, q _ (I5.hok.fresh (Nat.le_refl _))⟩
  · obtain ⟨its, r, ht, hz⟩ := I5.tuple hx
    have hlen := r.length
    refine tail_any (ops := [.ref a, .ref s4.heap.objs.size]) ht.typeIs PyProof.Rows.slot_tuple_getitem.lookup (HT.fl_rev_tup ht (Heap.IsSliceOf.new _ vl vu vs) pl pu ps ?_ (by rw [List.size_toArray]; omega)) (by with_unfolding_all rfl)
    exact ⟨.ref _, _, Inv.laidT I5 r.reverse (by rw [List.length_reverse]; exact hz) s4.toks, rfl, q _ _ (I5.hok.fresh (Nat.le_refl _)) rfl⟩
def gRev : D → M D := fun d st => match d with
  | .lst xs => .ok (.lst xs.reverse) st
  | .bor xs => .ok (.lst xs.reverse) st
  | .tup xs => .ok (.tup xs.reverse) st
  | _ => .stuck
theorem Reps.reverse {F : Hp} : ∀ {vs : List V} {ds : List D}, Reps k F vs ds → Reps k F vs.reverse ds.reverse
  | _, _, .nil => .nil
  | _, _, .cons h t => by rw [List.reverse_cons, List.reverse_cons]; exact (Reps.reverse t).append (.cons h .nil)
theorem e_rev {j : Nat} {p1 p2 p3 : Pos} (he : PE X e (tM k E me)) (hk : k.K = X.K := by rfl) : PE X (.Subscript e (.Slice none none (some (.UnaryOp .USub (.Constant (.int 1) j p1) p2)) p3) pos) (tM k E (mUn gRev me)) :=
  PE.weak (pe_revA he) fun σ H Q ⟨F, Γ, st, ok, w⟩ => tM.then_ ok w fun v d F1 H1 st1 s1 ok1 r1 w1 => by
    unfold gRev at w1
    split at w1
    · cases r1 with
      | lst h r => exact ⟨_, _, rfl, .inl ⟨SqL.of (ok1.sub _ _ h), fun p np => w1 _ _ (ok1.new np) _ (.lst upd_same (r.reverse.mono (ok1.new np).ext))⟩⟩
    · cases r1 with
      | bor h r => exact ⟨_, _, rfl, .inl ⟨SqL.of (ok1.bsub _ _ h), fun p np => w1 _ _ (ok1.new np) _ (.lst upd_same (r.reverse.mono (ok1.new np).ext))⟩⟩
    · cases r1 with
      | tup h r _ =>
        rw [hk] at h
        exact ⟨_, _, rfl, .inr ⟨sqt_mono ok1.sub h, fun p ob np nd => w1 _ _ (ok1.new np) _ (.tup (sqt_frz upd_same) (r.reverse.mono (ok1.new np).ext) (.of upd_same nd))⟩⟩
    · exact w1.elim
/-! ### enumerate of a list, a tuple -/
theorem it_enumT {K : PySem.W.Frag} {F : Hp} {a : Addr} {vs : List V} {xs : List D} (h : SqT K F a vs) (r : Reps k F vs xs) : ItOk k (IteT K a) F (enumD xs) where
  go := fun i F1 H1 s1 s2 sb hi => by
    have hi' : i < xs.length := by simpa [enumD] using hi
    have h1 : i < vs.length := by rw [r.length]; exact hi'
    exact ⟨vs, vs[i], sqt_mono (s1.trans s2) h, List.getElem?_eq_getElem h1⟩
  stop := fun i F1 H1 s1 s2 sb hi => ⟨vs, sqt_mono (s1.trans s2) h, by rw [r.length]; simpa [enumD] using hi⟩
  yld := fun i x F1 H1 H2 σ Γ st s1 ok hi y => by
    obtain ⟨T, u, e1, nT, e2, f1⟩ := y
    subst e1 e2
    have hi' : i < xs.length := by simpa [enumD] using hi
    obtain ⟨d1, g1, q1⟩ := r.get (f1 vs (sqt_mono (s1.trans ok.sub) h))
    obtain ⟨F2, s2, q⟩ := new_pair ok nT (.int (i : Nat)) (q1.mono s1)
    have g2 : xs[i] = d1 := by rw [List.getElem?_eq_getElem hi'] at g1; exact Option.some.inj g1
    exact ⟨_, F2, by simp [enumD, List.getElem?_zipWith, g1, hi', List.getElem?_range, g2], s2, q⟩
def gEnumA : List D → M (List D) := fun ds st => match ds with
  | [.tup xs] => .ok (enumD xs) st
  | [d] => (match asL d with | some xs => .ok (enumD xs) st | none => .stuck)
  | _ => .stuck
theorem i_enumA {elts : List Expr} {kk : Nat} {tpos : Pos} (hg : Gl X "enumerate") (hm : X.mg "enumerate" = none) (ha : PA X [e] (tA k E mr)) (hk : k.K = X.K := by rfl) (hs : starEach [e] X.env = [(false, eval e X.env)] := by rfl) :
    PI X (.Tuple elts kk tpos) (.Call (.Name "enumerate" p) [e] [] pos) (tI k E (mSrc gEnumA mr)) :=
  PI.weak (pi_enumT hg hm ha hs) fun σ H R ⟨F, Γ, st, ok, w⟩ => tA.then_ ok w fun vs ds F1 H1 st1 s ok1 r w1 => by
    unfold gEnumA at w1
    split at w1
    · match vs, r with
      | [_], .cons (.tup h r1 _) .nil =>
        rw [hk] at h
        exact ⟨_, _, rfl, .inr ⟨sqt_mono ok1.sub h, w1 F1 H1 ok1.refl _ (it_enumT h r1)⟩⟩
    · split at w1
      · rename_i xs e1
        match vs, r with
        | [_], .cons q1 .nil =>
          obtain ⟨a, vs1, rfl, r1, h1⟩ := asL_use q1 e1
          exact ⟨_, _, rfl, .inl ⟨SqL.of (h1.now ok1), w1 F1 H1 ok1.refl _ (it_enum h1 r1)⟩⟩
      · exact w1.elim
    · exact w1.elim
end
end FL

/-! FL16: sorted(set(..)) of ints, [..] * n as one's own, the law's own def -/
namespace FL
open PySem PySem.Spec PyProof.Rows L2 RZ
def insI (x : Int) : List Int → List Int
  | [] => [x]
  | y :: r => if x < y then x :: y :: r else if x = y then y :: r else y :: insI x r
def sdI (ns : List Int) : List Int := ns.foldr insI []
theorem insI_mem {x : Int} : ∀ {l : List Int} {z : Int}, z ∈ insI x l ↔ z = x ∨ z ∈ l
  | [], z => by simp [insI]
  | y :: r, z => by
    unfold insI
    split
    · simp
    · split
      · rename_i _ e
        subst e
        simp
      · rw [List.mem_cons, insI_mem, List.mem_cons]
        constructor
        · rintro (h | h | h)
          · exact .inr (.inl h)
          · exact .inl h
          · exact .inr (.inr h)
        · rintro (h | h | h)
          · exact .inr (.inl h)
          · exact .inl h
          · exact .inr (.inr h)
theorem insI_up {x : Int} : ∀ {l : List Int}, l.Pairwise (· < ·) → (insI x l).Pairwise (· < ·)
  | [], _ => by simp [insI]
  | y :: r, h => by
    obtain ⟨h1, h2⟩ := List.pairwise_cons.mp h
    unfold insI
    split
    · rename_i hxy
      refine List.pairwise_cons.mpr ⟨fun z hz => ?_, h⟩
      rcases List.mem_cons.mp hz with e | hz
      · rw [e]; exact hxy
      · exact Int.lt_trans hxy (h1 z hz)
    · split
      · exact h
      · rename_i n1 n2
        refine List.pairwise_cons.mpr ⟨fun z hz => ?_, insI_up h2⟩
        rcases insI_mem.mp hz with e | hz
        · rw [e]; omega
        · exact h1 z hz
theorem sdI_mem : ∀ {ns : List Int} {z : Int}, z ∈ sdI ns ↔ z ∈ ns
  | [], z => by simp [sdI]
  | n :: ns, z => by
    show z ∈ insI n (sdI ns) ↔ _
    rw [insI_mem, sdI_mem, List.mem_cons]
theorem sdI_up : ∀ ns : List Int, (sdI ns).Pairwise (· < ·)
  | [] => List.Pairwise.nil
  | n :: ns => insI_up (sdI_up ns)
theorem up_uniq : ∀ {l m : List Int}, l.Pairwise (· < ·) → m.Pairwise (· < ·) → (∀ z, z ∈ l ↔ z ∈ m) → l = m
  | [], [], _, _, _ => rfl
  | [], y :: m, _, _, h => absurd ((h y).mpr List.mem_cons_self) (by simp)
  | x :: l, [], _, _, h => absurd ((h x).mp List.mem_cons_self) (by simp)
  | x :: l, y :: m, h1, h2, h => by
    obtain ⟨a1, a2⟩ := List.pairwise_cons.mp h1
    obtain ⟨b1, b2⟩ := List.pairwise_cons.mp h2
    have e : x = y := by
      rcases List.mem_cons.mp ((h x).mp List.mem_cons_self) with e | hx
      · exact e
      · rcases List.mem_cons.mp ((h y).mpr List.mem_cons_self) with e | hy
        · exact e.symm
        · have q1 := b1 x hx
          have q2 := a1 y hy
          omega
    subst e
    rw [up_uniq a2 b2 fun z => ⟨fun hz => ?_, fun hz => ?_⟩]
    · rcases List.mem_cons.mp ((h z).mp (List.mem_cons_of_mem _ hz)) with e | q
      · have := a1 z hz; omega
      · exact q
    · rcases List.mem_cons.mp ((h z).mpr (List.mem_cons_of_mem _ hz)) with e | q
      · have := b1 z hz; omega
      · exact q
section
variable {X : Cx}
theorem cr_setTI (hc : X.calm = true) : CallR X (.type "set") (fun vs H Q => ∃ (l : Addr) (ns : List Int), vs = [.ref l] ∧ SqT X.K H l (ns.map V.int) ∧ ns.length < 64 ∧ ∀ p c, H p = none → c < 64 → Q (.ref p) (L2.upd H p (SetO X.w p (fun j => decide (j ∈ ns)) c))) := by
  intro pins s σ H vs us Q I r ⟨l, ns, e, hs, h64, q⟩
  subst e
  obtain ⟨its, rv, tup, _⟩ := I.tuple hs
  rw [vals_ref1 r]
  refine call_set_tupI ns (I.ok.hd hc) tup (rv.ints) (by unfold scanBound; omega) fun h' tk c R cn kp => ?_
  exact ⟨.ref _, _, I.laid (t' := tk) kp (Nat.le_refl _) (setO_new R), rfl, q _ c (I.hok.fresh (Nat.le_refl _)) (by omega)⟩
variable {k : Kx} {E : XE} {e : Expr} {me : EM} {mr : Ev → M (List D)} {pos p p2 q : Pos}
def gSset : List D → M (List D) := fun ds st => match ds with
  | [.tup xs] => (match intsD xs with
    | some ns => if decide (ns.length < 64) then .ok ((sdI ns).map D.int) st else .stuck
    | none => .stuck)
  | _ => .stuck
theorem Reps.ofInts {F : Hp} : ∀ ns : List Int, Reps k F (ns.map V.int) (ns.map D.int)
  | [] => .nil
  | n :: ns => .cons (.int n) (Reps.ofInts ns)
theorem bset : bootBuiltins "set" = some (.type "set") := by decide +kernel
theorem bsorted : bootBuiltins "sorted" = some (.builtin "sorted") := by decide +kernel
/-- sorted(set(t)), t a tuple of ints -/
theorem o_sset (hc : X.calm = true) (hg : Gl X "sorted") (hm : X.mg "sorted" = none) (hg2 : Gl X "set") (hm2 : X.mg "set" = none) (ha : PA X [e] (tA k E mr)) (hk : k.K = X.K := by rfl)
    (he : starEach [e] X.env = (false, eval e X.env) :: starEach [] X.env := by rfl) (hpl : (backTo q (starEach [] X.env)).any (·.1) = false := by rfl)
    (he2 : starEach [.Call (.Name "set" p2) [e] [] q] X.env = (false, eval (.Call (.Name "set" p2) [e] [] q) X.env) :: starEach [] X.env := by rfl) (hpl2 : (backTo pos (starEach [] X.env)).any (·.1) = false := by rfl) :
    PE X (.Call (.Name "sorted" p) [.Call (.Name "set" p2) [e] [] q] [] pos) (tO k E (mCallO gSset mr)) :=
  PE.weak (pe_callB (cr_sortedSet hc) hg hm bsorted (pa_cons (pe_callTy (cr_setTI hc) hg2 hm2 bset ha (by decide) (by decide) he hpl) pa_nil he2) (by decide) (by decide) he2 hpl2) fun σ H Q ⟨F, Γ, st, ok, w⟩ => by
    refine tA.then_ ok w fun vs ds F1 H1 st1 s1 ok1 r1 w1 => ?_
    unfold gSset at w1
    split at w1
    · split at w1
      · rename_i xs ns en
        split at w1
        · rename_i h64
          match vs, r1 with
          | [_], .cons (.tup ht rr _) .nil =>
            rw [hk] at ht
            have ev := rr.ints en
            subst ev
            refine ⟨_, ns, rfl, sqt_mono ok1.sub ht, of_decide_eq_true h64, fun p c np hc64 => ?_⟩
            have sA := ok1.new' (ob := SetO X.w p (fun j => decide (j ∈ ns)) c) np
            have okA := ok1.step sA
            refine ⟨p, _, c, rfl, upd_same, hc64, fun out p' up mem _ np' => ?_⟩
            have eo : out = sdI ns := up_uniq up (sdI_up ns) fun z => by rw [mem z, decide_eq_true_eq, sdI_mem]
            subst eo
            exact w1 _ _ (ok1.trans sA (okA.new' np')) p' _ upd_same (okA.fnone np') (s1.back (sA.back np')) (Reps.ofInts _)
        · exact w1.elim
      · exact w1.elim
    · exact w1.elim
/-- a * n, a new list -/
def gRepO : D → D → M (List D) := fun d e st => match d, e with
  | .lst xs, .int n => if decide (-(2 ^ 63) ≤ n ∧ n < 2 ^ 63 ∧ xs.length * n.toNat ≤ sizeLine) then .ok (List.replicate n.toNat xs).flatten st else .stuck
  | _, _ => .stuck
def mRepO (ma mb : EM) : Ev → M (List D) := fun Γ => do
  let d ← ma Γ
  let e ← mb Γ
  gRepO d e
theorem o_rep {a b : Expr} {ma mb : EM} (ha : PE X a (tM k E ma)) (hb : PE X b (tM k E mb)) : PE X (.BinOp a .Mult b pos) (tO k E (mRepO ma mb)) :=
  PE.weak (pe_op op_rep ha hb) fun σ H Q ⟨F, Γ, st, ok, w⟩ => tM.then_ ok w fun v d F1 H1 st1 s1 ok1 r1 w1 => tM.then_ ok1 w1 fun u e F2 H2 st2 s2 ok2 r2 w2 => by
    unfold gRepO at w2
    split at w2
    · split at w2
      · rename_i xs n hc
        obtain ⟨h1, h2, h3⟩ := of_decide_eq_true hc
        cases r2
        cases r1.mono s2.ext with
        | lst hx rx =>
          rw [← rx.length] at h3
          refine ⟨_, _, _, rfl, rfl, ok2.sub _ _ hx, h1, h2, h3, fun p np => ?_⟩
          exact w2 _ _ (ok2.new' np) p _ upd_same (ok2.fnone np) (s1.back (s2.back np)) (rx.rep _)
      · exact w2.elim
    · exact w2.elim
end
end FL

/-! FL17: the deal's own def, the law's own def -/
namespace FL
open PySem PySem.Spec PyProof.Rows L2
open Classical in
noncomputable def scrF (H : Hp) (ad : Addr) : Hp := fun b => if b = ad ∧ ∀ ps, H ad ≠ some (.tbl ps) then H ad else none
section
variable {P : Program} {w : World} {K : PySem.W.Frag} {T : List (Addr × Str)} {mg : Str → Option Value} {base : Heap} {x qual : Str} {st : Stmt} {f : Addr} {fd : FuncData} {j : Nat}
/-- the def that draws a number -/
theorem any_fn (c : Int) {a b r : Str} (Fn : Fun K x qual st f fd) (S : FnScope [a, b, r] [a, b] (defScope st))
    (hb : ∀ (cdv : Value) (A : Around) (outs : List Env) (s : Shared) (H : Hp) (E : XK), Room j (A.deeper (envOfC qual (defScope st) s.heap.objs.size f cdv)) →
      PSs (cxOf (L2.CX P w) P w K mg base [a, b, r] qual (defScope st) f cdv A outs s H E).nox (defBody st) (tAnyB K c)) : FnG P w K T mg base (j + 1) f fd [a, b] (gAnyD c) := by
  refine fng_of Fn S (fun ds st e => ?_) fun cdv A outs s H vs Q E room gd ⟨on, dl, cl, B, F, ds, st0, ok, rr, h⟩ => ⟨_, (hb cdv A outs s H E room).nox, ?_⟩
  · unfold gAnyD
    split
    · simp at e
    · rfl
  · unfold gAnyD at h
    split at h
    · split at h
      · rename_i m hm
        match vs, rr with
        | [_, _], .cons (.deal hon) (.cons (.int _) .nil) =>
          exact any_run (k := ⟨K, on, dl, cl, B, T, P, w⟩) ok hon (of_decide_eq_true hm) fun H' s' => h F H' s' _ (.int _)
      · exact h.elim
    · exact h.elim
/-- the law's own def: its first statement makes the deal at slot i, by a def that keeps gd, from the script and constants -/
theorem law_go {N : List Str} {a : Str} {n i : Nat} {gd : List D → M D} {first : Stmt} {rest : List Stmt} {targs : TA} {mr : SM} (cv : List V) (cd : List D) (Fn : Fun K x qual st f fd) (S : FnScope N [a] (defScope st)) (hbody : defBody st = first :: rest) (hn : 0 < N.length)
    (hfirst : ∀ (cdv : Value) (A : Around) (outs : List Env) (s : Shared) (H : Hp) (E : XK), Room j (A.deeper (envOfC qual (defScope st) s.heap.objs.size f cdv)) → (A.deeper (envOfC qual (defScope st) s.heap.objs.size f cdv)).guards = some [] →
      PS (cxOf (L2.CX P w) P w K mg base N qual (defScope st) f cdv A outs s H E).nox first (tAsg (fun σ H Q => targs σ H fun vs H1 => spM P w K T gd vs H1 Q E0) (gName i)))
    (hrest : ∀ (cdv : Value) (A : Around) (outs : List Env) (s : Shared) (H : Hp) (E : XK) (on : Bool) (dl cl : Addr) (B : Hp), Room j (A.deeper (envOfC qual (defScope st) s.heap.objs.size f cdv)) → (A.deeper (envOfC qual (defScope st) s.heap.objs.size f cdv)).guards = some [] →
      PSs (cxOf (L2.CX P w) P w K mg base N qual (defScope st) f cdv A outs s H E).nox rest (tS ⟨K, on, dl, cl, B, T, P, w⟩ EF mr))
    (hargs : ∀ (σ : L2.St) (H : Hp) (Q : List V → Hp → Prop) (v : V), σ[0]? = some (some v) → Q (v :: cv) H → targs σ H Q) (hcon : ∀ k F, Reps k F cv cd)
    (plain : ∀ ns : List Int, ns.length ≤ n → ∃ cs b st0 st1, cs.length ≤ 63 ∧ gd (.kl (ns.map D.int) :: cd) ([], 0) = .ok (.lst [.lst (cs.map D.int), .int b]) st0 ∧ mr ((List.replicate N.length none).set i (some (.dat .deal))) (cs, b) = .ok (.rt (.bl true)) st1) :
    LawG P w K T mg base (j + 1) f fd a n := by
  refine go_def (sp := LawSp K T n) Fn S (fun vs H Q E ⟨a, ns, e, _⟩ => by rw [e]; rfl) fun cdv A outs s H vs Q E _ room gg ⟨ad, ns, e, seq, len, tabs, q⟩ => ⟨tSeq (tAsg (fun σ H Q => targs σ H fun vs H1 => spM P w K T gd vs H1 Q E0) (gName i)) (fun D σ H => ∃ on dl cl B, tS ⟨K, on, dl, cl, B, T, P, w⟩ EF mr D σ H), ?_, ?_⟩
  case refine_1 =>
    rw [hbody]
    have tail : PSs (cxOf (L2.CX P w) P w K mg base N qual (defScope st) f cdv A outs s H E).nox rest (fun D σ H => ∃ on dl cl B, tS ⟨K, on, dl, cl, B, T, P, w⟩ EF mr D σ H) :=
      ⟨fun pins s' σ H' D I ⟨on, dl, cl, B, h⟩ => (hrest cdv A outs s H E on dl cl B room gg).run pins s' σ H' D I h⟩
    exact (pss_cons (hfirst cdv A outs s H E room gg) tail).nox
  case refine_2 =>
    subst e
    obtain ⟨cs, b, st0, st1, few, e1, e2⟩ := plain ns len
    have s0 : (L2.start N [V.ref ad])[0]? = some (some (.ref ad)) := rfl
    refine hargs _ _ _ _ s0 ?_
    obtain ⟨F0, eF⟩ : ∃ F0 : Hp, F0 = scrF H ad := ⟨_, rfl⟩
    have sub0 : Same F0 H := fun b o h => by
      rw [eF] at h
      unfold scrF at h
      split at h
      · rename_i z
        rw [z.1]
        exact h
      · cases h
    have ok0 : Ok ⟨K, false, 0, 0, fun _ => none, T, P, w⟩ F0 H [] [] ([], 0) := {
      sub := sub0
      at_ := fun h => absurd h (by simp)
      hid := fun h => absurd h (by simp)
      bsub := fun b o h => by cases h
      blst := fun b o h => by cases h
      tabs := tabs
      ftbl := fun b o h ps z => by
        rw [eF] at h
        unfold scrF at h
        split at h
        · rename_i y
          rw [z] at h
          exact y.2 ps h
        · cases h
      len := rfl
      slot := fun i x h => by simp at h
      apart := fun i j xs ys a h => by simp at h }
    have seq0 : SqL K F0 ad (ns.map V.int) := by
      have at_ : ∀ u, H ad = some u → (∀ ps, u ≠ .tbl ps) → F0 ad = some u := fun u h n => by
        rw [eF]
        unfold scrF
        rw [if_pos ⟨rfl, fun ps z => n ps (Option.some.inj (h.symm.trans z))⟩]
        exact h
      rcases seq with (h | ⟨o, h⟩) | h
      · exact .inl (.inl (at_ _ h fun ps z => by cases z))
      · exact .inl (.inr ⟨o, at_ _ h fun ps z => by cases z⟩)
      · exact .inr h
    have ofI : ∀ ns : List Int, Reps ⟨K, false, 0, 0, fun _ => none, T, P, w⟩ F0 (ns.map V.int) (ns.map D.int) := fun ns => Reps.ofInts ns
    refine ⟨false, 0, 0, fun _ => none, F0, _, ([], 0), ok0, .cons (.kl seq0 (ofI ns)) (hcon _ _), ?_⟩
    rw [e1]
    intro F1 H1 s1 v rv
    cases rv with
    | lst hd rr =>
      rename_i dl vs
      match vs, rr with
      | [_, _], .cons (.lst hc rc) (.cons (.int _) .nil) =>
        rename_i cl us
        have eu : us = cs.map V.int := rc.ints (intsD_map cs)
        subst eu
        have ne : dl ≠ cl := fun z => by
          rw [z, hc] at hd
          have q := HO.lst.inj (Option.some.inj hd)
          cases cs with
          | nil => cases q
          | cons c r => cases (List.cons.inj q).1
        have hd1 := s1.sub _ _ hd
        have hc1 := s1.sub _ _ hc
        refine ⟨true, dl, cl, fun _ => none, fun _ => none, H1, fun _ => none, fun _ => none, (List.replicate N.length none).set i (some (.dat .deal)), (cs, b), ⟨?_, fun _ _ h => h, fun _ _ h => h, fun _ _ h _ _ => h, fun _ o h => ⟨o, h⟩, fun _ _ _ _ => rfl, ?_, ?_⟩, ?_⟩
        · exact {
            sub := fun _ _ h => by cases h
            at_ := fun _ => ⟨few, hd1, hc1⟩
            hid := fun _ => ⟨rfl, rfl, ne, rfl, rfl⟩
            bsub := fun _ _ h => by cases h
            blst := fun _ _ h => by cases h
            tabs := s1.tabs
            ftbl := fun _ _ h => by cases h
            len := by simp [L2.start]; omega
            slot := fun l y h => by
              by_cases hl : i = l
              · subst hl
                have hi : i < N.length := by
                  by_cases hi : i < N.length
                  · exact hi
                  · rw [List.getElem?_eq_none (by simp; omega)] at h; cases h
                rw [List.getElem?_set_self (by simpa using hi)] at h
                cases h
                exact ⟨_, List.getElem?_set_self (by simp [L2.start]; omega), .deal rfl⟩
              · rw [List.getElem?_set_ne hl, List.getElem?_replicate] at h
                split at h <;> cases h
            apart := fun l m us zs a h => by
              by_cases hl : i = l
              · subst hl
                by_cases hi : i < N.length
                · rw [List.getElem?_set_self (by simpa using hi)] at h; cases h
                · rw [List.getElem?_eq_none (by simp; omega)] at h; cases h
              · rw [List.getElem?_set_ne hl, List.getElem?_replicate] at h
                split at h <;> cases h }
        · intro l us a h
          by_cases hl : i = l
          · subst hl
            by_cases hi : i < N.length
            · rw [List.getElem?_set_self (by simpa using hi)] at h; cases h
            · rw [List.getElem?_eq_none (by simp; omega)] at h; cases h
          · rw [List.getElem?_set_ne hl, List.getElem?_replicate] at h
            split at h <;> cases h
        · exact ⟨(cs, b), {
            sub := fun _ _ h => by cases h
            at_ := fun _ => ⟨few, hd1, hc1⟩
            hid := fun _ => ⟨rfl, rfl, ne, rfl, rfl⟩
            bsub := fun _ _ h => by cases h
            blst := fun _ _ h => by cases h
            tabs := s1.tabs
            ftbl := fun _ _ h => by cases h
            len := rfl
            slot := fun i x h => by simp at h
            apart := fun i j xs ys a h => by simp at h }⟩
        · rw [e2]
          intro v F' H' s' rv
          cases rv
          exact q _ _ rfl
end
end FL

/-! FL18: small things that a printed walk names -/
namespace FL
open PySem PySem.Spec PyProof.Rows L2
theorem u64 {j : Nat} {A : Around} (r : Room j A) : A.units + 64 < cLine := by have := r.un; omega
theorem u80 {j : Nat} {A : Around} (r : Room j A) : A.units + 80 < cLine := by have := r.un; omega
theorem bt_len : bootBuiltins "len" = some (.builtin "len") := by decide +kernel
theorem bt_abs : bootBuiltins "abs" = some (.builtin "abs") := by decide +kernel
theorem bt_min : bootBuiltins "min" = some (.builtin "min") := by decide +kernel
theorem bt_max : bootBuiltins "max" = some (.builtin "max") := by decide +kernel
theorem bt_sum : bootBuiltins "sum" = some (.builtin "sum") := by decide +kernel
theorem bt_all : bootBuiltins "all" = some (.builtin "all") := by decide +kernel
theorem bt_any : bootBuiltins "any" = some (.builtin "any") := by decide +kernel
theorem bt_repr : bootBuiltins "repr" = some (.builtin "repr") := by decide +kernel
theorem bt_sorted : bootBuiltins "sorted" = some (.builtin "sorted") := by decide +kernel
theorem bt_isinstance : bootBuiltins "isinstance" = some (.builtin "isinstance") := by decide +kernel
theorem bt_int : bootBuiltins "int" = some (.type "int") := by decide +kernel
theorem bt_bool : bootBuiltins "bool" = some (.type "bool") := by decide +kernel
theorem bt_str : bootBuiltins "str" = some (.type "str") := by decide +kernel
theorem bt_tuple : bootBuiltins "tuple" = some (.type "tuple") := by decide +kernel
theorem bt_list : bootBuiltins "list" = some (.type "list") := by decide +kernel
theorem bt_set : bootBuiltins "set" = some (.type "set") := by decide +kernel
theorem bt_dict : bootBuiltins "dict" = some (.type "dict") := by decide +kernel
/-- a block's names -/
def blkB (N : List Str) (sc scope : Scope) (own : List (Str × Nat)) : Bool :=
  decide (scope.kind = .function) && ((scope.names.all fun y => decide (scope.names.lookup y.1 = some y.2)) && ((own.all fun p => decide (N[p.2]? = some p.1)) &&
    ((scope.names.all fun y => !decide (y.2 = .free) || (decide (sc.names.lookup y.1 = some .cell) || decide (sc.names.lookup y.1 = some .free))) && scope.names.all fun y => !(decide (y.2 = .local) || decide (y.2 = .cell)) || (decide (y.1 ∈ own.map (·.1)) || decide (y.1 ∉ N)))))
theorem blk_by {N : List Str} {sc scope : Scope} {own : List (Str × Nat)} (h : blkB N sc scope own = true) : BlkOk N sc scope own := by
  unfold blkB at h
  simp only [Bool.and_eq_true, Bool.or_eq_true, Bool.not_eq_true', Bool.or_eq_false_iff, decide_eq_true_eq, decide_eq_false_iff_not, List.all_eq_true] at h
  obtain ⟨h1, h2, h3, h4, h5⟩ := h
  refine ⟨h1, h2, h3, fun y hy e => ?_, fun y hy e => ?_⟩
  · rcases h4 y hy with z | z
    · exact absurd e z
    · exact z
  · rcases h5 y hy with z | z
    · rcases e with e | e
      · exact absurd e z.1
      · exact absurd e z.2
    · exact z
/-- a def's code object, and the table that is its lambda's -/
structure LamT (T : List (Addr × Str)) (mg : Str → Option Value) (base : Heap) (code : Value) (q : Str) (c P : Addr) : Prop where
  cd : code = .ref c
  tb : LamX.TabB base mg c P
  inT : (P, q) ∈ T
  one : ∀ z ∈ T, z.1 = P → z.2 = q
end FL

/-! FL19: mirrors evaluated -/
namespace FL
open PySem
theorem M.bind_at {α β : Type} (m : M α) (f : α → M β) (st : DS) : (m >>= f) st = (m st).bind f := rfl
theorem M.pure_at {α : Type} (a : α) (st : DS) : (pure a : M α) st = .ok a st := rfl
theorem Out.ok_bind {α β : Type} (a : α) (st : DS) (f : α → DS → Out β) : (Out.ok a st).bind f = f a st := rfl
theorem halt_at {α : Type} (st : DS) : (halt : M α) st = .stuck := rfl
theorem small_le {n : Nat} (h : n ≤ 1000000) : n ≤ sizeLine := by unfold sizeLine; omega
theorem dec_le {n : Nat} (h : n ≤ 1000000) : decide (n ≤ sizeLine) = true := decide_eq_true (small_le h)
/-- a run of an expression, of a statement, told by its answer -/
theorem nxM_ok {α : Type} {m : M α} {st st' : DS} {a : α} (h : m st = .ok a st') : nxM m st = .ok a st' := by unfold nxM; rw [h]
theorem sE_ok {α : Type} {m : M α} {Γ : Ev} {f : α → M Fl} {st st' : DS} {a : α} (h : m st = .ok a st') : sE m Γ f st = f a st' := by unfold sE; rw [h]
theorem mVar_at {i : Nat} {Γ : Ev} {st : DS} {d : D} (h : Γ[i]? = some (some (.dat d))) : mVar i Γ st = .ok d st := by unfold mVar; rw [h]
theorem fnM_ret {np n : Nat} {mb : SM} {ds : List D} {st st' : DS} {d : D} (hl : ds.length = np) (h : mb (startE n ds) st = .ok (.rt d) st') : fnM np n mb ds st = .ok d st' := by
  unfold fnM
  rw [if_pos hl]
  show (nxM (mb (startE n ds)) st).bind kRet = _
  rw [nxM_ok h]
  rfl
theorem fnM_nx {np n : Nat} {mb : SM} {ds : List D} {st st' : DS} {Γ : Ev} (hl : ds.length = np) (h : mb (startE n ds) st = .ok (.nx Γ) st') : fnM np n mb ds st = .ok .non st' := by
  unfold fnM
  rw [if_pos hl]
  show (nxM (mb (startE n ds)) st).bind kRet = _
  rw [nxM_ok h]
  rfl
theorem mSeq_nx {m m2 : SM} {Γ Γ' : Ev} {st st' : DS} (h : m Γ st = .ok (.nx Γ') st') : mSeq m m2 Γ st = m2 Γ' st' := by
  show (m Γ st).bind (kSeq m2) = _
  rw [h]
  rfl
theorem mSeq_rt {m m2 : SM} {Γ : Ev} {st st' : DS} {d : D} (h : m Γ st = .ok (.rt d) st') : mSeq m m2 Γ st = .ok (.rt d) st' := by
  show (m Γ st).bind (kSeq m2) = _
  rw [h]
  rfl
/-! ### comprehensions -/
/-- each item answered at once, the deal untouched -/
theorem compL_pure {g : GM} {t : Ev → M Bool} {e : EM} {Γ : Ev} {st : DS} (p : D → Bool) (f : D → D) : ∀ {xs : List D}, (∀ d ∈ xs, ∃ Γ1, g d Γ = some Γ1 ∧ t Γ1 st = .ok (p d) st ∧ (p d = true → e Γ1 st = .ok (f d) st)) → compL g t e Γ xs st = .ok ((xs.filter p).map f) st
  | [], _ => rfl
  | d :: xs, h => by
    obtain ⟨Γ1, h1, h2, h3⟩ := h d List.mem_cons_self
    have ih := compL_pure p f fun x hx => h x (List.mem_cons_of_mem _ hx)
    unfold compL
    rw [h1]
    show (nxM (t Γ1) st).bind (fun c => if c = true then _ else _) = _
    rw [nxM_ok h2]
    show (if p d = true then _ else _ : M (List D)) st = _
    by_cases hp : p d = true
    · rw [if_pos hp]
      show (nxM (e Γ1) st).bind _ = _
      rw [nxM_ok (h3 hp)]
      show (compL g t e Γ xs st).bind _ = _
      rw [ih, List.filter_cons_of_pos hp]
      rfl
    · rw [if_neg hp, ih, List.filter_cons_of_neg hp]
theorem comp_pure {mi : Ev → M (List D)} {g : GM} {t : Ev → M Bool} {e : EM} {vs : List Nat} {Γ : Ev} {st st' : DS} {xs : List D} (p : D → Bool) (f : D → D) (hi : mi Γ st = .ok xs st') (hl : xs.length ≤ 1000000)
    (h : ∀ d ∈ xs, ∃ Γ1, g d (wipeE Γ vs) = some Γ1 ∧ t Γ1 st' = .ok (p d) st' ∧ (p d = true → e Γ1 st' = .ok (f d) st')) : mComp mi g t e vs Γ st = .ok ((xs.filter p).map f) st' := by
  show (mi Γ st).bind _ = _
  rw [hi]
  show (if decide (xs.length ≤ sizeLine) = true then _ else _ : M (List D)) st' = _
  rw [if_pos (dec_le hl)]
  exact compL_pure p f h
/-- all taken, no test -/
theorem comp_map {mi : Ev → M (List D)} {g : GM} {e : EM} {vs : List Nat} {Γ : Ev} {st st' : DS} {xs : List D} (f : D → D) (hi : mi Γ st = .ok xs st') (hl : xs.length ≤ 1000000)
    (h : ∀ d ∈ xs, ∃ Γ1, g d (wipeE Γ vs) = some Γ1 ∧ e Γ1 st' = .ok (f d) st') : mComp mi g mYes e vs Γ st = .ok (xs.map f) st' := by
  have q := comp_pure (t := mYes) (e := e) (g := g) (vs := vs) (fun _ => true) f hi hl fun d hd => let ⟨Γ1, a, b⟩ := h d hd; ⟨Γ1, a, rfl, fun _ => b⟩
  rw [q, List.filter_eq_self.mpr fun _ _ => rfl]
/-- the same, the items told by their meanings -/
theorem compL_enc {α : Type} {g : GM} {t : Ev → M Bool} {e : EM} {Γ : Ev} {st : DS} (enc : α → D) (p : α → Bool) (f : α → D) : ∀ {us : List α}, (∀ u ∈ us, ∃ Γ1, g (enc u) Γ = some Γ1 ∧ t Γ1 st = .ok (p u) st ∧ (p u = true → e Γ1 st = .ok (f u) st)) → compL g t e Γ (us.map enc) st = .ok ((us.filter p).map f) st
  | [], _ => rfl
  | u :: us, h => by
    obtain ⟨Γ1, h1, h2, h3⟩ := h u List.mem_cons_self
    have ih := compL_enc enc p f fun x hx => h x (List.mem_cons_of_mem _ hx)
    rw [List.map_cons]
    unfold compL
    rw [h1]
    show (nxM (t Γ1) st).bind (fun c => if c = true then _ else _) = _
    rw [nxM_ok h2]
    show (if p u = true then _ else _ : M (List D)) st = _
    by_cases hp : p u = true
    · rw [if_pos hp]
      show (nxM (e Γ1) st).bind _ = _
      rw [nxM_ok (h3 hp)]
      show (compL g t e Γ (us.map enc) st).bind _ = _
      rw [ih, List.filter_cons_of_pos hp]
      rfl
    · rw [if_neg hp, ih, List.filter_cons_of_neg hp]
theorem comp_encF {α : Type} {mi : Ev → M (List D)} {g : GM} {t : Ev → M Bool} {e : EM} {vs : List Nat} {Γ : Ev} {st st' : DS} (us : List α) (enc : α → D) (p : α → Bool) (f : α → D) (hi : mi Γ st = .ok (us.map enc) st') (hl : us.length ≤ 1000000)
    (h : ∀ u ∈ us, ∃ Γ1, g (enc u) (wipeE Γ vs) = some Γ1 ∧ t Γ1 st' = .ok (p u) st' ∧ (p u = true → e Γ1 st' = .ok (f u) st')) : mComp mi g t e vs Γ st = .ok ((us.filter p).map f) st' := by
  show (mi Γ st).bind _ = _
  rw [hi]
  show (if decide ((us.map enc).length ≤ sizeLine) = true then _ else _ : M (List D)) st' = _
  rw [if_pos (dec_le (by rw [List.length_map]; exact hl))]
  exact compL_enc enc p f h
theorem comp_enc {α : Type} {mi : Ev → M (List D)} {g : GM} {e : EM} {vs : List Nat} {Γ : Ev} {st st' : DS} (us : List α) (enc : α → D) (f : α → D) (hi : mi Γ st = .ok (us.map enc) st') (hl : us.length ≤ 1000000)
    (h : ∀ u ∈ us, ∃ Γ1, g (enc u) (wipeE Γ vs) = some Γ1 ∧ e Γ1 st' = .ok (f u) st') : mComp mi g mYes e vs Γ st = .ok (us.map f) st' := by
  have q := comp_encF (t := mYes) (e := e) (g := g) (vs := vs) us enc (fun _ => true) f hi hl fun d hd => let ⟨Γ1, a, b⟩ := h d hd; ⟨Γ1, a, rfl, fun _ => b⟩
  rw [q, List.filter_eq_self.mpr fun _ _ => rfl]
theorem zipD_map {α β : Type} (f : α → D) (g : β → D) : ∀ (xs : List α) (ys : List β), zipD (xs.map f) (ys.map g) = (xs.zip ys).map fun p => .ltp [f p.1, g p.2]
  | [], _ => by simp [zipD]
  | _ :: _, [] => by simp [zipD]
  | x :: xs, y :: ys => by
    have ih := zipD_map f g xs ys
    unfold zipD at ih ⊢
    simp only [List.map_cons, List.zipWith_cons_cons, List.zip_cons_cons]
    rw [ih]
theorem enumD_map {α : Type} (f : α → D) (xs : List α) : enumD (xs.map f) = (xs.zipIdx).map fun p => .ltp [.int (p.2 : Nat), f p.1] := by
  unfold enumD
  apply List.ext_getElem?
  intro i
  rw [List.getElem?_zipWith, List.getElem?_map, List.getElem?_map, List.getElem?_zipIdx, List.length_map]
  by_cases hi : i < xs.length
  · rw [List.getElem?_range hi, List.getElem?_eq_getElem hi]
    simp
  · rw [List.getElem?_eq_none (by simpa using hi), List.getElem?_eq_none (by simpa using hi)]
    rfl
theorem range1_at {n : Nat} {st : DS} (h : n ≤ 1000000) : gRange1 [.int (n : Nat)] st = .ok ((List.range n).map fun i => .int ((i : Nat) : Int)) st := by
  unfold gRange1
  dsimp only
  rw [if_pos (decide_eq_true ⟨by omega, by omega⟩), Int.toNat_natCast]
  simp only [Int.zero_add]
/-- two lists, item by item -/
inductive All2 {α β : Type} (R : α → β → Prop) : List α → List β → Prop
  | nil : All2 R [] []
  | cons {a : α} {b : β} {as : List α} {bs : List β} (h : R a b) (t : All2 R as bs) : All2 R (a :: as) (b :: bs)
/-- things are drawn: each answer has the property R, whatever the deal -/
theorem compL_draw {g : GM} {e : EM} {Γ : Ev} (R : D → D → Prop) : ∀ {xs : List D} (st : DS), (∀ d ∈ xs, ∃ Γ1, g d Γ = some Γ1 ∧ ∀ st, ∃ y st', e Γ1 st = .ok y st' ∧ R d y) → ∃ ys st', compL g mYes e Γ xs st = .ok ys st' ∧ All2 R xs ys
  | [], st, _ => ⟨[], st, rfl, .nil⟩
  | d :: xs, st, h => by
    obtain ⟨Γ1, h1, h2⟩ := h d List.mem_cons_self
    obtain ⟨y, st1, e1, r1⟩ := h2 st
    obtain ⟨ys, st2, e2, r2⟩ := compL_draw R st1 fun x hx => h x (List.mem_cons_of_mem _ hx)
    refine ⟨y :: ys, st2, ?_, .cons r1 r2⟩
    unfold compL
    rw [h1]
    show (nxM (e Γ1) st).bind _ = _
    rw [nxM_ok e1]
    show (compL g mYes e Γ xs st1).bind _ = _
    rw [e2]
    rfl
theorem comp_draw {mi : Ev → M (List D)} {g : GM} {e : EM} {vs : List Nat} {Γ : Ev} {st st1 : DS} {xs : List D} (R : D → D → Prop) (hi : mi Γ st = .ok xs st1) (hl : xs.length ≤ 1000000)
    (h : ∀ d ∈ xs, ∃ Γ1, g d (wipeE Γ vs) = some Γ1 ∧ ∀ st, ∃ y st', e Γ1 st = .ok y st' ∧ R d y) : ∃ ys st', mComp mi g mYes e vs Γ st = .ok ys st' ∧ All2 R xs ys := by
  obtain ⟨ys, st', h1, h2⟩ := compL_draw R st1 h
  refine ⟨ys, st', ?_, h2⟩
  show (mi Γ st).bind _ = _
  rw [hi]
  show (if decide (xs.length ≤ sizeLine) = true then _ else _ : M (List D)) st1 = _
  rw [if_pos (dec_le hl)]
  exact h1
/-! ### loops -/
/-- a for loop whose turns go on -/
theorem loop_nx {g : GM} {mb : SM} (I : List D → Ev → DS → Prop) : ∀ {xs : List D} {Γ : Ev} {st : DS}, I xs Γ st → (∀ d r Γ st, I (d :: r) Γ st → ∃ Γ1 Γ2 st2, g d Γ = some Γ1 ∧ (mb Γ1 st = .ok (.nx Γ2) st2 ∨ mb Γ1 st = .ok (.ct Γ2) st2) ∧ I r Γ2 st2) → ∃ Γ' st', loopS g mb xs Γ st = .ok (.nx Γ') st' ∧ I [] Γ' st'
  | [], Γ, st, i, _ => ⟨Γ, st, rfl, i⟩
  | d :: r, Γ, st, i, h => by
    obtain ⟨Γ1, Γ2, st2, h1, h2, h3⟩ := h d r Γ st i
    obtain ⟨Γ', st', q1, q2⟩ := loop_nx I h3 h
    refine ⟨Γ', st', ?_, q2⟩
    unfold loopS
    rw [h1]
    show (mb Γ1 st).bind _ = _
    rcases h2 with h2 | h2
    · rw [h2]; exact q1
    · rw [h2]; exact q1
/-- a for loop over things of which the first that returns ends it -/
theorem loop_find {g : GM} {mb : SM} {Γ0 : Ev} {st : DS} (b : D → Option D) (G : D → Ev) (hg : ∀ d Γ, (∃ d', Γ = G d') ∨ Γ = Γ0 → g d Γ = some (G d)) : ∀ {xs : List D} {Γ : Ev}, ((∃ d', Γ = G d') ∨ Γ = Γ0) → (∀ d ∈ xs, mb (G d) st = .ok (match b d with | some r => .rt r | none => .nx (G d)) st) →
    (∀ r, xs.findSome? b = some r → loopS g mb xs Γ st = .ok (.rt r) st) ∧ (xs.findSome? b = none → ∃ Γ', ((∃ d', Γ' = G d') ∨ Γ' = Γ0) ∧ loopS g mb xs Γ st = .ok (.nx Γ') st)
  | [], Γ, hΓ, _ => ⟨fun r h => by simp at h, fun _ => ⟨Γ, hΓ, rfl⟩⟩
  | d :: xs, Γ, hΓ, h => by
    have h1 := hg d Γ hΓ
    have h2 := h d List.mem_cons_self
    have ih := loop_find b G hg (xs := xs) (Γ := G d) (.inl ⟨d, rfl⟩) fun x hx => h x (List.mem_cons_of_mem _ hx)
    cases eb : b d with
    | some r' =>
      rw [eb] at h2
      refine ⟨fun r hr => ?_, fun hn => ?_⟩
      · rw [List.findSome?_cons, eb] at hr
        cases hr
        unfold loopS
        rw [h1]
        show (mb (G d) st).bind _ = _
        rw [h2]
        rfl
      · rw [List.findSome?_cons, eb] at hn
        cases hn
    | none =>
      rw [eb] at h2
      have step : loopS g mb (d :: xs) Γ st = loopS g mb xs (G d) st := by
        rw [loopS, h1]
        show (mb (G d) st).bind _ = _
        rw [h2]
        rfl
      rw [step, List.findSome?_cons, eb]
      exact ih
/-! ### drawn numbers -/
theorem any_draw {c m : Int} (hm : 0 < m) (hl : m < 2 ^ 8000) (st : DS) : ∃ v st', gAnyD c [.deal, .int m] st = .ok (.int v) st' ∧ 0 ≤ v ∧ v < m := by
  have lg : m.natAbs.log2 < 9000 := by
    have h0 : m.natAbs ≠ 0 := by omega
    have h1 : m.natAbs < 2 ^ 8000 := by omega
    have h2 := (Nat.log2_lt h0).mpr h1
    omega
  refine ⟨(anyI c st m).1, (anyI c st m).2, ?_, ?_⟩
  · unfold gAnyD
    simp only
    rw [if_pos (decide_eq_true ⟨hm, lg⟩)]
  · unfold anyI
    split
    · exact ⟨Int.emod_nonneg _ (by omega), Int.emod_lt_of_pos _ hm⟩
    · exact ⟨Int.emod_nonneg _ (by omega), Int.emod_lt_of_pos _ hm⟩
end FL

/-! FL20: expressions evaluated -/
namespace FL
open PySem L2
theorem mOp_at {g : M2} {ma mb : EM} {Γ : Ev} {s0 s1 s2 s3 : DS} {a b y : D} (h1 : ma Γ s0 = .ok a s1) (h2 : mb Γ s1 = .ok b s2) (h3 : g a b s2 = .ok y s3) : mOp g ma mb Γ s0 = .ok y s3 := by
  show (ma Γ s0).bind _ = _
  rw [h1]
  show (mb Γ s1).bind _ = _
  rw [h2]
  exact h3
theorem mCons_at {m : EM} {mr : Ev → M (List D)} {Γ : Ev} {s0 s1 s2 : DS} {a : D} {r : List D} (h1 : m Γ s0 = .ok a s1) (h2 : mr Γ s1 = .ok r s2) : mCons m mr Γ s0 = .ok (a :: r) s2 := by
  show (m Γ s0).bind _ = _
  rw [h1]
  show (mr Γ s1).bind _ = _
  rw [h2]
  rfl
theorem mCall_at {g : List D → M D} {mr : Ev → M (List D)} {Γ : Ev} {s0 s1 s2 : DS} {r : List D} {y : D} (h1 : mr Γ s0 = .ok r s1) (h2 : g r s1 = .ok y s2) : mCall g mr Γ s0 = .ok y s2 := by
  show (mr Γ s0).bind _ = _
  rw [h1]
  exact h2
theorem mCall1 {g : List D → M D} {m : EM} {Γ : Ev} {s0 s1 s2 : DS} {a y : D} (h1 : m Γ s0 = .ok a s1) (h2 : g [a] s1 = .ok y s2) : mCall g (mCons m mNil) Γ s0 = .ok y s2 := mCall_at (mCons_at h1 rfl) h2
theorem mCall2 {g : List D → M D} {m m2 : EM} {Γ : Ev} {s0 s1 s2 s3 : DS} {a b y : D} (h1 : m Γ s0 = .ok a s1) (h2 : m2 Γ s1 = .ok b s2) (h3 : g [a, b] s2 = .ok y s3) : mCall g (mCons m (mCons m2 mNil)) Γ s0 = .ok y s3 := mCall_at (mCons_at h1 (mCons_at h2 rfl)) h3
theorem mCall3 {g : List D → M D} {m m2 m3 : EM} {Γ : Ev} {s0 s1 s2 s3 s4 : DS} {a b c y : D} (h1 : m Γ s0 = .ok a s1) (h2 : m2 Γ s1 = .ok b s2) (h3 : m3 Γ s2 = .ok c s3) (h4 : g [a, b, c] s3 = .ok y s4) : mCall g (mCons m (mCons m2 (mCons m3 mNil))) Γ s0 = .ok y s4 := mCall_at (mCons_at h1 (mCons_at h2 (mCons_at h3 rfl))) h4
theorem nxC {g : List D → M D} {r : List D} {y : D} {s0 s1 : DS} (h : g r s0 = .ok y s1) : (fun ds => nxM (g ds)) r s0 = .ok y s1 := nxM_ok h
theorem mFrz_at {m : Ev → M (List D)} {Γ : Ev} {s0 s1 : DS} {xs : List D} (h : m Γ s0 = .ok xs s1) : mFrz m Γ s0 = .ok (.lst xs) s1 := by
  show (m Γ s0).bind _ = _
  rw [h]
  rfl
theorem mSrc_at {g : List D → M (List D)} {mr : Ev → M (List D)} {Γ : Ev} {s0 s1 s2 : DS} {r xs : List D} (h1 : mr Γ s0 = .ok r s1) (h2 : g r s1 = .ok xs s2) : mSrc g mr Γ s0 = .ok xs s2 := by
  show (mr Γ s0).bind _ = _
  rw [h1]
  exact h2
theorem mSeqOf_at {m : EM} {Γ : Ev} {s0 s1 s2 : DS} {d : D} {xs : List D} (h1 : m Γ s0 = .ok d s1) (h2 : gSeq d s1 = .ok xs s2) : mSeqOf m Γ s0 = .ok xs s2 := by
  show (m Γ s0).bind _ = _
  rw [h1]
  exact h2
theorem mRet_at {m : EM} {Γ : Ev} {s0 s1 : DS} {d : D} (h : m Γ s0 = .ok d s1) : mRet m Γ s0 = .ok (.rt d) s1 := by
  unfold mRet
  rw [sE_ok h]
  rfl
theorem mB_at {m : EM} {Γ : Ev} {s0 s1 : DS} {b : Bool} (h : m Γ s0 = .ok (.bl b) s1) : mB m Γ s0 = .ok b s1 := by
  show (m Γ s0).bind _ = _
  rw [h]
  rfl
/-! ### lists of ints -/
theorem ix_nat {n i : Nat} (h : i < n) : ixN n (i : Int) = some i := by
  unfold ixN
  rw [if_pos (by omega), if_pos (by omega)]
  simp
theorem at_nat {α : Type} {xs : List α} {i : Nat} {x : α} (h : xs[i]? = some x) : atI xs (i : Int) = some x := by
  unfold atI
  rw [ix_nat (List.getElem?_eq_some_iff.mp h).1]
  exact h
theorem gIx_tup {xs : List D} {i : Nat} {x : D} {st : DS} (h : xs[i]? = some x) : gIx (.tup xs) (.int i) st = .ok x st := by
  show (match atI xs (i : Int) with | some z => Out.ok z st | none => .stuck) = _
  rw [at_nat h]
theorem gIx_lst {xs : List D} {i : Nat} {x : D} {st : DS} (h : xs[i]? = some x) : gIx (.lst xs) (.int i) st = .ok x st := by
  show (match atI xs (i : Int) with | some z => Out.ok z st | none => .stuck) = _
  rw [at_nat h]
theorem gIx_bor {xs : List D} {i : Nat} {x : D} {st : DS} (h : xs[i]? = some x) : gIx (.bor xs) (.int i) st = .ok x st := by
  show (match atI xs (i : Int) with | some z => Out.ok z st | none => .stuck) = _
  rw [at_nat h]
theorem gSum_lst {r : List Int} {st : DS} : gSum [.lst (r.map D.int)] st = .ok (.int r.sum) st := by
  show (match intsD (r.map D.int) with | some ns => Out.ok (D.int ns.sum) st | none => .stuck) = _
  rw [intsD_map]
theorem gSum_tup {r : List Int} {st : DS} : gSum [.tup (r.map D.int)] st = .ok (.int r.sum) st := by
  show (match intsD (r.map D.int) with | some ns => Out.ok (D.int ns.sum) st | none => .stuck) = _
  rw [intsD_map]
theorem gSum_bor {r : List Int} {st : DS} : gSum [.bor (r.map D.int)] st = .ok (.int r.sum) st := by
  show (match intsD (r.map D.int) with | some ns => Out.ok (D.int ns.sum) st | none => .stuck) = _
  rw [intsD_map]
theorem gAll_lst {r : List Bool} {st : DS} : gAll [.lst (r.map D.bl)] st = .ok (.bl (r.all id)) st := by
  show (match blsD (r.map D.bl) with | some bs => Out.ok (D.bl (bs.all id)) st | none => .stuck) = _
  rw [blsD_map]
theorem gMin_lst {a : Int} {r : List Int} {st : DS} : gMin [.lst ((a :: r).map D.int)] st = .ok (.int (minI a r)) st := by
  show (match intsD ((a :: r).map D.int) with | some (a :: r) => Out.ok (D.int (minI a r)) st | _ => .stuck) = _
  rw [intsD_map]
theorem gMax_lst {a : Int} {r : List Int} {st : DS} : gMax [.lst ((a :: r).map D.int)] st = .ok (.int (maxI a r)) st := by
  show (match intsD ((a :: r).map D.int) with | some (a :: r) => Out.ok (D.int (maxI a r)) st | _ => .stuck) = _
  rw [intsD_map]
theorem getI {r : List Int} {i : Nat} (h : i < r.length) : (r.map D.int)[i]? = some (.int (r.getD i 0)) := by
  rw [List.getElem?_map, List.getElem?_eq_getElem h, List.getD_eq_getElem?_getD, List.getElem?_eq_getElem h]; rfl
end FL

/-! FL21: what is drawn: answers with a property whatever the deal; the deal itself -/
namespace FL
open PySem L2
def W {α : Type} (m : M α) (P : α → Prop) : Prop := ∀ st, ∃ a st', m st = .ok a st' ∧ P a
theorem W.of {α : Type} {m : M α} {P : α → Prop} {a : α} (h : ∀ st, m st = .ok a st) (p : P a) : W m P := fun st => ⟨a, st, h st, p⟩
theorem W.mono {α : Type} {m : M α} {P Q : α → Prop} (h : W m P) (q : ∀ a, P a → Q a) : W m Q := fun st => let ⟨a, s, e, p⟩ := h st; ⟨a, s, e, q a p⟩
theorem W.nx {α : Type} {m : M α} {P : α → Prop} (h : W m P) : W (nxM m) P := fun st => let ⟨a, s, e, p⟩ := h st; ⟨a, s, nxM_ok e, p⟩
theorem W.bind {α β : Type} {m : M α} {f : α → M β} {P : α → Prop} {Q : β → Prop} (h : W m P) (h2 : ∀ a, P a → W (f a) Q) : W (fun st => (m st).bind f) Q := fun st => by
  obtain ⟨a, s1, e, p⟩ := h st
  obtain ⟨b, s2, e2, q⟩ := h2 a p s1
  exact ⟨b, s2, by show (m st).bind f = _; rw [e]; exact e2, q⟩
theorem w_var {i : Nat} {Γ : Ev} {d : D} {P : D → Prop} (h : Γ[i]? = some (some (.dat d))) (p : P d) : W (mVar i Γ) P := .of (fun _ => mVar_at h) p
theorem w_c {d : D} {Γ : Ev} {P : D → Prop} (p : P d) : W (mC d Γ) P := .of (fun _ => rfl) p
theorem w_op {g : M2} {ma mb : EM} {Γ : Ev} {P Q R : D → Prop} (h1 : W (ma Γ) P) (h2 : W (mb Γ) Q) (h3 : ∀ a b, P a → Q b → W (g a b) R) : W (mOp g ma mb Γ) R :=
  W.bind h1 fun a pa => W.bind h2 fun b pb => h3 a b pa pb
theorem w_un {g : D → M D} {ma : EM} {Γ : Ev} {P R : D → Prop} (h1 : W (ma Γ) P) (h3 : ∀ a, P a → W (g a) R) : W (mUn g ma Γ) R := W.bind h1 h3
theorem w_nil {Γ : Ev} {P : List D → Prop} (p : P []) : W (mNil Γ) P := .of (fun _ => rfl) p
theorem w_cons {ma : EM} {mr : Ev → M (List D)} {Γ : Ev} {P : D → Prop} {Q R : List D → Prop} (h1 : W (ma Γ) P) (h2 : W (mr Γ) Q) (h3 : ∀ a r, P a → Q r → R (a :: r)) : W (mCons ma mr Γ) R :=
  W.bind h1 fun a pa => W.bind h2 fun r pr => .of (fun _ => rfl) (h3 a r pa pr)
theorem w_call {g : List D → M D} {mr : Ev → M (List D)} {Γ : Ev} {P : List D → Prop} {R : D → Prop} (h1 : W (mr Γ) P) (h2 : ∀ r, P r → W (g r) R) : W (mCall g mr Γ) R := W.bind h1 h2
theorem w_call1 {g : List D → M D} {m : EM} {Γ : Ev} {P R : D → Prop} (h1 : W (m Γ) P) (h2 : ∀ a, P a → W (g [a]) R) : W (mCall g (mCons m mNil) Γ) R :=
  w_call (w_cons (R := fun r => ∃ a, r = [a] ∧ P a) h1 (w_nil rfl) fun a r pa e => ⟨a, by rw [e], pa⟩) fun r ⟨a, e, p⟩ => e ▸ h2 a p
theorem w_call2 {g : List D → M D} {m m2 : EM} {Γ : Ev} {P Q R : D → Prop} (h1 : W (m Γ) P) (h2 : W (m2 Γ) Q) (h3 : ∀ a b, P a → Q b → W (g [a, b]) R) : W (mCall g (mCons m (mCons m2 mNil)) Γ) R :=
  w_call (w_cons (R := fun r => ∃ a b, r = [a, b] ∧ P a ∧ Q b) h1 (w_cons (R := fun r => ∃ b, r = [b] ∧ Q b) h2 (w_nil rfl) fun b r pb e => ⟨b, by rw [e], pb⟩) fun a r pa ⟨b, e, pb⟩ => ⟨a, b, by rw [e], pa, pb⟩) fun r ⟨a, b, e, p, q⟩ => e ▸ h3 a b p q
theorem w_call3 {g : List D → M D} {m m2 m3 : EM} {Γ : Ev} {P Q S R : D → Prop} (h1 : W (m Γ) P) (h2 : W (m2 Γ) Q) (h3 : W (m3 Γ) S) (h4 : ∀ a b c, P a → Q b → S c → W (g [a, b, c]) R) : W (mCall g (mCons m (mCons m2 (mCons m3 mNil))) Γ) R :=
  w_call (w_cons (R := fun r => ∃ a b c, r = [a, b, c] ∧ P a ∧ Q b ∧ S c) h1 (w_cons (R := fun r => ∃ b c, r = [b, c] ∧ Q b ∧ S c) h2 (w_cons (R := fun r => ∃ c, r = [c] ∧ S c) h3 (w_nil rfl) fun c r pc e => ⟨c, by rw [e], pc⟩) fun b r pb ⟨c, e, pc⟩ => ⟨b, c, by rw [e], pb, pc⟩) fun a r pa ⟨b, c, e, pb, pc⟩ => ⟨a, b, c, by rw [e], pa, pb, pc⟩) fun r ⟨a, b, c, e, p, q, s⟩ => e ▸ h4 a b c p q s
theorem w_frz {m : Ev → M (List D)} {Γ : Ev} {P : List D → Prop} {R : D → Prop} (h1 : W (m Γ) P) (h2 : ∀ xs, P xs → R (.lst xs)) : W (mFrz m Γ) R := W.bind h1 fun xs p => .of (fun _ => rfl) (h2 xs p)
theorem w_src {g : List D → M (List D)} {mr : Ev → M (List D)} {Γ : Ev} {P R : List D → Prop} (h1 : W (mr Γ) P) (h2 : ∀ r, P r → W (g r) R) : W (mSrc g mr Γ) R := W.bind h1 h2
theorem w_tup {mr : Ev → M (List D)} {Γ : Ev} {P : List D → Prop} {R : D → Prop} (h1 : W (mr Γ) P) (h2 : ∀ r, P r → r.length ≤ 1000000 ∧ R (.tup r)) : W (mTup mr Γ) R := W.bind h1 fun r p st => ⟨_, st, by
  have := h2 r p
  show (if decide (r.length ≤ sizeLine) = true then _ else _ : M D) st = _
  rw [if_pos (dec_le this.1)]
  rfl, (h2 r p).2⟩
theorem w_lst {mr : Ev → M (List D)} {Γ : Ev} {P : List D → Prop} {R : D → Prop} (h1 : W (mr Γ) P) (h2 : ∀ r, P r → r.length ≤ 1000000 ∧ R (.lst r)) : W (mLst mr Γ) R := W.bind h1 fun r p st => ⟨_, st, by
  have := h2 r p
  show (if decide (r.length ≤ sizeLine) = true then _ else _ : M D) st = _
  rw [if_pos (dec_le this.1)]
  rfl, (h2 r p).2⟩
theorem mTup_at {mr : Ev → M (List D)} {Γ : Ev} {s0 s1 : DS} {r : List D} (h : mr Γ s0 = .ok r s1) (hl : r.length ≤ 1000000) : mTup mr Γ s0 = .ok (.tup r) s1 := by
  show (mr Γ s0).bind _ = _
  rw [h]
  show (if decide (r.length ≤ sizeLine) = true then _ else _ : M D) s1 = _
  rw [if_pos (dec_le hl)]
  rfl
theorem mLst_at {mr : Ev → M (List D)} {Γ : Ev} {s0 s1 : DS} {r : List D} (h : mr Γ s0 = .ok r s1) (hl : r.length ≤ 1000000) : mLst mr Γ s0 = .ok (.lst r) s1 := by
  show (mr Γ s0).bind _ = _
  rw [h]
  show (if decide (r.length ≤ sizeLine) = true then _ else _ : M D) s1 = _
  rw [if_pos (dec_le hl)]
  rfl
theorem mUn_at {g : D → M D} {m : EM} {Γ : Ev} {s0 s1 s2 : DS} {a y : D} (h1 : m Γ s0 = .ok a s1) (h2 : g a s1 = .ok y s2) : mUn g m Γ s0 = .ok y s2 := by
  show (m Γ s0).bind _ = _
  rw [h1]
  exact h2
theorem w_if {t : Ev → M Bool} {ma mb : EM} {Γ : Ev} {P : Bool → Prop} {R : D → Prop} (h1 : W (t Γ) P) (ht : P true → W (ma Γ) R) (hf : P false → W (mb Γ) R) : W (mIf t ma mb Γ) R := W.bind h1 fun b p => by
  cases b with
  | true => exact ht p
  | false => exact hf p
theorem w_b {ma : EM} {Γ : Ev} {P : D → Prop} {R : Bool → Prop} (h1 : W (ma Γ) P) (h2 : ∀ d, P d → ∃ b, d = .bl b ∧ R b) : W (mB ma Γ) R := W.bind h1 fun d p => by
  obtain ⟨b, e, r⟩ := h2 d p
  subst e
  exact .of (fun _ => rfl) r
/-! ### statements -/
theorem w_sE {α : Type} {m : M α} {Γ : Ev} {f : α → M Fl} {P : α → Prop} {R : Fl → Prop} (h1 : W m P) (h2 : ∀ a, P a → W (f a) R) : W (sE m Γ f) R := fun st => by
  obtain ⟨a, s1, e, p⟩ := h1 st
  obtain ⟨b, s2, e2, q⟩ := h2 a p s1
  exact ⟨b, s2, (sE_ok e).trans e2, q⟩
theorem w_ret {me : EM} {Γ : Ev} {P : D → Prop} {R : Fl → Prop} (h1 : W (me Γ) P) (h2 : ∀ d, P d → R (.rt d)) : W (mRet me Γ) R := w_sE h1 fun d p => .of (fun _ => rfl) (h2 d p)
theorem w_asg {me : EM} {g : GM} {Γ : Ev} {P : D → Prop} {R : Fl → Prop} (h1 : W (me Γ) P) (h2 : ∀ d, P d → ∃ Γ', g d Γ = some Γ' ∧ R (.nx Γ')) : W (mAsg me g Γ) R := w_sE h1 fun d p => by
  obtain ⟨Γ', e, r⟩ := h2 d p
  refine .of (a := Fl.nx Γ') (fun st => ?_) r
  show (match g d Γ with | some Γ' => (pure (Fl.nx Γ') : M Fl) | none => halt) st = _
  rw [e]
  rfl
theorem w_seq {m m2 : SM} {Γ : Ev} {P : Ev → Prop} {R : Fl → Prop} (h1 : W (m Γ) fun r => ∃ Γ', r = .nx Γ' ∧ P Γ') (h2 : ∀ Γ', P Γ' → W (m2 Γ') R) : W (mSeq m m2 Γ) R := W.bind h1 fun r p => by
  obtain ⟨Γ', e, p⟩ := p
  subst e
  exact h2 Γ' p
theorem w_ifS {t : Ev → M Bool} {ma mb : SM} {Γ : Ev} {P : Bool → Prop} {R : Fl → Prop} (h1 : W (t Γ) P) (ht : P true → W (ma Γ) R) (hf : P false → W (mb Γ) R) : W (mIfS t ma mb Γ) R := w_sE h1 fun b p => by
  cases b with
  | true => exact ht p
  | false => exact hf p
theorem w_next {Γ : Ev} {R : Fl → Prop} (h : R (.nx Γ)) : W (mNext Γ) R := .of (fun _ => rfl) h
theorem w_setO {i : Nat} {m : Ev → M (List D)} {Γ : Ev} {P : List D → Prop} {R : Fl → Prop} (h1 : W (m Γ) P) (h2 : ∀ xs, P xs → R (.nx (Γ.set i (some (.own xs))))) : W (mSetO i m Γ) R := w_sE h1 fun xs p => .of (fun _ => rfl) (h2 xs p)
/-- a loop: I of the things that are left and the names -/
theorem w_loop {g : GM} {mb : SM} (I : List D → Ev → Prop) : ∀ {xs : List D} {Γ : Ev}, I xs Γ → (∀ d r Γ, I (d :: r) Γ → ∃ Γ1, g d Γ = some Γ1 ∧ W (mb Γ1) fun f => ∃ Γ2, (f = .nx Γ2 ∨ f = .ct Γ2) ∧ I r Γ2) → W (loopS g mb xs Γ) fun f => ∃ Γ', f = .nx Γ' ∧ I [] Γ'
  | [], Γ, i, _ => .of (fun _ => rfl) ⟨Γ, rfl, i⟩
  | d :: r, Γ, i, h => by
    obtain ⟨Γ1, h1, h2⟩ := h d r Γ i
    rw [loopS, h1]
    refine W.bind h2 fun f p => ?_
    obtain ⟨Γ2, e, i2⟩ := p
    rcases e with e | e
    · subst e; exact w_loop I i2 h
    · subst e; exact w_loop I i2 h
theorem w_for {mi : Ev → M (List D)} {g : GM} {mb : SM} {Γ : Ev} (I : List D → Ev → Prop) {P : List D → Prop} (h0 : W (mi Γ) P) (hI : ∀ xs, P xs → I xs Γ) (h : ∀ d r Γ, I (d :: r) Γ → ∃ Γ1, g d Γ = some Γ1 ∧ W (mb Γ1) fun f => ∃ Γ2, (f = .nx Γ2 ∨ f = .ct Γ2) ∧ I r Γ2) : W (mFor mi g mb Γ) fun f => ∃ Γ', f = .nx Γ' ∧ I [] Γ' :=
  w_sE h0 fun xs p => w_loop I (hI xs p) h
theorem w_fn {np n : Nat} {mb : SM} {ds : List D} {R : D → Prop} (hl : ds.length = np) (h : W (mb (startE n ds)) fun f => ∃ d, f = .rt d ∧ R d) : W (fnM np n mb ds) R := fun st => by
  obtain ⟨f, s1, e, d, rfl, r⟩ := h st
  exact ⟨d, s1, fnM_ret hl e, r⟩
/-- things are drawn, one for each -/
theorem w_comp {mi : Ev → M (List D)} {g : GM} {e : EM} {vs : List Nat} {Γ : Ev} {P : List D → Prop} (R : D → D → Prop) {Q : List D → Prop} (h0 : W (mi Γ) P) (hl : ∀ xs, P xs → xs.length ≤ 1000000)
    (h : ∀ xs, P xs → ∀ d ∈ xs, ∃ Γ1, g d (wipeE Γ vs) = some Γ1 ∧ W (e Γ1) (R d)) (hq : ∀ xs ys, P xs → All2 R xs ys → Q ys) : W (mComp mi g mYes e vs Γ) Q := W.bind h0 fun xs p st => by
  obtain ⟨ys, st', h1, h2⟩ := compL_draw (g := g) (e := e) (Γ := wipeE Γ vs) R st (h xs p)
  refine ⟨ys, st', ?_, hq xs ys p h2⟩
  show (if decide (xs.length ≤ sizeLine) = true then _ else _ : M (List D)) st = _
  rw [if_pos (dec_le (hl xs p))]
  exact h1
theorem All2.length {α β : Type} {R : α → β → Prop} : ∀ {xs : List α} {ys : List β}, All2 R xs ys → xs.length = ys.length
  | _, _, .nil => rfl
  | _, _, .cons _ t => congrArg (· + 1) t.length
/-- each is the sign of something with S -/
theorem All2.enc {α : Type} {R : D → D → Prop} {S : α → Prop} (en : α → D) (h : ∀ x y, R x y → ∃ a, y = en a ∧ S a) : ∀ {xs ys : List D}, All2 R xs ys → ∃ as : List α, ys = as.map en ∧ (∀ a ∈ as, S a) ∧ as.length = xs.length
  | _, _, .nil => ⟨[], rfl, by simp, rfl⟩
  | _, _, .cons r t => by
    obtain ⟨a, e, s⟩ := h _ _ r
    obtain ⟨as, e2, s2, l⟩ := All2.enc en h t
    exact ⟨a :: as, by rw [e, e2]; rfl, fun z hz => by
      rcases List.mem_cons.mp hz with rfl | hz
      · exact s
      · exact s2 z hz, by simp [l]⟩
/-! ### draws -/
theorem w_any {c m : Int} (hm : 0 < m) (hl : m < 2 ^ 8000) : W (gAnyD c [.deal, .int m]) fun d => ∃ v, d = .int v ∧ 0 ≤ v ∧ v < m := fun st => by
  obtain ⟨v, st', e, h1, h2⟩ := any_draw (c := c) hm hl st
  exact ⟨_, st', e, v, rfl, h1, h2⟩
theorem big {m : Int} (h : m ≤ 2 ^ 100) : m < 2 ^ 8000 := Int.lt_of_le_of_lt h (by decide +kernel)
/-- an expression that draws -/
theorem w_draw {c : Int} {m : EM} {i : Nat} {Γ : Ev} {b : Int} (h0 : Γ[i]? = some (some (.dat .deal))) (h1 : ∀ st, m Γ st = .ok (.int b) st) (hb : 0 < b) (hl : b ≤ 2 ^ 100) : W (mCall (fun ds => nxM (gAnyD c ds)) (mCons (mVar i) (mCons m mNil)) Γ) fun d => ∃ v, d = .int v ∧ 0 ≤ v ∧ v < b :=
  w_call2 (w_var (P := (· = .deal)) h0 rfl) (W.of (P := (· = .int b)) h1 rfl) fun x y e1 e2 => by subst e1 e2; exact (w_any hb (big hl)).nx
abbrev ofM (c : Int) : List D → M D := fnM 2 2 (mRet (mOp gIx (mVar 1) (mCall (fun ds => nxM (gAnyD c ds)) (mCons (mVar 0) (mCons (mCall gLen (mCons (mVar 1) mNil)) mNil)))))
theorem w_of {c : Int} {xs : List D} (h0 : xs ≠ []) (hl : xs.length ≤ 1000000) : W (ofM c [.deal, .lst xs]) (· ∈ xs) := by
  have h1 := List.length_pos_iff.mpr h0
  refine w_fn rfl (w_ret (w_op (P := (· = .lst xs)) (w_var rfl rfl) (w_draw (b := xs.length) rfl (fun st => rfl) (by omega) (Int.le_trans (show (xs.length : Int) ≤ 1000000 by omega) (by decide +kernel))) fun a b ea ⟨v, eb, v0, v1⟩ => ?_) fun d hd => ⟨d, rfl, hd⟩)
  subst ea eb
  obtain ⟨n, rfl⟩ : ∃ n : Nat, v = n := ⟨v.toNat, by omega⟩
  have hn : n < xs.length := by omega
  exact .of (fun st => gIx_lst (List.getElem?_eq_getElem hn)) (List.getElem_mem hn)
/-! ### the deal -/
abbrev dealB (k1 k2 : Int) : SM := (mSeq (mAsg (mFrz (mComp (mSeqOf (mSl (mVar 0) mNoP (mSomeP (mC (.int 63))))) (mgName 4) mYes (mCall gAbs (mCons (mCall gIntOf (mCons (mVar 4) mNil)) mNil)) [4])) (mgName 2))
  (mSeq (mAsg (mOp gAdd (mOp gMul (mC (.int k1)) (mVar 1)) (mC (.int k2))) (mgName 3))
  (mSeq (mFor (mSeqOf (mVar 2)) (mgName 4) (mAsg (mOp gMod (mCall gIntOf (mCons (mOp gAdd (mOp gAdd (mOp gMul (mVar 3) (mC (.int 48271))) (mOp gMod (mVar 4) (mC (.int 2147483579)))) (mC (.int 61))) mNil)) (mC (.int 2147483647))) (mgName 3)))
  (mRet (mLst (mCons (mUn gRev (mFrz (mComp (mSeqOf (mVar 2)) (mgName 4) (mB (mOp gGe (mVar 4) (mOp gPow (mC (.int 10)) (mC (.int 18))))) (mVar 4) [4]))) (mCons (mVar 3) mNil)))))))
theorem cutA_map {α β : Type} (f : α → β) (xs : List α) (lo hi : Option Int) : cutA (xs.map f) lo hi = (cutA xs lo hi).map f := by
  unfold cutA
  rw [List.length_map, ← List.map_drop, ← List.map_take]
theorem cutA_len {α : Type} (xs : List α) (lo hi : Option Int) : (cutA xs lo hi).length ≤ xs.length := by
  unfold cutA
  rw [List.length_take, List.length_drop]
  omega
def absI (i : Int) : Int := if i < 0 then -i else i
theorem gMul_r {i j : Int} {st : DS} (h : -(2 ^ 64) < j ∧ j < 2 ^ 64) : gMul (.int i) (.int j) st = .ok (.int (i * j)) st := by
  show (if decide _ = true then _ else _) = _
  rw [if_pos (decide_eq_true (.inr h))]
theorem gMul_l {i j : Int} {st : DS} (h : -(2 ^ 64) < i ∧ i < 2 ^ 64) : gMul (.int i) (.int j) st = .ok (.int (i * j)) st := by
  show (if decide _ = true then _ else _) = _
  rw [if_pos (decide_eq_true (.inl h))]
theorem gMod_at {i j : Int} {st : DS} (h : 0 < j) : gMod (.int i) (.int j) st = .ok (.int (i % j)) st := by
  show (if decide _ = true then _ else _) = _
  rw [if_pos (decide_eq_true h)]
theorem deal_run {k1 k2 b0 : Int} (hk : -(2 ^ 64) < k1 ∧ k1 < 2 ^ 64) (ns : List Int) (hn : ns.length ≤ 63) (st : DS) : ∃ (cs : List Int) (b : Int), cs.length ≤ 63 ∧ fnM 2 5 (dealB k1 k2) [.kl (ns.map D.int), .int b0] st = .ok (.lst [.lst (cs.map D.int), .int b]) st := by
  let cut := cutA ns none (some 63)
  let cells := cut.map absI
  have cl : cut.length ≤ 63 := Nat.le_trans (cutA_len _ _ _) hn
  have e1 : mFrz (mComp (mSeqOf (mSl (mVar 0) mNoP (mSomeP (mC (.int 63))))) (mgName 4) mYes (mCall gAbs (mCons (mCall gIntOf (mCons (mVar 4) mNil)) mNil)) [4]) (startE 5 [.kl (ns.map D.int), .int b0]) st = .ok (.lst (cells.map D.int)) st := by
    have e0 : mSeqOf (mSl (mVar 0) mNoP (mSomeP (mC (.int 63)))) (startE 5 [.kl (ns.map D.int), .int b0]) st = .ok (cut.map D.int) st := by
      show gSeq (.lst (cutA (ns.map D.int) none (some 63))) st = _
      rw [cutA_map]
      rfl
    have q := mFrz_at (comp_enc (vs := [4]) (g := mgName 4) (e := mCall gAbs (mCons (mCall gIntOf (mCons (mVar 4) mNil)) mNil)) cut D.int (fun i => .int (absI i)) e0 (by omega) fun u hu => ⟨_, rfl, rfl⟩)
    rw [q, List.map_map]
    rfl
  have lp : ∀ (L : List Int) (m : Int) (x : Option Sl), ∃ m' x', loopS (mgName 4) (mAsg (mOp gMod (mCall gIntOf (mCons (mOp gAdd (mOp gAdd (mOp gMul (mVar 3) (mC (.int 48271))) (mOp gMod (mVar 4) (mC (.int 2147483579)))) (mC (.int 61))) mNil)) (mC (.int 2147483647))) (mgName 3)) (L.map D.int)
      [some (.dat (.kl (ns.map D.int))), some (.dat (.int b0)), some (.dat (.lst (cells.map D.int))), some (.dat (.int m)), x] st = .ok (.nx [some (.dat (.kl (ns.map D.int))), some (.dat (.int b0)), some (.dat (.lst (cells.map D.int))), some (.dat (.int m')), x']) st := by
    intro L
    induction L with
    | nil => exact fun m x => ⟨m, x, rfl⟩
    | cons a L ih =>
      intro m x
      obtain ⟨m', x', h⟩ := ih ((m * 48271 + a % 2147483579 + 61) % 2147483647) (some (.dat (.int a)))
      refine ⟨m', x', ?_⟩
      have hb : mAsg (mOp gMod (mCall gIntOf (mCons (mOp gAdd (mOp gAdd (mOp gMul (mVar 3) (mC (.int 48271))) (mOp gMod (mVar 4) (mC (.int 2147483579)))) (mC (.int 61))) mNil)) (mC (.int 2147483647))) (mgName 3) [some (.dat (.kl (ns.map D.int))), some (.dat (.int b0)), some (.dat (.lst (cells.map D.int))), some (.dat (.int m)), some (.dat (.int a))] st
          = .ok (.nx [some (.dat (.kl (ns.map D.int))), some (.dat (.int b0)), some (.dat (.lst (cells.map D.int))), some (.dat (.int ((m * 48271 + a % 2147483579 + 61) % 2147483647))), some (.dat (.int a))]) st := by
        unfold mAsg
        rw [sE_ok (mOp_at (mCall1 (mOp_at (mOp_at (mOp_at (a := .int m) rfl rfl (gMul_r (by decide))) (mOp_at (a := .int a) rfl rfl (gMod_at (by decide))) rfl) rfl rfl) rfl) rfl (gMod_at (by decide)))]
        rfl
      rw [List.map_cons, loopS]
      show (mAsg _ _ [some (.dat (.kl (ns.map D.int))), some (.dat (.int b0)), some (.dat (.lst (cells.map D.int))), some (.dat (.int m)), some (.dat (.int a))] st).bind _ = _
      rw [hb]
      exact h
  obtain ⟨m', x', hl⟩ := lp cells (k1 * b0 + k2) none
  refine ⟨(cells.filter fun i => decide ((10 : Int) ^ (18 : Nat) ≤ i)).reverse, m', ?_, ?_⟩
  · rw [List.length_reverse]
    refine Nat.le_trans (List.length_filter_le _ _) ?_
    show (cut.map absI).length ≤ 63
    rw [List.length_map]
    exact cl
  · have e2 : mOp gAdd (mOp gMul (mC (.int k1)) (mVar 1)) (mC (.int k2)) [some (.dat (.kl (ns.map D.int))), some (.dat (.int b0)), some (.dat (.lst (cells.map D.int))), none, none] st = .ok (.int (k1 * b0 + k2)) st := mOp_at (mOp_at (b := .int b0) rfl rfl (gMul_l hk)) rfl rfl
    refine fnM_ret rfl ((mSeq_nx (Γ' := [some (.dat (.kl (ns.map D.int))), some (.dat (.int b0)), some (.dat (.lst (cells.map D.int))), none, none]) (st' := st) (by unfold mAsg; rw [sE_ok e1]; rfl)).trans ((mSeq_nx (Γ' := [some (.dat (.kl (ns.map D.int))), some (.dat (.int b0)), some (.dat (.lst (cells.map D.int))), some (.dat (.int (k1 * b0 + k2))), none]) (st' := st) (by unfold mAsg; rw [sE_ok e2]; rfl)).trans
      ((mSeq_nx (Γ' := [some (.dat (.kl (ns.map D.int))), some (.dat (.int b0)), some (.dat (.lst (cells.map D.int))), some (.dat (.int m')), x']) (st' := st) (by unfold mFor; rw [sE_ok (mSeqOf_at (d := .lst (cells.map D.int)) rfl rfl)]; exact hl)).trans (mRet_at (mLst_at (mCons_at (mUn_at (mFrz_at (comp_encF cells D.int (fun i => decide ((10 : Int) ^ (18 : Nat) ≤ i)) D.int (mSeqOf_at (d := .lst (cells.map D.int)) rfl rfl) ?_ fun u hu => ⟨_, rfl, ?_, fun _ => rfl⟩)) ?_) (mCons_at rfl rfl)) ?_)))))
    · show (cut.map absI).length ≤ _
      rw [List.length_map]
      omega
    · exact mB_at (mOp_at (a := .int u) (b := .int (10 ^ 18)) rfl rfl rfl)
    · show Out.ok (D.lst (List.reverse _)) st = _
      rw [← List.map_reverse]
    · simp
/-! ### loops over a range, lists of one's own -/
theorem w_loopR {g : GM} {mb : SM} {n : Nat} {en : Nat → D} (I : Nat → Ev → Prop) {Γ : Ev} (h0 : I 0 Γ) (h : ∀ j Γ, j < n → I j Γ → ∃ Γ1, g (en j) Γ = some Γ1 ∧ W (mb Γ1) fun f => ∃ Γ2, (f = .nx Γ2 ∨ f = .ct Γ2) ∧ I (j + 1) Γ2) : W (loopS g mb ((List.range n).map en) Γ) fun f => ∃ Γ', f = .nx Γ' ∧ I n Γ' := by
  have q := w_loop (g := g) (mb := mb) (fun xs Γ => ∃ j, j ≤ n ∧ xs = ((List.range n).drop j).map en ∧ I j Γ) (xs := (List.range n).map en) (Γ := Γ) ⟨0, Nat.zero_le _, rfl, h0⟩ fun d r Γ ⟨j, hj, e, i⟩ => by
    have lt : j < n := by
      rcases Nat.lt_or_ge j n with q | q
      · exact q
      · rw [List.drop_eq_nil_of_le (by simpa using q)] at e
        cases e
    have e1 : (List.range n).drop j = j :: (List.range n).drop (j + 1) := by
      rw [List.drop_eq_getElem_cons (by simpa using lt)]
      simp
    rw [e1, List.map_cons] at e
    injection e with e2 e3
    subst e2 e3
    obtain ⟨Γ1, a, b⟩ := h j Γ lt i
    exact ⟨Γ1, a, b.mono fun f ⟨Γ2, c, d⟩ => ⟨Γ2, c, j + 1, lt, rfl, d⟩⟩
  refine q.mono fun f ⟨Γ', e, j, hj, e2, i⟩ => ⟨Γ', e, ?_⟩
  have : j = n := by
    rcases Nat.lt_or_ge j n with q | q
    · rw [List.drop_eq_getElem_cons (by simpa using q)] at e2
      cases e2
    · omega
  exact this ▸ i
theorem range2_at {a b : Nat} {st : DS} (h : a ≤ 1000000 ∧ b ≤ 1000000) : gRange2 [.int (a : Nat), .int (b : Nat)] st = .ok ((List.range (b - a)).map fun i => .int ((a + i : Nat) : Int)) st := by
  unfold gRange2
  dsimp only
  rw [if_pos (decide_eq_true ⟨by omega, by omega, by omega, by omega⟩)]
  congr 1
  have : ((b : Int) - (a : Int)).toNat = b - a := by omega
  rw [this]
  apply List.map_congr_left
  intro i _
  congr 1
theorem w_bor {i : Nat} {m : EM} {Γ : Ev} {xs : List D} {P R : D → Prop} (h : gOwn i Γ = some xs) (h1 : W (m (Γ.set i (some (.dat (.bor xs))))) P) (h2 : ∀ d, P d → noBor d = true ∧ R d) : W (mBor i m Γ) R := by
  have e : mBor i m Γ = fun st => ((nxM (m (Γ.set i (some (.dat (.bor xs)))))) st).bind fun d => (if noBor d = true then pure d else halt : M D) := by
    unfold mBor
    rw [h]
    rfl
  rw [e]
  exact W.bind h1.nx fun d p => .of (fun st => by rw [if_pos (h2 d p).1]; rfl) (h2 d p).2
theorem w_store {i : Nat} {me mi : EM} {Γ : Ev} {xs : List D} {P : D → Prop} {R : Fl → Prop} {j : Nat} (h : gOwn i Γ = some xs) (hj : j < xs.length) (h1 : W (me Γ) P) (h2 : ∀ st, mi Γ st = .ok (.int (j : Nat)) st) (h3 : ∀ d, P d → R (.nx (Γ.set i (some (.own (xs.set j d)))))) : W (mStore i me mi Γ) R := by
  unfold mStore
  rw [h]
  refine w_sE h1 fun d p => w_sE (W.of (P := (· = .int (j : Nat))) h2 rfl) fun ix e => ?_
  subst e
  refine .of (a := .nx (Γ.set i (some (.own (xs.set j d))))) (fun st => ?_) (h3 d p)
  unfold gStore
  dsimp only
  rw [ix_nat hj]
theorem w_tuple {m : Ev → M (List D)} {Γ : Ev} {P : List D → Prop} {R : D → Prop} (h : W (m Γ) P) (h2 : ∀ ys, P ys → R (.tup ys)) : W (mCall gTuple (mCons (mFrz m) mNil) Γ) R :=
  w_call1 (P := fun d => ∃ xs, d = .lst xs ∧ P xs) (w_frz h fun xs p => ⟨xs, rfl, p⟩) fun a ⟨xs, e, p⟩ => by
    subst e
    exact .of (fun st => rfl) (h2 xs p)
/-! ### repr of the same thing on both sides -/
theorem reprOk_bl (b : Bool) : reprOk (.bl b) = true := by cases b <;> decide +kernel
theorem reprOk_int {i : Int} (h : i.natAbs < 10 ^ 12) : reprOk (.int i) = true := by
  unfold reprOk
  have h1 := PyData.shown_int_le h
  have h2 : i.natAbs.log2 < 1920 := by
    by_cases h0 : i.natAbs = 0
    · rw [h0]; decide
    · have := (Nat.log2_lt h0).mpr (show i.natAbs < 2 ^ 1920 from Nat.lt_trans h (by decide))
      omega
  simp only [Bool.and_eq_true, Bool.not_eq_true', decide_eq_true_eq]
  refine ⟨⟨⟨⟨rfl, ?_⟩, ?_⟩, ?_⟩, ?_⟩
  · rw [D.py, PyData.showable]
    exact decide_eq_true h2
  · rw [D.py, PyData.hasDict]
  · rw [D.py, PyData.depth]
    decide
  · rw [D.py]
    exact small_le (by omega)
theorem gRepr_at {d : D} {st : DS} (h : reprOk d = true) : gRepr [d] st = .ok (.str d.py.shown) st := by
  unfold gRepr
  dsimp only
  rw [if_pos h]
theorem eqD_same (x : Str) : eqD (.str x) (.str x) = true := by
  rw [eqD_str]
  simp
theorem ne_same {x : Str} {st : DS} : gNe (.str x) (.str x) st = .ok (.bl false) st := by
  unfold gNe
  rw [if_pos (show eqOk (.str x) (.str x) = true from rfl), eqD_same]
  rfl
/-- repr(a) != repr(b), both the same -/
theorem repr_ne {ma mb : EM} {Γ : Ev} {s0 s1 s2 : DS} {d : D} (h1 : ma Γ s0 = .ok d s1) (h2 : mb Γ s1 = .ok d s2) (h : reprOk d = true) : mB (mOp gNe (mCall gRepr (mCons ma mNil)) (mCall gRepr (mCons mb mNil))) Γ s0 = .ok false s2 :=
  mB_at (mOp_at (mCall1 h1 (gRepr_at h)) (mCall1 h2 (gRepr_at h)) ne_same)
end FL

/-! FL22: own errors over Exception, super().__init__(x); self.f = x -/
namespace FL
open PySem PySem.Spec PyProof.Rows
/-! ### the text of such an __init__ -/
def xiA (fld : Str) (p1 p2 : Pos) : Arguments := { posonlyargs := [], args := [{ arg := "self", annotation := none, pos := p1 }, { arg := fld, annotation := none, pos := p2 }], vararg := none, kwonlyargs := [], kw_defaults := [], kwarg := none, defaults := [] }
def xiS (fld : Str) : Scope := { kind := .function, names := [(PySem.Str.ofString "self", .local), (fld, .local), (PySem.Str.ofString "__class__", .free), (PySem.Str.ofString "super", .globalImplicit)], isGenerator := false, isCoroutine := false, more := [] }
def xiB (fld : Str) (p0 p1 p2 p3 p4 p5 q1 q2 q3 q4 : Pos) : List Stmt :=
  [.Expr (.Call (.Attribute (.Call (.Name "super" p0) [] [] p1) "__init__" p2) [.Name fld p3] [] p4) p5, .Assign [.Attribute (.Name "self" q1) fld q2] (.Name fld q3) q4]
abbrev exB : List Value := [.type "Exception", .type "BaseException", .type "object"]
structure XTxt (prog : Program) (K : PySem.W.Frag) (mg : Str → Option Value) (x fld : Str) (C : Addr) : Prop where
  gC : mg x = some (.ref C)
  cls : ∃ nm q N bs bm sn sub ab col dd k0 k1 k2 k3 k5, K.lookup C = some (excClassObj nm q C N bs bm true sn sub ab col dd k0 k1 k2 k3 k5 "Exception.__new__") ∧ PySem.W.excTail exB bm = true
  ov : PySem.W.excOver K C exB = true
  sa : PySem.W.findIn K (.ref C) "__setattr__" = some (some (.builtin "object.__setattr__"))
  ga : PySem.W.findIn K (.ref C) "__getattribute__" = some (some (.builtin "BaseException.__getattribute__"))
  gg : PySem.W.findIn K (.ref C) "__getattr__" = some none
  noN : PySem.W.findIn K (.ref C) fld = some none
  tk : PySem.W.takerIn K C fld = some none
  kC : PySem.W.keepIn K (.ref C) = true
  exC : PySem.W.subIn K (.ref C) (.type "BaseException") = some true
  exE : PySem.W.subIn K (.ref C) (.type "Exception") = some true
  own : PySem.W.mroIn K C (.ref C) = some true
  tyC : PySem.W.typeIn K (.ref C) = some (.type "type")
  hdC : PySem.W.hasDictIn K C = true
  up : PySem.W.ks_superIn K C C "__init__" = some (some (.builtin "Exception.__init__"))
  opq : PySem.W.nsIn K PySem.cStatics "thirdparty.any" = some none
  noS : mg "super" = none
  top : (prog.main.scope.names.lookup ("super" : Str)).isSome = false
  kw : (xiS fld).names.lookup fld = some .local
  kc : (xiS fld).names.lookup ("__class__" : Str) = some .free
  ks : (xiS fld).names.lookup ("super" : Str) = some .globalImplicit
  nf : (fld == ("__debug__" : Str)) = false
  ne : fld ≠ "self"
  fn : ∃ (fI cc cda : Addr) (q : Str) (oc : Value) (od : Option Addr) (doc pm ct : Value) (an : Option Addr) (osl : Array (Option Value)) (p1 p2 r0 r1 r2 r3 r4 r5 q1 q2 q3 q4 : Pos) (ccl cl : Value) (cdd cld : Option Addr) (ccs csl : Array (Option Value)) (vs : Array Value) (file : Str) (tf : Tok),
    PySem.W.findIn K (.ref C) "__init__" = some (some (.ref fI)) ∧ PySem.W.typeIn K (.ref fI) = some (.type "function") ∧
    K.lookup fI = some ⟨oc, od, .func (PySem.W.ksFn "__init__" q (xiA fld p1 p2) (xiB fld r0 r1 r2 r3 r4 r5 q1 q2 q3 q4) (xiS fld) .none .none doc pm an (.ref cda) ct cc), osl⟩ ∧ PySem.W.codeIn K (.ref cda) q = true ∧
    K.lookup cc = some ⟨cl, cld, .cell (some (.ref C)), csl⟩ ∧ K.lookup cda = some ⟨ccl, cdd, .fields vs, ccs⟩ ∧ vs[2]? = some (.str file tf) ∧ ((prog.main.file : Str) == file) = true ∧
    (∀ env : Env, ∃ pl : Sem Bool, eval (.Call (.Attribute (.Call (.Name "super" r0) [] [] r1) "__init__" r2) [.Name fld r3] [] r4) env = (do
      let ov ← attributeBase (.Call (.Name "super" r0) [] [] r1) "__init__" env (eval (.Call (.Name "super" r0) [] [] r1) env)
      standAt r2.atName
      let (f, first) ← holding [ov] (getMethod ov "__init__" pl)
      callWith r4 f first (backTo r4 (starEach [.Name fld r3] env)) [])) ∧
    ∀ (s : Shared) (a b : Value), BindsTo s (PySem.W.ksFn "__init__" q (xiA fld p1 p2) (xiB fld r0 r1 r2 r3 r4 r5 q1 q2 q3 q4) (xiS fld) .none .none doc pm an (.ref cda) ct cc) ⟨[a, b], []⟩ [("self", a), (fld, b)]

section
open PySem.W PySem.Calls Builtin Builtin.ObjectAttr
variable {prog : Program} {w : World} {A : Around} {R : Result → Shared → Prop} {hp : Heap} {g : Array GenState} {d : Drawn} {t : Nat} {os : OsState}
/-- the first field of a bare error -/
theorem osx {K : Frag} {name : Str} {tk : Tok} {v : Value} {x C : Addr} {fv : Array Value} {cd : ClassData} (X : K.In hp) (hx : hp.get? x = some { cls := .ref C, data := .fields fv }) (hcd : clsIn K C = some cd) (hh : cd.hasDict = true) (ho : excOver K C exB = true) (ht : takerIn K C name = some none)
    (hq : ∀ h' tk' dx, (∀ b o, b ≠ x → hp.get? b = some o → h'.get? b = some o) → hp.objs.size ≤ dx → dx ≠ x → h'.get? x = some { cls := .ref C, dict := some dx, data := .fields fv } → h'.Ns1 dx (fun y => if y = name then some v else none) → R (.ok (.ret .none)) ⟨h', g, d, tk', os⟩) :
    codeAny (model prog w) A (.call (.builtin "object.__setattr__") ⟨[.ref x, .str name tk, v], []⟩) R ⟨hp, g, d, t, os⟩ := by
  have xne : x ≠ hp.objs.size := Nat.ne_of_lt (Heap.lt_size hx)
  have inst : InstAt hp x { cls := .ref C, data := .fields fv } C none := ⟨hx, rfl, rfl, trivial⟩
  refine osa_openX (s := ⟨hp, g, d, t, os⟩) F.store_Exception X inst ho ht fun b => ?_
  have lk : Looks (model prog w) hp (classData C) cd := looks_clsIn X hcd
  obtain ⟨nm, bs, mro, ns, qn, hd, sn, sub, ab, col, del⟩ := cd
  have hh : hd = true := hh
  subst hh
  dsimp only
  unfold storeInOwnDict ownDictForStores
  repeat (first | with_reducible refine HandSPX.store_in_new ?hn ?hs | with_reducible refine wpAny_loadPart_at hx ?_ | with_reducible refine lk.at ?_ | wp_step)
  case hn => exact ⟨_, #[], _, (Heap.get?_update_ne _ _ _ _ xne.symm).trans (Heap.get?_push_at rfl rfl), rfl, fun e he => absurd he (by simp), fun _ => rfl⟩
  case hs =>
    intro h' tk' hn' hs
    have x1 : (hp.push { cls := .type "dict", data := .dict #[] }).get? x = some { cls := .ref C, data := .fields fv } := Heap.get?_push_of_some _ hx
    refine hq h' tk' hp.objs.size (fun b o hb q => ?_) (Nat.le_refl _) xne.symm ((hs.2 x xne).trans (Heap.get?_update_self _ x1 rfl)) hn'
    exact (hs.2 b (Nat.ne_of_lt (Heap.lt_size q))).trans ((Heap.get?_update_ne _ _ _ _ hb).trans (Heap.get?_push_of_some _ q))
end
end FL

/-! FL23: such an error is made -/
namespace FL
open PySem PySem.Spec PyProof.Rows
/-- what __init__ leaves of a fresh error at x -/
structure XEnd (h h' : Heap) (x C dx t1 : Addr) (fld : Str) (v : Value) : Prop where
  keep : ∀ b o, b ≠ x → h.get? b = some o → h'.get? b = some o
  obj : h'.get? x = some { cls := .ref C, dict := some dx, data := .fields #[.ref t1, .none, .none, .none, .bool false, .none] }
  dbig : h.objs.size ≤ dx
  dne : dx ≠ x
  ns : h'.Ns1 dx (fun y => if y = fld then some v else none)
structure XMade (h h' : Heap) (e C d : Addr) (fld : Str) (v : Value) : Prop where
  keep : ∀ b o, h.get? b = some o → h'.get? b = some o
  new : h.objs.size ≤ e
  obj : ∃ oe vs, h'.get? e = some oe ∧ oe.cls = .ref C ∧ oe.dict = some d ∧ oe.data = .fields vs ∧ vs[1]? = some .none
  dbig : h.objs.size ≤ d
  dne : d ≠ e
  ns : h'.Ns1 d (fun y => if y = fld then some v else none)
section
open PySem.W PySem.Calls
variable {prog : Program} {w : World} {A : Around} {E : Value → Shared → Prop} {R : Result → Shared → Prop} {s : Shared} {K : Frag} {mg : Str → Option Value} {base : Heap} {x fld : Str} {C : Addr}
theorem x_init (T : XTxt prog K mg x fld C) (M : L2.Mod K mg base) {e t0 fI : Addr} {v : Value} (hI : findIn K (.ref C) "__init__" = some (some (.ref fI))) (bk : ∀ b o, base.get? b = some o → s.heap.get? b = some o) (hlim : s.heap.NoLimit) (he : s.heap.get? e = some (HandSPX.excO C t0)) (hne : K.lookup e = none) (hroom : A.depth < recursionLimit)
    (hq : ∀ h' tk dx t1, XEnd s.heap h' e C dx t1 fld v → R (.ok (.ret .none)) { s with heap := h', toks := tk }) : codeAny (model prog w) A (.call (.ref fI) ⟨[.ref e, v], []⟩) R s := by
  obtain ⟨fI', cc, cda, q, oc, od, doc, pm, ct, an, osl, p1, p2, r0, r1, r2, r3, r4, r5, q1, q2, q3, q4, ccl, cl, cdd, cld, ccs, csl, vs, file, tf, hI', hty, hf, hcd, hcell, hcode, hvs, hfile, hev, hbind⟩ := T.fn
  rw [hI] at hI'
  cases hI'
  obtain ⟨nm, qn, N, bs, bm, sn, sub, ab, col, dd, k0, k1, k2, k3, k5, hC, hbm⟩ := T.cls
  have X : K.In s.heap := fun a o h => bk a o (M.kin a o h)
  have hcl : clsIn K C = some { name := nm, bases := bs, mro := .ref C :: bm, ns := N, qualname := qn, hasDict := true, slotNames := sn, subclasses := sub, abstract := ab, collection := col, hasDel := false } := by unfold clsIn; rw [hC] <;> rfl
  refine ks_codeAny_call_defAt (binds := [("self", .ref e), (fld, v)]) hroom (X _ _ hf) rfl hlim (codeRec_of X hcd) rfl (hbind s _ _) (fun y hy => ?_) (fun y hy => ?_) (fun h1 hns k1' => ?_) rfl rfl rfl
  · have hy : y ∈ (xiS fld).names := hy
    simp only [xiS, List.mem_cons, List.not_mem_nil, or_false] at hy
    rcases hy with rfl | rfl | rfl | rfl <;> intro z <;> cases z
  · simp only [List.mem_cons, List.not_mem_nil, or_false] at hy
    rcases hy with rfl | rfl
    · rfl
    · exact T.kw
  · have X1 : K.In h1 := X.keeps k1'
    have self1 : ([(("self" : Str), Value.ref e), (fld, v)] : List (Str × Value)).reverse.lookup ("self" : Str) = some (.ref e) := by
      have z : (("self" : Str) == fld) = false := by simpa using fun y : ("self" : Str) = fld => T.ne y.symm
      simp [List.lookup, z]
    have fld1 : ([(("self" : Str), Value.ref e), (fld, v)] : List (Str × Value)).reverse.lookup fld = some v := by simp [List.lookup]
    obtain ⟨hp, g, d, t, os⟩ := s
    have bk1 : ∀ b o, base.get? b = some o → h1.get? b = some o := fun b o z => k1' b o (bk b o z)
    obtain ⟨mb, hb1, hb2⟩ := M.blt
    have he1 := k1' _ _ he
    obtain ⟨pl, hev⟩ := hev (callEnv (ksFn "__init__" q (xiA fld p1 p2) (xiB fld r0 r1 r2 r3 r4 r5 q1 q2 q3 q4) (xiS fld) .none .none doc pm an (.ref cda) ct cc) hp.objs.size fI)
    refine ks_wpAt_execs_cons (ks_wpAt_Expr_any (ks_wpAt_MethodCall ?_ hev))
    refine ks_wpAt_super_base (ar := { arg := "self", annotation := none, pos := p1 }) T.ks T.kc (by decide) rfl (X1 _ _ hf) rfl rfl rfl (X1 _ _ hcode) rfl hvs hfile T.top ?_
    refine ks_loadName_global rfl T.ks (loadGlobal_builtin (M.glob.keeps bk1) T.noS (hb1.keeps bk1) ((hb2 _ (by decide)).trans (by first | boot_by_name | rfl | kernel_rfl)) ⟨rfl, ?_⟩)
    refine wpAny_loadName_free rfl T.kc rfl ⟨_, X1 _ _ hcell, rfl⟩ ?_
    refine wpAny_loadName_local rfl rfl hns self1 ?_
    refine ks_wpAny_isType_cls (X1 _ _ hC) rfl ⟨rfl, ?_⟩
    refine ks_wpAny_call_super (X1 _ _ hC) rfl he1 rfl (fun c z => by cases z) (looks_mroIn X1 T.own) (fun h2 e2 k2 => ?_)
    have X2 : K.In h2 := X1.keeps k2
    have he2 := k2 _ _ he1
    have isE : Looks (model prog w) h2 (isInstance (.ref e) (.type "Exception")) true := (InstAt.type (⟨he2, rfl, rfl, trivial⟩ : InstAt h2 e (HandSPX.excO C t0) C none)).andThen (looks_subIn X2 T.exE)
    have hup : alongIn K "__init__" (((Value.ref C :: bm).dropWhile (· != .ref C)).drop 1) = some (some (.builtin "Exception.__init__")) := by
      have z := T.up
      unfold ks_superIn at z
      rw [hcl] at z
      exact z
    have eC : e ≠ C := fun z => by
      rw [z, hC] at hne
      cases hne
    refine ESX.getMethod_super e2 (looks_opaque X2 T.opq) (l₀ := .ref C :: bm) ((looks_clsIn X2 hcl).andThen .now) rfl X2 hup eC (by decide) isE ?_
    have mw : (h2.push (ESX.bw e)).get? h2.objs.size = some (ESX.bw e) := Heap.get?_push_at rfl rfl
    have k3 : ∀ b o, h1.get? b = some o → (h2.push (ESX.bw e)).get? b = some o := fun b o z => Heap.get?_push_of_some _ (k2 b o z)
    refine ESX.callWith_bound (x := e) (wpAny_items_cons (ESX.ldL (hns.keeps k3) fld1 (wpAny_items_nil ⟨mw, ?_⟩) rfl T.kw T.nf))
    refine ESX.call_bw (k3 _ _ (X1 _ _ hC)) (k3 _ _ he1) mw (by rw [sizeLine_eq]; exact (by decide : 1 ≤ 16777216)) fun h4 t1 k4 he4 => ?_
    have X4 : K.In h4 := fun a o z => k4 a o (fun y => by rw [y, hne] at z; cases z) (k3 _ _ (X1 a o z))
    have neL : hp.objs.size ≠ e := Nat.ne_of_gt (Heap.lt_size he)
    have hns4 : h4.Ns hp.objs.size (fun y => ([(("self" : Str), Value.ref e), (fld, v)] : List (Str × Value)).reverse.lookup y) := hns.at fun o z => k4 _ _ neL (k3 _ _ z)
    refine wpAt_of_wpAny (wpAny_execs_cons (plainObj_wpAny_Assign_Attribute (ESX.ldL hns4 fld1 (ESX.ldL hns4 self1 ?_ rfl rfl) rfl T.kw T.nf)))
    refine set_plain X4 (ox := HandSPX.excO C t1) (od := none) ⟨he4, rfl, rfl, trivial⟩ T.sa ?_
    refine osx X4 he4 hcl rfl T.ov T.tk fun h5 tk5 dx k5' dn dne hx5 hn5 => ?_
    show wpAny _ _ (execs [] _) _ _ _
    refine wpAny_execs_nil (hq h5 tk5 dx t1 ⟨fun b o hb z => k5' b o hb (k4 b o hb (k3 b o (k1' b o z))), hx5, Nat.le_of_lt (Nat.lt_of_lt_of_le hns4.lt dn), dne, hn5⟩)
theorem x_made (T : XTxt prog K mg x fld C) (M : L2.Mod K mg base) {v : Value} (bk : ∀ b o, base.get? b = some o → s.heap.get? b = some o) (hlim : s.heap.NoLimit) (hroom : A.depth + 1 < recursionLimit)
    (hq : ∀ h' tk e d, XMade s.heap h' e C d fld v → R (.ok (.ret (.ref e))) { s with heap := h', toks := tk }) : codeAny (model prog w) A (.call (.ref C) ⟨[v], []⟩) R s := by
  obtain ⟨fI, cc, cda, q, oc, od, doc, pm, ct, an, osl, p1, p2, r0, r1, r2, r3, r4, r5, q1, q2, q3, q4, ccl, cl, cdd, cld, ccs, csl, vs, file, tf, hI, hty, _⟩ := T.fn
  obtain ⟨nm, qn, N, bs, bm, sn, sub, ab, col, dd, k0, k1, k2, k3, k5, hC, hbm⟩ := T.cls
  have X : K.In s.heap := fun a o h => bk a o (M.kin a o h)
  obtain ⟨hp, g, dr, tk, os⟩ := s
  have k : ∀ b o, hp.get? b = some o → ((hp.push (kdv_tup [v])).push (HandSPX.excO C hp.objs.size)).get? b = some o := fun b o e => Heap.get?_push_of_some _ (Heap.get?_push_of_some _ e)
  have hget : ((hp.push (kdv_tup [v])).push (HandSPX.excO C hp.objs.size)).get? (hp.objs.size + 1) = some (HandSPX.excO C hp.objs.size) := by heap_get
  have hnx : K.lookup (hp.objs.size + 1) = none := by
    cases e : K.lookup (hp.objs.size + 1) with
    | none => rfl
    | some o => exact absurd (Nat.lt_of_succ_lt (Heap.lt_size (show hp.get? (hp.objs.size + 1) = some o from X _ _ e))) (Nat.lt_irrefl _)
  refine HandSPX.call_own F.excBase_Exception (fun Y => excTail_contains Y bm hbm) (X _ _ hC) (looks_findIn X hI) (fun self => bind_fn X self hty) (by rw [sizeLine_eq]; exact (by decide : 1 ≤ 16777216)) ?_
  refine x_init (s := ⟨(hp.push (kdv_tup [v])).push (HandSPX.excO C hp.objs.size), g, dr, tk, os⟩) T M hI (fun b o z => k b o (bk b o z)) (hlim.keeps k) hget hnx hroom fun h' tk' dx t1 en => ?_
  have old : ∀ b o, hp.get? b = some o → h'.get? b = some o := fun b o e => en.keep b o (Nat.ne_of_lt (Nat.lt_succ_of_lt (Heap.lt_size e))) (k b o e)
  have z : hp.objs.size + 1 + 1 ≤ dx := by
    first
      | (simpa only [Heap.size_push] using en.dbig)
      | exact en.dbig
      | (have q := en.dbig; rw [Heap.size_push, Heap.size_push] at q; exact q)
  exact ⟨rfl, hq h' tk' (hp.objs.size + 1) dx ⟨old, Nat.le_succ _, ⟨_, _, en.obj, rfl, rfl, rfl, rfl⟩, Nat.le_trans (Nat.le_trans (Nat.le_succ _) (Nat.le_succ _)) z, en.dne, en.ns⟩⟩
end
end FL

/-! FL24: raise C(e), try: .. except, defs that let errors out -/
namespace FL
open PySem PySem.Spec PyProof.Rows L2
theorem relO_x {fld : Str} {v : V} {v' : Value} (r : RelV v v') (f : Str) : RelO (List.lookup f [(fld, v)]) (if f = fld then some v' else none) := by
  by_cases hw : f = fld
  · subst hw
    rw [if_pos rfl, show List.lookup f [(f, v)] = some v by simp [List.lookup]]
    exact r
  · rw [if_neg hw, show List.lookup f [(fld, v)] = none by simp [List.lookup, show (f == fld) = false by simpa using hw]]
    trivial
section
variable {X : Cx} {C : Addr} {x fld : Str}
/-- C(e) -/
def tMkX (C : Addr) (fld : Str) (ta : TA) : L2.St → Hp → XK → Prop := fun σ H Q => ta σ H fun vs H1 => ∃ v, vs = [v] ∧ ∀ d, H1 d = none → Q (.ref C) (some d) (upd H1 d (.xd [(fld, v)]))
theorem pmk_x {a : Expr} {ta : TA} {p pos : Pos} {j : Nat} (T : XTxt X.prog X.K X.mg x fld C) (hr : Room j X.A) (hj : 1 ≤ j) (ha : PA X [a] ta) (hg : Gl X x) (hdb : (x == ("__debug__" : Str)) = false := by decide)
    (he : starEach (a :: []) X.env = (false, eval a X.env) :: starEach [] X.env := by rfl) (hpl : (backTo pos (starEach [] X.env)).any (·.1) = false := by rfl) : PMk X (.Call (.Name x p) [a] [] pos) (tMkX C fld ta) := by
  intro pins s σ H Q I h
  refine wpAny_Call_Name_kw (ld_glob I hg T.gC ?_ hdb)
  refine PySem.W.callWith_K (h₀ := X.base) I.ok.mod.kin T.kC (thn (ha.run pos pins s σ H _ I h) fun us s1 hh => ?_) he hpl
  obtain ⟨vs, H1, I1, r1, v, ev, q1⟩ := hh
  subst ev
  refine ⟨I1.kIn, ?_⟩
  cases r1 with
  | cons rv rn =>
    rename_i v' us'
    cases rn
    show wpAny _ _ (call (.ref C) [v']) _ _ _
    have hlim := I1.nolimit
    have hbk := I1.bk
    obtain ⟨hp, g, dr, tk, os⟩ := s1
    refine wpAny_call (x_made T I1.ok.mod hbk hlim (by have := hr.dp; omega) fun h' tk' e d M => ?_)
    show MkP X pins σ Q (.ref e) ⟨h', g, dr, tk', os⟩
    obtain ⟨oe, fv, hoe, hc, hd, hdat, h1⟩ := M.obj
    have hns := M.ns
    obtain ⟨G', g1, g2⟩ := restrict h' fun b => decide (b ≠ e)
    have gk : ∀ b, b ≠ e → G'.get? b = h'.get? b := fun b hb => g1 b (decide_eq_true hb)
    have ge : G'.get? e = none := g2 e (by simp)
    have old : ∀ b o, hp.get? b = some o → G'.get? b = some o := fun b o q => (gk b (Nat.ne_of_lt (Nat.lt_of_lt_of_le (Heap.lt_size q) M.new))).trans (M.keep b o q)
    have ob : ObjOk X.prog X.w (upd H1 d (.xd [(fld, v)])) G' d (.xd [(fld, v)]) := ⟨_, hns.at (fun o q => (gk d M.dne).trans q), fun f => relO_x rv f⟩
    have J : Inv X pins σ (upd H1 d (.xd [(fld, v)])) ⟨G', g, dr, tk', os⟩ := I1.laid (t' := tk') old M.dbig ob
    refine ⟨e, oe, fv, ⟨G', g, dr, tk', os⟩, _, .ref C, some d, rfl, J, fun b o q => ?_, ge, hoe, ⟨hc, hd⟩, hdat, h1, ?_, rfl, I1.bare, raises_own T.exC T.tyC, q1 d (I1.hok.fresh M.dbig)⟩
    · by_cases hb : b = e
      · have q' : G'.get? b = some o := q
        rw [hb, ge] at q'; cases q'
      · exact (gk b hb).symm.trans q
    · rw [upd_ne (Ne.symm M.dne)]
      exact I1.hok.fresh M.new
/-- e.f, e the error that the suite holds (at a; its class cls, its dict d) -/
def tXF (C : Addr) (fld : Str) (a : Addr) (cls : Value) (d : Option Addr) (te : TE) : TE := fun σ H Q => te σ H fun z H1 => z = .ref a ∧ cls = .ref C ∧ ∃ (dd : Addr) (v : V), d = some dd ∧ H1 dd = some (.xd [(fld, v)]) ∧ Q v H1
theorem pe_xf {a : Addr} {oe : Obj} {cls : Value} {d : Option Addr} {pn : List (Addr × Obj)} {e : Expr} {te : TE} {pos : Pos} (T : XTxt X.prog X.K X.mg x fld C) (hz : Zc cls d oe) (hf : ∃ vs, oe.data = .fields vs) (he : PE (X.suite a ((a, oe) :: pn)) e te)
    (hb : attributeBase e fld X.env (eval e X.env) = eval e X.env := by rfl) : PE (X.suite a ((a, oe) :: pn)) (.Attribute e fld pos) (tXF C fld a cls d te) := by
  refine ⟨fun pins s σ H Q I h => ?_⟩
  refine attr_of hb (thn (he.run pins s σ H _ I h) fun u s1 hh => ?_)
  obtain ⟨z, H1, I1, rx, ex, ec, dd, v, ed, ea, q⟩ := hh
  subst ex
  obtain rfl : u = Value.ref a := rx
  subst ec ed
  obtain ⟨ha, _⟩ := I1.pin (a, oe) (List.mem_append_left _ List.mem_cons_self)
  obtain ⟨vs, hd⟩ := hf
  have hx : ObjOk X.prog X.w H1 s1.heap dd (.xd [(fld, v)]) := I1.hok dd _ ea
  obtain ⟨mA, hns, hr⟩ := hx
  obtain ⟨od, ho, hl⟩ := lookIn_ns hns
  have l : List.lookup fld [(fld, v)] = some v := by simp [List.lookup]
  obtain ⟨u, hu, ru⟩ := RelO.some_of (v := v) (o := mA fld) (by rw [← l]; exact hr fld)
  have J : PySem.W.InstAt s1.heap a oe C (some od) := ⟨ha, hz.1, by unfold PySem.W.notCls; rw [hd] <;> rfl, by rw [hz.2]; exact ho⟩
  exact HandSPX.exc_get I1.kIn J T.ga T.gg T.exC (PySem.W.findObj_own T.hdC T.noN rfl (by rw [hl, hu])) (handed_of ru) ⟨v, H1, I1.tok _, ru, q⟩
end
/-! ### over trees -/
section
variable {X : Cx} {k : Kx} {E : XE} {C : Addr} {x fld : Str}
/-- a class's wishes taken -/
abbrev WXof (E : XE) : WX := fun cls d σ H => E σ cls d H
def mRaise (C : Addr) (fld : Str) (me : EM) : SM := fun Γ => sE (me Γ) Γ fun d => pure (.xc C [(fld, d)] Γ)
theorem s_raise {a : Expr} {me : EM} {p pos pos2 : Pos} {j : Nat} (hc : X.calm = true) (tk : Takes X (WXof E)) (T : XTxt X.prog X.K X.mg x fld C) (hr : Room j X.A) (hj : 1 ≤ j) (ha : PE X a (tM k E me)) (hg : Gl X x) (hdb : (x == ("__debug__" : Str)) = false := by decide)
    (he : starEach (a :: []) X.env = (false, eval a X.env) :: starEach [] X.env := by rfl) (hpl : (backTo pos (starEach [] X.env)).any (·.1) = false := by rfl) : PS X (.Raise (some (.Call (.Name x p) [a] [] pos)) none pos2) (tS k E (mRaise C fld me)) :=
  PS.weak (ps_raise hc tk (pmk_x T hr hj (pa_cons ha pa_nil he) hg hdb he hpl)) fun D σ H ⟨G, H0, P, F, Γ, st, ok, w⟩ => tM.inS ok w fun v d F1 H1 st1 s1 ok1 r1 w1 => by
    refine ⟨v, rfl, fun da nd => ?_⟩
    have s2 := ok1.ok.new' (ob := .xd [(fld, v)]) nd
    exact w1 σ F1 _ da _ (ok1.step s2) upd_same ⟨rfl, .cons r1 .nil⟩
/-- what leaves a def -/
def fnX (np n : Nat) (mb : SM) : List D → M D := fun ds st => if ds.length = np then (match mb (startE n ds) st with
    | .ok (.nx _) st' => .ok .non st'
    | .ok (.rt d) st' => .ok d st'
    | .ok (.xc C fs _) st' => .err C fs st'
    | _ => .stuck) else .stuck
theorem ok_defX {P : Program} {w : World} {K : PySem.W.Frag} {T : List (Addr × Str)} {mg : Str → Option Value} {base : Heap} {x qual : Str} {st : Stmt} {f : Addr} {fd : FuncData} {N ps : List Str} {j : Nat} {mb : SM} (Fn : Fun K x qual st f fd) (S : FnScope N ps (defScope st))
    (hb : ∀ (cdv : Value) (A : Around) (outer : List Env) (s : Shared) (H : Hp) (E : XK) (on : Bool) (dl cl : Addr) (B : Hp), Room j (A.deeper (envOfC qual (defScope st) s.heap.objs.size f cdv)) → (A.deeper (envOfC qual (defScope st) s.heap.objs.size f cdv)).guards = some [] →
      PSs (cxOf (L2.CX P w) P w K mg base N qual (defScope st) f cdv A outer s H E) (defBody st) (tS ⟨K, on, dl, cl, B, T, P, w⟩ (fun _ => E) mb)) : FnG P w K T mg base (j + 1) f fd ps (fnX ps.length N.length mb) := by
  have len : ∀ ds st, ds.length ≠ ps.length → fnX ps.length N.length mb ds st = .stuck := fun ds st e => by unfold fnX; rw [if_neg e]
  refine ⟨len, go_def Fn S (fun _ _ _ _ => spM.len len) fun cdv A outs s H vs Q E hcd hr gd ⟨on, dl, cl, B, F, ds, st0, ok, r, h⟩ => ⟨_, hb cdv A outs s H E on dl cl B hr gd, ?_⟩⟩
  unfold fnX at h
  split at h
  · rename_i el
    refine ⟨F, H, F, F, startE N.length ds, st0, start_ok (ps := ps) ok r (by rw [el]; exact scope_len S), ?_⟩
    revert h
    cases mb (startE N.length ds) st0 with
    | ok r' st' =>
      cases r' with
      | nx Γ' => exact fun h σ' F' H' o => h F' H' o.toStep _ .non
      | rt d => exact fun h v F' H' s rv => h F' H' s v rv
      | bk Γ' => exact fun h => h.elim
      | ct Γ' => exact fun h => h.elim
      | xc C fs Γ' => exact fun h σ' F' H' da vs o e q => h F' H' da vs o.toStep e q
    | err C fs st' => exact fun h => h.elim
    | stuck => exact fun h => h.elim
  · exact h.elim
/-- a call that may let an error out -/
theorem sp_useX (hk : k.K = X.K ∧ k.P = X.prog ∧ k.w = X.w) {F H : Hp} {σ : L2.St} {Γ : Ev} {st : DS} {vs : List V} {ds : List D} {Q : VK} {g : List D → M D} (ok : Ok k F H σ Γ st) (r : Reps k F vs ds) (w : Wp k E σ F H (g ds st) (qD k Q)) : spM X.prog X.w X.K k.T g vs H Q (E σ) := by
  obtain ⟨K', on, dl, cl, B, T, P', w'⟩ := k
  obtain ⟨hk, hkP, hkw⟩ := hk
  have hk : K' = X.K := hk
  have hkP : P' = X.prog := hkP
  have hkw : w' = X.w := hkw
  subst hk
  subst hkP
  subst hkw
  refine ⟨on, dl, cl, B, F, ds, st, ok.bare, r, ?_⟩
  revert w
  cases g ds st with
  | ok a st' => exact fun w => w
  | err C fs st' => exact fun w => w
  | stuck => exact fun w => w
variable {e : Expr} {es : List Expr} {mr mk : Ev → M (List D)} {pos p : Pos} {j : Nat} {f : Addr} {fd : FuncData} {ps : List Str} {g : List D → M D}
theorem e_callX (tk : Takes X (WXof E)) (Fn : FnG X.prog X.w X.K k.T X.mg X.base j f fd ps g) (hr : Room j X.A) (gd : X.A.guards = some []) (hg : Gl X x) (hm : X.mg x = some (.ref f)) (hk : PySem.W.keepIn X.K (.ref f) = true) (hb : Binds X.K fd ps [])
    (ha : PA X (e :: es) (tA k E mr)) (hK : k.K = X.K ∧ k.P = X.prog ∧ k.w = X.w := by exact ⟨rfl, rfl, rfl⟩) (hdb : (x == ("__debug__" : Str)) = false := by decide) (he : starEach (e :: es) X.env = (false, eval e X.env) :: starEach es X.env := by rfl) (hpl : (backTo pos (starEach es X.env)).any (·.1) = false := by rfl) :
    PE X (.Call (.Name x p) (e :: es) [] pos) (tM k E (mCall g mr)) :=
  PE.weak (pe_fn Fn hr gd hg hm hk hb (E' := E) (fun σ => passAt tk σ) ha hdb he hpl) fun σ H Q ⟨F, Γ, st, ok, w⟩ => tA.then_ ok w fun vs ds F1 H1 st1 s ok1 r1 w1 => sp_useX hK ok1 r1 w1
theorem e_callKX {kws : List Keyword} {ks : List Str} {π : List Nat} (tk : Takes X (WXof E)) (Fn : FnG X.prog X.w X.K k.T X.mg X.base j f fd ps g) (hr : Room j X.A) (gd : X.A.guards = some []) (hg : Gl X x) (hm : X.mg x = some (.ref f)) (hk : PySem.W.keepIn X.K (.ref f) = true)
    (hb : KBinds X.K fd ps ks (fun us ws => if us = [] then FL.pick π ws else []) (fun vs zs => if vs = [] then FL.pick π zs else [])) (hkw : PK X kws (tA k E mk)) (hK : k.K = X.K ∧ k.P = X.prog ∧ k.w = X.w := by exact ⟨rfl, rfl, rfl⟩) (hall : (backToKw pos (keywordEach kws X.env)).all (·.1.isSome) = true := by rfl) (hks : (backToKw pos (keywordEach kws X.env)).filterMap (·.1) = ks := by rfl)
    (hdb : (x == ("__debug__" : Str)) = false := by decide) (hpl : ((backTo pos (starEach [] X.env)).any (·.1) || (backToKw pos (keywordEach kws X.env)).any (·.1.isNone)) = false := by rfl) :
    PE X (.Call (.Name x p) [] kws pos) (tM k E (mCall (fun ds => g (FL.pick π ds)) mk)) := ⟨fun pins s σ H Q I ⟨F, Γ, st, ok, w⟩ =>
  wpAny_Call_Name_kw (ld_glob I hg hm (PySem.W.callWith_KW0 (h₀ := X.base) I.ok.mod.kin hk hall (thn (hkw.run pos pins s σ H (fun vs H1 => spM X.prog X.w X.K k.T g (FL.pick π vs) H1 Q (E σ)) I (tA.then_ ok w fun vs ds F1 H1 st1 s ok1 r1 w1 => sp_useX (vs := FL.pick π vs) hK ok1 (r1.pick π) w1)) fun ws s2 ⟨zs, H2, I2, rz, q2⟩ =>
    ⟨I2.kIn, by
      rw [hks]
      have rp : Vals (FL.pick π zs) (FL.pick π ws) := Vals.pick rz π
      have hl : (FL.pick π ws).length = ps.length := by rw [← rp.length]; exact spM.len Fn.len q2
      exact go_fn (args := ⟨[], ks.zip ws⟩) Fn hr gd (passAt tk σ) I2 rp (hb.to s2 [] ws I2.kIn (by rw [if_pos rfl]; exact hl)) q2⟩) hpl) hdb)⟩
end
end FL

/-! FL25: try: .. except -/
namespace FL
open PySem PySem.Spec PyProof.Rows L2
section
variable {X : Cx} {k : Kx} {E : XE} {C : Addr} {x fld : Str}
/-- which classes a clause takes -/
def Catch (K : PySem.W.Frag) (c : Value) (cat : Addr → Option Bool) : Prop := ∀ C b, cat C = some b → PySem.W.exmOne K (.ref C) c = some b
def mTryFld (mb : SM) (cat : Addr → Option Bool) (C0 : Addr) (fld : Str) (i : Nat) : SM := fun Γ st => match mb Γ st with
  | .ok (.xc C fs Γ') st' => (match cat C with
    | some true => (match fs with
      | [(f, d)] => if C = C0 ∧ f = fld ∧ i < Γ'.length then .ok (.rt d) st' else .stuck
      | _ => .stuck)
    | some false => .ok (.xc C fs Γ') st'
    | none => .stuck)
  | o => o
theorem repX_one {F : Hp} {vs : List (Str × V)} {f : Str} {d : D} (r : RepX k F vs [(f, d)]) : ∃ v, vs = [(f, v)] ∧ Rep k F v d := by
  obtain ⟨e, r⟩ := r
  match vs, e, r with
  | [(g, v)], e, .cons h .nil =>
    have : g = f := by simpa using e
    subst this
    exact ⟨v, rfl, h⟩
/-- try: .. except c as n: return n.fld -/
theorem s_tryFld {i : Nat} {n cn : Str} {body : List Stmt} {mb : SM} {np p1 p2 p3 pos pos' : Pos} {c : Value} {cat : Addr → Option Bool} (hs : X.stack = X.env :: X.outer) (hf : X.env.frame = some X.env.locals) (hN : X.N.Nodup) (hln : X.env.kindOf n = some .local) (hc : Names X cn c) (tk : Takes X (WXof E))
    (T : XTxt X.prog X.K X.mg x fld C) (ct : Catch X.K c cat) (hb : ∀ (W : WX) (pn : List (Addr × Obj)) (xe : Value → Shared → Prop), Takes (X.tr pn xe) W → PassesOwn (model X.prog X.w) X.A X.env xe → PSs (X.tr pn xe) body (tS k (WE W) mb))
    (hi : X.N[i]? = some n := by rfl) (hbase : attributeBase (.Name n p1) fld X.env (eval (.Name n p1) X.env) = eval (.Name n p1) X.env := by rfl)
    (hv : Vis X.env.scope n := by first | exact Or.inl rfl | exact Or.inr (Or.inl rfl) | exact Or.inr (Or.inr rfl)) (hd : (n == ("__debug__" : Str)) = false := by decide) (hcd : (n == ("__classdict__" : Str)) = false := by decide) :
    PS X (.Try body [.ExceptHandler (some (.Name cn np)) (some n) [.Return (some (.Attribute (.Name n p1) fld p2)) p3] pos'] [] [] pos) (tS k E (mTryFld mb cat C fld i)) :=
  PS.weak (ps_try_as (i := i) (tb := fun W => tS k (WE W) mb) (ts := fun a cls d => tRet (tXF C fld a cls d (tVar i))) (Wout := WXof E) hs hf hN hi hln hc tk hb
    (fun a oe cls d pn hz hfl => pss_one (ps_ret (pe_xf T hz hfl (pv (X := X.suite a ((a, oe) :: pn)) i hi hv hd hcd) hbase)))) fun D σ H ⟨G, H0, P, F, Γ, st, ok, w⟩ => by
    refine ⟨G, H0, P, F, Γ, st, ok, ?_⟩
    unfold mTryFld at w
    revert w
    cases mb Γ st with
    | ok r st' =>
      cases r with
      | nx Γ' => exact fun w => w
      | rt d => exact fun w => w
      | bk Γ' => exact fun w => w
      | ct Γ' => exact fun w => w
      | xc C' fs Γ' =>
        intro w σ' F' H' da vs o e q
        dsimp only at w
        split at w
        · rename_i hcat
          split at w
          · rename_i f d
            split at w
            · rename_i hh
              obtain ⟨hC, hf, hi'⟩ := hh
              subst hC hf
              obtain ⟨v, rfl, rv⟩ := repX_one q
              refine ⟨true, ct _ _ hcat, fun _ a na => ?_, fun z => by cases z⟩
              have hlt : i < σ'.length := by rw [o.ok.len]; exact hi'
              refine ⟨.ref a, by rw [List.getElem?_set_self hlt], rfl, rfl, da, v, rfl, e, ?_⟩
              exact w v F' H' o.toStep rv
            · exact w.elim
          · exact w.elim
        · rename_i hcat
          exact ⟨false, ct _ _ hcat, fun z => (by cases z), fun _ => w σ' F' H' da vs o e q⟩
        · exact w.elim
    | err C fs st' => exact fun w => w.elim
    | stuck => exact fun w => w.elim
/-- try: .. except c: suite -/
def mTryOnly (mb ms : SM) (cat : Addr → Option Bool) : SM := fun Γ st => match mb Γ st with
  | .ok (.xc C fs Γ') st' => (match cat C with
    | some true => (match ms Γ' st' with
      | .ok (.xc _ _ _) _ => .stuck
      | o => o)
    | some false => .ok (.xc C fs Γ') st'
    | none => .stuck)
  | o => o
theorem s_tryOnly {cn : Str} {body suite : List Stmt} {b0 : Stmt} {mb ms : SM} {np pos pos' : Pos} {c : Value} {cat : Addr → Option Bool} (hs : X.stack = X.env :: X.outer) (hf : X.env.frame = some X.env.locals) (hc : Names X cn c) (tk : Takes X (WXof E))
    (ct : Catch X.K c cat) (hb : ∀ (W : WX) (pn : List (Addr × Obj)) (xe : Value → Shared → Prop), Takes (X.tr pn xe) W → PassesOwn (model X.prog X.w) X.A X.env xe → PSs (X.tr pn xe) body (tS k (WE W) mb))
    (hsu : ∀ (a : Addr) (oe : Obj) (pn : List (Addr × Obj)), PSs (X.suite a ((a, oe) :: pn)) (b0 :: suite) (tS k EF ms)) :
    PS X (.Try body [.ExceptHandler (some (.Name cn np)) none (b0 :: suite) pos'] [] [] pos) (tS k E (mTryOnly mb ms cat)) :=
  PS.weak (ps_try_only (tb := fun W => tS k (WE W) mb) (ts := fun a cls d => tS k EF ms) (Wout := WXof E) hs hf hc tk hb (fun a oe cls d pn hz hfl => hsu a oe pn)) fun D σ H ⟨G, H0, P, F, Γ, st, ok, w⟩ => by
    refine ⟨G, H0, P, F, Γ, st, ok, ?_⟩
    unfold mTryOnly at w
    revert w
    cases mb Γ st with
    | ok r st' =>
      cases r with
      | nx Γ' => exact fun w => w
      | rt d => exact fun w => w
      | bk Γ' => exact fun w => w
      | ct Γ' => exact fun w => w
      | xc C' fs Γ' =>
        intro w σ' F' H' da vs o e q
        dsimp only at w
        split at w
        · rename_i hcat
          refine ⟨true, ct _ _ hcat, fun _ a na => ⟨G, H0, P, F', Γ', st', o, ?_⟩, fun z => by cases z⟩
          revert w
          cases ms Γ' st' with
          | ok r2 st2 =>
            cases r2 with
            | nx _ => exact fun w => w
            | rt _ => exact fun w => w
            | bk _ => exact fun w => w
            | ct _ => exact fun w => w
            | xc _ _ _ => exact fun w => w.elim
          | err _ _ _ => exact fun w => w.elim
          | stuck => exact fun w => w.elim
        · rename_i hcat
          exact ⟨false, ct _ _ hcat, fun z => (by cases z), fun _ => w σ' F' H' da vs o e q⟩
        · exact w.elim
    | err C fs st' => exact fun w => w.elim
    | stuck => exact fun w => w.elim
end
end FL

/-! FL26: what the top has laid of an error's class -/
namespace FL
open PySem PySem.Spec PyProof.Rows L2
theorem exm_own {K : PySem.W.Frag} {S B : Addr} (h1 : PySem.W.subIn K (.ref S) (.type "BaseException") = some true) (h2 : PySem.W.isClsIn K S = true) (h3 : PySem.W.typeIn K (.ref S) = some (.type "type")) (h4 : PySem.W.subIn K (.ref B) (.ref S) = some true) : PySem.W.exmOne K (.ref B) (.ref S) = some true := by
  have e1 : (PySem.W.subIn K (.ref S) (.type "BaseException") == some true) = true := by rw [h1] <;> rfl
  have e2 : ((PySem.W.clsIn K S).isSome && PySem.W.typeIn K (.ref S) == some (.type "type")) = true := by
    have q : (PySem.W.clsIn K S).isSome = true := h2
    rw [q, h3] <;> rfl
  show (if (PySem.W.subIn K (.ref S) (.type "BaseException") == some true) = true then (if ((PySem.W.clsIn K S).isSome && PySem.W.typeIn K (.ref S) == some (.type "type")) = true then PySem.W.subIn K (.ref B) (.ref S) else none) else none) = some true
  rw [if_pos e1, if_pos e2]
  exact h4
theorem catch_nil {K : PySem.W.Frag} {c : Value} : Catch K c (fun _ => none) := fun C b h => by cases h
theorem catch_cons {K : PySem.W.Frag} {c : Value} {cat : Addr → Option Bool} {C0 : Addr} (h : PySem.W.exmOne K (.ref C0) c = some true) (t : Catch K c cat) : Catch K c (fun C => if C = C0 then some true else cat C) := fun C b e => by
  by_cases z : C = C0
  · subst z
    have e : (if C = C then some true else cat C) = some b := e
    rw [if_pos rfl] at e
    cases e
    exact h
  · have e : (if C = C0 then some true else cat C) = some b := e
    rw [if_neg z] at e
    exact t C b e
theorem xtxt_mk {prog : Program} {K : PySem.W.Frag} {h : Heap} {mg : Str → Option Value} {x fld q nm qn : Str} {C fI cc cda N : Addr} {bs bm : List Value} {sn : List Str} {sub : List Value} {ab : Bool} {col : Option Bool} {dd : Option Addr} {m0 m1 m2 m3 m5 : Option Value} {od an : Option Addr} {osl : Array (Option Value)} {oc doc pm ct : Value}
    {p1 p2 r0 r1 r2 r3 r4 r5 q1 q2 q3 q4 : Pos} {ccl cl : Value} {cdd cld : Option Addr} {ccs csl : Array (Option Value)} {vs : Array Value} {file : Str} {tf : Tok}
    (X : K.In h) (G : h.Ns mainGlobals mg)
    (aC : PySem.W.nsIn K mainGlobals x = some (some (.ref C)))
    (xL : K.lookup C = some (excClassObj nm qn C N bs bm true sn sub ab col dd m0 m1 m2 m3 m5 "Exception.__new__")) (bT : PySem.W.excTail exB bm = true)
    (ov : PySem.W.excOver K C exB = true) (sa : PySem.W.findIn K (.ref C) "__setattr__" = some (some (.builtin "object.__setattr__"))) (ga : PySem.W.findIn K (.ref C) "__getattribute__" = some (some (.builtin "BaseException.__getattribute__"))) (gg : PySem.W.findIn K (.ref C) "__getattr__" = some none) (nb : PySem.W.findIn K (.ref C) fld = some none)
    (kC : PySem.W.keepIn K (.ref C) = true) (eC : PySem.W.subIn K (.ref C) (.type "BaseException") = some true) (eE : PySem.W.subIn K (.ref C) (.type "Exception") = some true) (ow : PySem.W.mroIn K C (.ref C) = some true) (tC : PySem.W.typeIn K (.ref C) = some (.type "type")) (hC : PySem.W.hasDictIn K C = true)
    (up : PySem.W.ks_superIn K C C "__init__" = some (some (.builtin "Exception.__init__"))) (opq : PySem.W.nsIn K PySem.cStatics "thirdparty.any" = some none) (z : PySem.W.nsIn K mainGlobals "super" = some none) (top : (prog.main.scope.names.lookup ("super" : Str)).isSome = false)
    (kw : (xiS fld).names.lookup fld = some .local) (kc : (xiS fld).names.lookup ("__class__" : Str) = some .free) (ks : (xiS fld).names.lookup ("super" : Str) = some .globalImplicit) (nf : (fld == ("__debug__" : Str)) = false) (ne : fld ≠ "self")
    (a1 : PySem.W.findIn K (.ref C) "__init__" = some (some (.ref fI))) (t1 : PySem.W.typeIn K (.ref fI) = some (.type "function"))
    (l1 : K.lookup fI = some ⟨oc, od, .func (PySem.W.ksFn "__init__" q (xiA fld p1 p2) (xiB fld r0 r1 r2 r3 r4 r5 q1 q2 q3 q4) (xiS fld) .none .none doc pm an (.ref cda) ct cc), osl⟩) (c1 : PySem.W.codeIn K (.ref cda) q = true)
    (lc : K.lookup cc = some ⟨cl, cld, .cell (some (.ref C)), csl⟩) (ld : K.lookup cda = some ⟨ccl, cdd, .fields vs, ccs⟩) (hvs : vs[2]? = some (.str file tf)) (hfile : ((prog.main.file : Str) == file) = true)
    (hev : ∀ env : Env, ∃ pl : Sem Bool, eval (.Call (.Attribute (.Call (.Name "super" r0) [] [] r1) "__init__" r2) [.Name fld r3] [] r4) env = (do
      let ov ← attributeBase (.Call (.Name "super" r0) [] [] r1) "__init__" env (eval (.Call (.Name "super" r0) [] [] r1) env)
      standAt r2.atName
      let (f, first) ← holding [ov] (getMethod ov "__init__" pl)
      callWith r4 f first (backTo r4 (starEach [.Name fld r3] env)) []))
    (hbind : ∀ (s : Shared) (a b : Value), BindsTo s (PySem.W.ksFn "__init__" q (xiA fld p1 p2) (xiB fld r0 r1 r2 r3 r4 r5 q1 q2 q3 q4) (xiS fld) .none .none doc pm an (.ref cda) ct cc) ⟨[a, b], []⟩ [("self", a), (fld, b)]) : XTxt prog K mg x fld C where
  gC := PySem.W.mg_of X G aC
  cls := ⟨nm, qn, N, bs, bm, sn, sub, ab, col, dd, m0, m1, m2, m3, m5, xL, bT⟩
  ov := ov
  sa := sa
  ga := ga
  gg := gg
  noN := nb
  tk := by unfold PySem.W.takerIn; rw [nb]; rfl
  kC := kC
  exC := eC
  exE := eE
  own := ow
  tyC := tC
  hdC := hC
  up := up
  opq := opq
  noS := PySem.W.mg_none_of X G z
  top := top
  kw := kw
  kc := kc
  ks := ks
  nf := nf
  ne := ne
  fn := ⟨fI, cc, cda, q, oc, od, doc, pm, ct, an, osl, p1, p2, r0, r1, r2, r3, r4, r5, q1, q2, q3, q4, ccl, cl, cdd, cld, ccs, csl, vs, file, tf, a1, t1, l1, c1, lc, ld, hvs, hfile, hev, hbind⟩
end FL

/-! FL27: more of the calculus of mirrors -/
namespace FL
open PySem L2
theorem gZip_map {α β : Type} (f : α → D) (g : β → D) (xs : List α) (ys : List β) (st : DS) : gZip [.tup (xs.map f), .tup (ys.map g)] st = .ok ((xs.zip ys).map fun p => .ltp [f p.1, g p.2]) st := by
  show Out.ok (zipD _ _) st = _
  rw [zipD_map]
theorem sum_at {α : Type} {f : α → Int} {us : List α} {st : DS} : gSum [.lst (us.map fun u => D.int (f u))] st = .ok (.int (us.map f).sum) st := by
  have : us.map (fun u => D.int (f u)) = (us.map f).map D.int := by rw [List.map_map]; rfl
  rw [this, gSum_lst]
theorem all_at {α : Type} {f : α → Bool} {us : List α} {st : DS} : gAll [.lst (us.map fun u => D.bl (f u))] st = .ok (.bl (us.all f)) st := by
  have : us.map (fun u => D.bl (f u)) = (us.map f).map D.bl := by rw [List.map_map]; rfl
  rw [this, gAll_lst, List.all_map]
  rfl
theorem zip_range {α β γ : Type} (T : List α) (p : List β) (a : α) (b : β) (f : α → β → γ) (hl : T.length = p.length) : (List.range T.length).map (fun i => f (T.getD i a) (p.getD i b)) = (T.zip p).map fun u => f u.1 u.2 := by
  apply List.ext_getElem
  · simp [hl]
  · intro i h1 h2
    simp at h1 h2
    simp [List.getD_eq_getElem?_getD, List.getElem?_eq_getElem h1, List.getElem?_eq_getElem (show i < p.length by omega)]
theorem map_int {α : Type} {f : α → Int} {us : List α} : us.map (fun u => D.int (f u)) = (us.map f).map D.int := by rw [List.map_map]; rfl
theorem mSeq_at {m m2 : SM} {Γ Γ' : Ev} {st st' : DS} {o : Out Fl} (h : m Γ st = .ok (.nx Γ') st') (h2 : m2 Γ' st' = o) : mSeq m m2 Γ st = o := (mSeq_nx h).trans h2
theorem asg_at {m : EM} {g : GM} {Γ Γ' : Ev} {st st' : DS} {d : D} (h : m Γ st = .ok d st') (hg : g d Γ = some Γ') : mAsg m g Γ st = .ok (.nx Γ') st' := by
  unfold mAsg
  rw [sE_ok h]
  rw [hg]
  rfl
theorem mSeq_two {a b c : SM} {Γ Γ' : Ev} {st st' : DS} (h : mSeq a b Γ st = .ok (.nx Γ') st') : mSeq a (mSeq b c) Γ st = c Γ' st' := by
  show (a Γ st).bind (kSeq (mSeq b c)) = _
  have h : (a Γ st).bind (kSeq b) = _ := h
  revert h
  cases a Γ st with
  | ok fl st1 =>
    cases fl with
    | nx Γ1 => exact fun h => mSeq_nx h
    | _ => intro h; cases h
  | err C fs st1 => intro h; cases h
  | stuck => intro h; cases h
theorem cut_tail {α : Type} (x : α) (xs : List α) : cutA (x :: xs) (some 1) none = xs := by
  have e1 : HT.sIx (x :: xs).length 0 (some 1) = 1 := by
    have := HT.sIx_nat (x :: xs).length 0 1
    rw [List.length_cons] at this ⊢
    exact this.trans (by omega)
  unfold cutA
  rw [e1, HT.sIx_none]
  show List.take ((x :: xs).length - 1) xs = xs
  simp
theorem sl_tail {m : EM} {Γ : Ev} {st st' : DS} {x : D} {xs : List D} (h : m Γ st = .ok (.lst (x :: xs)) st') : mSl m (mSomeP (mC (.int 1))) mNoP Γ st = .ok (.lst xs) st' := by
  have e : mSl m (mSomeP (mC (.int 1))) mNoP Γ st = (m Γ st).bind fun d st => gSl d (some 1) none st := rfl
  rw [e, h]
  show Out.ok (D.lst (cutA (x :: xs) (some 1) none)) st' = _
  rw [cut_tail]
theorem sl_tailT {m : EM} {Γ : Ev} {st st' : DS} {x : D} {xs : List D} (h : m Γ st = .ok (.tup (x :: xs)) st') : mSl m (mSomeP (mC (.int 1))) mNoP Γ st = .ok (.tup xs) st' := by
  have e : mSl m (mSomeP (mC (.int 1))) mNoP Γ st = (m Γ st).bind fun d st => gSl d (some 1) none st := rfl
  rw [e, h]
  show Out.ok (D.tup (cutA (x :: xs) (some 1) none)) st' = _
  rw [cut_tail]
theorem gNe_at {d e : D} {b : Bool} {st : DS} (h : eqOk d e = true ∧ (!eqD d e) = b) : gNe d e st = .ok (.bl b) st := by
  unfold gNe
  rw [if_pos h.1, h.2]
theorem sum_le {α : Type} {f g : α → Int} : ∀ {us : List α}, (∀ u ∈ us, f u ≤ g u) → (us.map f).sum ≤ (us.map g).sum
  | [], _ => by simp
  | u :: us, h => by
    have := sum_le (us := us) fun x hx => h x (List.mem_cons_of_mem _ hx)
    have := h u List.mem_cons_self
    simp only [List.map_cons, List.sum_cons]
    omega
theorem sum_nn {α : Type} {f : α → Int} {us : List α} (h : ∀ u ∈ us, 0 ≤ f u) : 0 ≤ (us.map f).sum := by
  have q := sum_le (f := fun _ => 0) h
  have z : ∀ vs : List α, (vs.map fun _ => (0 : Int)).sum = 0 := fun vs => by induction vs <;> simp_all
  rw [z] at q
  exact q
theorem sum_mem {α : Type} {f : α → Int} : ∀ {us : List α} {u : α}, u ∈ us → (∀ u ∈ us, 0 ≤ f u) → f u ≤ (us.map f).sum
  | v :: us, u, hu, h => by
    have q := sum_nn fun x hx => h x (List.mem_cons_of_mem v hx)
    simp only [List.map_cons, List.sum_cons]
    rcases List.mem_cons.mp hu with rfl | hu
    · omega
    · have := sum_mem hu fun x hx => h x (List.mem_cons_of_mem v hx)
      have := h v List.mem_cons_self
      omega
theorem sum_add {α : Type} {f g : α → Int} : ∀ {us : List α}, (us.map fun u => f u + g u).sum = (us.map f).sum + (us.map g).sum
  | [] => by simp
  | u :: us => by
    have := sum_add (f := f) (g := g) (us := us)
    simp only [List.map_cons, List.sum_cons]
    omega
theorem sum_0 {α : Type} : ∀ vs : List α, (vs.map fun _ => (0 : Int)).sum = 0
  | [] => rfl
  | v :: vs => by rw [List.map_cons, List.sum_cons, sum_0 vs]; rfl
theorem sum_swap {α β : Type} {f : α → β → Int} : ∀ {us : List α} {vs : List β}, (us.map fun u => (vs.map fun v => f u v).sum).sum = (vs.map fun v => (us.map fun u => f u v).sum).sum
  | [], vs => (sum_0 vs).symm
  | u :: us, vs => by
    have := sum_swap (f := f) (us := us) (vs := vs)
    simp only [List.map_cons, List.sum_cons]
    rw [this, ← sum_add]
theorem mAnd_t {ma mb : EM} {Γ : Ev} {s0 s1 : DS} {o : Out D} (h : ma Γ s0 = .ok (.bl true) s1) (h2 : mb Γ s1 = o) : mAnd ma mb Γ s0 = o := by
  show (ma Γ s0).bind _ = _
  rw [h]
  exact h2
theorem mAnd_f {ma mb : EM} {Γ : Ev} {s0 s1 : DS} (h : ma Γ s0 = .ok (.bl false) s1) : mAnd ma mb Γ s0 = .ok (.bl false) s1 := by
  show (ma Γ s0).bind _ = _
  rw [h]
  rfl
theorem tests_t {t : Ev → M Bool} {m m2 : SM} {Γ : Ev} {st s1 : DS} {o : Out Fl} (h : t Γ st = .ok true s1) (h2 : m Γ s1 = o) : mIfS t m m2 Γ st = o := by
  unfold mIfS
  rw [sE_ok h]
  exact h2
theorem tests_f {t : Ev → M Bool} {m m2 : SM} {Γ : Ev} {st s1 : DS} {o : Out Fl} (h : t Γ st = .ok false s1) (h2 : m2 Γ s1 = o) : mIfS t m m2 Γ st = o := by
  unfold mIfS
  rw [sE_ok h]
  exact h2
theorem or_t {ta tb : Ev → M Bool} {Γ : Ev} {s0 s1 : DS} (h : ta Γ s0 = .ok true s1) : mOrT ta tb Γ s0 = .ok true s1 := by
  show (ta Γ s0).bind _ = _
  rw [h]
  rfl
theorem or_f {ta tb : Ev → M Bool} {Γ : Ev} {s0 s1 : DS} {o : Out Bool} (h : ta Γ s0 = .ok false s1) (h2 : tb Γ s1 = o) : mOrT ta tb Γ s0 = o := by
  show (ta Γ s0).bind _ = _
  rw [h]
  exact h2
theorem not_at {ta : Ev → M Bool} {Γ : Ev} {s0 s1 : DS} {b : Bool} (h : ta Γ s0 = .ok b s1) : mNotT ta Γ s0 = .ok (!b) s1 := by
  show (ta Γ s0).bind _ = _
  rw [h]
  rfl
theorem len_tup {xs : List D} {st : DS} : gLen [.tup xs] st = .ok (.int (xs.length : Nat)) st := rfl
theorem eq_int {a b : Int} {st : DS} : gEq (.int a) (.int b) st = .ok (.bl (a == b)) st := by
  unfold gEq
  rw [if_pos (show eqOk (.int a) (.int b) = true from rfl)]
  rfl
theorem ne_int {a b : Int} {st : DS} : gNe (.int a) (.int b) st = .ok (.bl (!(a == b))) st := by
  unfold gNe
  rw [if_pos (show eqOk (.int a) (.int b) = true from rfl)]
  rfl
theorem mFor_at {mi : Ev → M (List D)} {g : GM} {mb : SM} {Γ : Ev} {st s1 : DS} {xs : List D} {o : Out Fl} (h : mi Γ st = .ok xs s1) (h2 : loopS g mb xs Γ s1 = o) : mFor mi g mb Γ st = o := by
  unfold mFor
  rw [sE_ok h]
  exact h2
theorem mCallO_at {g : List D → M (List D)} {mr : Ev → M (List D)} {Γ : Ev} {s0 s1 s2 : DS} {r ys : List D} (h1 : mr Γ s0 = .ok r s1) (h2 : g r s1 = .ok ys s2) : mCallO g mr Γ s0 = .ok ys s2 := by
  show (mr Γ s0).bind _ = _
  rw [h1]
  exact h2
theorem gAdd_lst {xs ys : List D} {st : DS} (h : xs.length + ys.length ≤ 1000000) : gAdd (.lst xs) (.lst ys) st = .ok (.lst (xs ++ ys)) st := by
  show (if decide (xs.length + ys.length ≤ sizeLine) = true then _ else _) = _
  rw [if_pos (dec_le h)]
theorem getD_mem {α : Type} {T : List α} {i : Nat} {a : α} (h : i < T.length) : T.getD i a ∈ T := by
  rw [List.getD_eq_getElem?_getD, List.getElem?_eq_getElem h]
  exact List.getElem_mem h
theorem getD_append_l {α : Type} {xs ys : List α} {i : Nat} {a : α} (h : i < xs.length) : (xs ++ ys).getD i a = xs.getD i a := by
  rw [List.getD_eq_getElem?_getD, List.getElem?_append_left h, List.getD_eq_getElem?_getD]
theorem len_lst {xs : List D} {st : DS} : gLen [.lst xs] st = .ok (.int (xs.length : Nat)) st := rfl
theorem gRepO_at {xs : List D} {n : Nat} {st : DS} (hl : xs.length * n ≤ 1000000 ∧ n ≤ 1000000) : gRepO (.lst xs) (.int (n : Nat)) st = .ok (List.replicate n xs).flatten st := by
  have c : decide (-(2 ^ 63) ≤ ((n : Nat) : Int) ∧ ((n : Nat) : Int) < 2 ^ 63 ∧ xs.length * ((n : Nat) : Int).toNat ≤ sizeLine) = true := decide_eq_true ⟨by omega, by omega, small_le (by rw [Int.toNat_natCast]; exact hl.1)⟩
  rw [Int.toNat_natCast] at c
  unfold gRepO
  simp only [Int.toNat_natCast]
  rw [if_pos c]
theorem mRepO_at {ma mb : EM} {Γ : Ev} {s0 s1 s2 : DS} {xs : List D} {n : Nat} (h1 : ma Γ s0 = .ok (.lst xs) s1) (h2 : mb Γ s1 = .ok (.int (n : Nat)) s2) (hl : xs.length * n ≤ 1000000 ∧ n ≤ 1000000) : mRepO ma mb Γ s0 = .ok (List.replicate n xs).flatten s2 := by
  have e : mRepO ma mb Γ s0 = (ma Γ s0).bind fun d s => (mb Γ s).bind fun e s => gRepO d e s := rfl
  rw [e, h1, Out.ok_bind, h2, Out.ok_bind, gRepO_at hl]
theorem noBors_int : ∀ r : List Int, noBors (r.map D.int) = true
  | [] => rfl
  | a :: r => by rw [List.map_cons, noBors, noBors_int r]; rfl
theorem mSl_at {me : EM} {ml mh : Ev → M (Option Int)} {Γ : Ev} {s0 s1 s2 s3 : DS} {d y : D} {lo hi : Option Int} (h1 : me Γ s0 = .ok d s1) (h2 : ml Γ s1 = .ok lo s2) (h3 : mh Γ s2 = .ok hi s3) (h4 : gSl d lo hi s3 = .ok y s3) : mSl me ml mh Γ s0 = .ok y s3 := by
  have e : mSl me ml mh Γ s0 = (me Γ s0).bind fun d s => (ml Γ s).bind fun lo s => (mh Γ s).bind fun hi s => gSl d lo hi s := rfl
  rw [e, h1, Out.ok_bind, h2, Out.ok_bind, h3, Out.ok_bind, h4]
theorem gAdd_tup {xs ys : List D} {st : DS} (h : xs.length + ys.length ≤ 1000000) : gAdd (.tup xs) (.tup ys) st = .ok (.tup (xs ++ ys)) st := by
  show (if decide (xs.length + ys.length ≤ sizeLine) = true then _ else _) = _
  rw [if_pos (dec_le h)]
theorem andT_f {ta tb : Ev → M Bool} {Γ : Ev} {s0 s1 : DS} (h : ta Γ s0 = .ok false s1) : mAndT ta tb Γ s0 = .ok false s1 := by
  show (ta Γ s0).bind _ = _
  rw [h]
  rfl
theorem andT_t {ta tb : Ev → M Bool} {Γ : Ev} {s0 s1 : DS} {o : Out Bool} (h : ta Γ s0 = .ok true s1) (h2 : tb Γ s1 = o) : mAndT ta tb Γ s0 = o := by
  show (ta Γ s0).bind _ = _
  rw [h]
  exact h2
end FL

/-! FL28: data of bounded depth and weight: repr, == -/
namespace FL
open PySem L2
inductive Nice : Nat → Nat → D → Prop
  | non {d w : Nat} : Nice d w .non
  | bl {d w : Nat} {b : Bool} : Nice d w (.bl b)
  | int {d w : Nat} {i : Int} (h : i.natAbs < 10 ^ 12) (hw : 41 ≤ w) : Nice d w (.int i)
  | str {d w : Nat} {x : Str} (h : PyData.strOk x = true) (hw : x.cps.size ≤ w) : Nice d w (.str x)
  | tup {d w v : Nat} {xs : List D} (h : ∀ x ∈ xs, Nice d v x) (hw : xs.length * (v + 1) ≤ w) : Nice (d + 1) w (.tup xs)
  | lst {d w v : Nat} {xs : List D} (h : ∀ x ∈ xs, Nice d v x) (hw : xs.length * (v + 1) ≤ w) : Nice (d + 1) w (.lst xs)
  | bor {d w v : Nat} {xs : List D} (h : ∀ x ∈ xs, Nice d v x) (hw : xs.length * (v + 1) ≤ w) : Nice (d + 1) w (.bor xs)
/-- what it gives -/
structure NiceF (d w : Nat) (x : D) : Prop where
  plain : x.plain = true
  lay : x.py.canLay0 = true
  depth : x.py.depth ≤ d
  show_ : x.py.showable = true
  noDict : x.py.hasDict = false
  short : x.py.leavesShort 13 = true
  weight : x.py.weight ≤ w
structure NiceL (d v n : Nat) (xs : List D) : Prop where
  plain : D.plains xs = true
  lay : PyData.canLayAll0 (D.pys xs) = true
  depth : PyData.depthAll (D.pys xs) ≤ d
  show_ : PyData.showableAll (D.pys xs) = true
  noDict : PyData.hasDictAll (D.pys xs) = false
  short : PyData.leavesShortAll 13 (D.pys xs) = true
  weight : PyData.weightAll (D.pys xs) ≤ xs.length * (v + 1)
theorem niceL {d v : Nat} : ∀ {xs : List D}, (∀ x ∈ xs, NiceF d v x) → NiceL d v xs.length xs
  | [], _ => ⟨by simp [D.plains], by simp [D.pys, PyData.canLayAll0], by simp [D.pys, PyData.depthAll], by simp [D.pys, PyData.showableAll], by simp [D.pys, PyData.hasDictAll], by simp [D.pys, PyData.leavesShortAll], by simp [D.pys, PyData.weightAll]⟩
  | x :: xs, h => by
    have a := h x List.mem_cons_self
    have b := niceL (xs := xs) fun y hy => h y (List.mem_cons_of_mem _ hy)
    refine ⟨?_, ?_, ?_, ?_, ?_, ?_, ?_⟩
    · rw [D.plains, a.plain, b.plain]; rfl
    · rw [D.pys, PyData.canLayAll0, a.lay, b.lay]; rfl
    · rw [D.pys, PyData.depthAll]; exact Nat.max_le.mpr ⟨a.depth, b.depth⟩
    · rw [D.pys, PyData.showableAll, a.show_, b.show_]; rfl
    · rw [D.pys, PyData.hasDictAll, a.noDict, b.noDict]; rfl
    · rw [D.pys, PyData.leavesShortAll, a.short, b.short]; rfl
    · rw [D.pys, PyData.weightAll, List.length_cons, Nat.succ_mul]
      have := a.weight
      have := b.weight
      omega
theorem Nice.facts {d w : Nat} {x : D} (h : Nice d w x) : NiceF d w x := by
  induction h with
  | non => exact ⟨by simp [D.plain], by simp [D.py, PyData.canLay0], by simp [D.py, PyData.depth], by simp [D.py, PyData.showable], by simp [D.py, PyData.hasDict], by simp [D.py, PyData.leavesShort], by simp [D.py, PyData.weight]⟩
  | bl => exact ⟨by simp [D.plain], by simp [D.py, PyData.canLay0], by simp [D.py, PyData.depth], by simp [D.py, PyData.showable], by simp [D.py, PyData.hasDict], by simp [D.py, PyData.leavesShort], by simp [D.py, PyData.weight]⟩
  | @int d w i h hw =>
    have lg : i.natAbs.log2 < 40 := by
      by_cases h0 : i.natAbs = 0
      · rw [h0]; decide
      · exact (Nat.log2_lt h0).mpr (Nat.lt_trans h (by decide))
    refine ⟨by simp [D.plain], by simp [D.py, PyData.canLay0], by simp [D.py, PyData.depth], ?_, by simp [D.py, PyData.hasDict], ?_, ?_⟩
    · rw [D.py, PyData.showable]; exact decide_eq_true (by omega)
    · rw [D.py, PyData.leavesShort]; exact decide_eq_true (PyData.shown_int_le h)
    · rw [D.py, PyData.weight]
      split
      · omega
      · omega
  | @str d w x h hw =>
    refine ⟨by simp [D.plain], by rw [D.py, PyData.canLay0]; exact h, by simp [D.py, PyData.depth], by simp [D.py, PyData.showable], by simp [D.py, PyData.hasDict], ?_, by rw [D.py, PyData.weight]; exact hw⟩
    rw [D.py, PyData.leavesShort, List.all_eq_true]
    intro c hc
    have q := (Array.all_eq_true_iff_forall_mem.mp (show x.cps.all (· < 0x110000) = true from h)) c (Array.mem_toList_iff.mp hc)
    have q : c < 0x110000 := by simpa using q
    have e : (16 : Nat) ^ 8 = 4294967296 := by decide
    exact decide_eq_true (by omega)
  | tup h hw ih =>
    have b := niceL ih
    refine ⟨by rw [D.plain]; exact b.plain, by rw [D.py, PyData.canLay0]; exact b.lay, by rw [D.py, PyData.depth]; exact Nat.succ_le_succ b.depth, by rw [D.py, PyData.showable]; exact b.show_, by rw [D.py, PyData.hasDict]; exact b.noDict, by rw [D.py, PyData.leavesShort]; exact b.short, by rw [D.py, PyData.weight]; exact Nat.le_trans b.weight hw⟩
  | lst h hw ih =>
    have b := niceL ih
    refine ⟨by rw [D.plain]; exact b.plain, by rw [D.py, PyData.canLay0]; exact b.lay, by rw [D.py, PyData.depth]; exact Nat.succ_le_succ b.depth, by rw [D.py, PyData.showable]; exact b.show_, by rw [D.py, PyData.hasDict]; exact b.noDict, by rw [D.py, PyData.leavesShort]; exact b.short, by rw [D.py, PyData.weight]; exact Nat.le_trans b.weight hw⟩
  | bor h hw ih =>
    have b := niceL ih
    refine ⟨by rw [D.plain]; exact b.plain, by rw [D.py, PyData.canLay0]; exact b.lay, by rw [D.py, PyData.depth]; exact Nat.succ_le_succ b.depth, by rw [D.py, PyData.showable]; exact b.show_, by rw [D.py, PyData.hasDict]; exact b.noDict, by rw [D.py, PyData.leavesShort]; exact b.short, by rw [D.py, PyData.weight]; exact Nat.le_trans b.weight hw⟩
theorem Nice.repr {d w : Nat} {x : D} (h : Nice d w x) (hd : d ≤ 60) (hw : w ≤ 2 ^ 20) : reprOk x = true := by
  have f := h.facts
  unfold reprOk
  simp only [f.plain, f.show_, f.noDict, Bool.not_false, Bool.and_true, Bool.true_and, Bool.and_eq_true, decide_eq_true_eq]
  exact ⟨Nat.le_trans f.depth hd, PyData.shown_fits (by decide) (by decide) f.short (Nat.le_trans f.weight hw)⟩
theorem Nice.eqOk {d w d' w' : Nat} {x y : D} (h : Nice d w x) (h' : Nice d' w' y) (hd : d ≤ 60) (hd' : d' ≤ 60) : eqOk x y = true := by
  have f := h.facts
  have f' := h'.facts
  have s : SeqAt.shaped x.py = true := by
    unfold SeqAt.shaped
    rw [f.lay, decide_eq_true (Nat.le_trans f.depth (by omega))]; rfl
  have s' : SeqAt.shaped y.py = true := by
    unfold SeqAt.shaped
    rw [f'.lay, decide_eq_true (Nat.le_trans f'.depth (by omega))]; rfl
  unfold FL.eqOk
  rw [f.plain, f'.plain, s, s']
  simp
theorem Nice.mono {d w d' w' : Nat} {x : D} (h : Nice d w x) (hd : d ≤ d') (hw : w ≤ w') : Nice d' w' x := by
  induction h generalizing d' w' with
  | non => exact .non
  | bl => exact .bl
  | int h h2 => exact .int h (Nat.le_trans h2 hw)
  | str h h2 => exact .str h (Nat.le_trans h2 hw)
  | tup h h2 ih =>
    obtain ⟨e, rfl⟩ : ∃ e, d' = e + 1 := ⟨d' - 1, by omega⟩
    exact .tup (fun x hx => ih x hx (by omega) (Nat.le_refl _)) (Nat.le_trans h2 hw)
  | lst h h2 ih =>
    obtain ⟨e, rfl⟩ : ∃ e, d' = e + 1 := ⟨d' - 1, by omega⟩
    exact .lst (fun x hx => ih x hx (by omega) (Nat.le_refl _)) (Nat.le_trans h2 hw)
  | bor h h2 ih =>
    obtain ⟨e, rfl⟩ : ∃ e, d' = e + 1 := ⟨d' - 1, by omega⟩
    exact .bor (fun x hx => ih x hx (by omega) (Nat.le_refl _)) (Nat.le_trans h2 hw)
/-- a tuple of ints -/
theorem nice_ints {r : List Int} (h : ∀ i ∈ r, i.natAbs < 10 ^ 12) {w : Nat} (hw : r.length * 42 ≤ w) : Nice 1 w (.tup (r.map D.int)) :=
  .tup (v := 41) (fun x hx => by
    obtain ⟨i, hi, rfl⟩ := List.mem_map.mp hx
    exact .int (h i hi) (Nat.le_refl _)) (by rw [List.length_map]; exact hw)
/-- x == () -/
theorem eqD_nil (xs : List D) : eqD (.tup xs) (.tup []) = xs.isEmpty := by
  cases xs with
  | nil => simp [eqD, D.py, D.pys, PyData.eqv, PyData.eqvAll]
  | cons x xs => simp [eqD, D.py, D.pys, PyData.eqv, PyData.eqvAll]
theorem nice_nil : Nice 1 0 (.tup []) := .tup (v := 0) (fun x hx => by cases hx) (by simp)
theorem eq_nil_tup {d w : Nat} {xs : List D} {st : DS} (h : Nice d w (.tup xs)) (hd : d ≤ 60) : gEq (.tup xs) (.tup []) st = .ok (.bl xs.isEmpty) st := by
  unfold gEq
  rw [if_pos (h.eqOk nice_nil hd (by decide)), eqD_nil]
end FL

/-! FL29: instances: made, read, asked for their class -/
namespace FL
open PySem PySem.Spec PyProof.Rows L2
/-- what an __init__ that stores its parameters promises -/
def spI (C : Addr) (ks : List Str) : Sp := fun vs H Q _ => ∃ (x dx : Addr) (ws : List V), vs = .ref x :: ws ∧ ws.length = ks.length ∧ H x = some (.ins C dx []) ∧ Q .non (upd H x (.ins C dx (ks.zip ws)))
structure CTxt (K : PySem.W.Frag) (mg : Str → Option Value) (x : Str) (C : Addr) (ks : List Str) : Prop where
  cl : Cls K C
  no : ∀ f ∈ ks, NoAttr K C f
  mgC : mg x = some (.ref C)
  ha : PySem.W.findIn K (.ref C) "__class__" = some (some (.builtin "object.__class__"))
  hn : PySem.W.specialIn K (.builtin "object.__class__") "__get__" = some (some (.builtin "getset_descriptor.__get__"))
  htk : PySem.W.takesIn K (.builtin "object.__class__") = some true
  hm : PySem.W.mroIn K C (.type "object") = some true
  non : ∀ T ∈ ["NoneType", "bool", "int", "str", "tuple", "list", "dict"], PySem.W.kitOne K (.type T) (.ref C) = some false
section
variable {X : Cx} {k : Kx} {E : XE} {C : Addr} {x : Str} {ks : List Str} {mr : Ev → M (List D)} {e : Expr} {es : List Expr} {me : EM} {p pos p2 : Pos}
def mMk (C : Addr) (ks : List Str) (mr : Ev → M (List D)) : EM := fun Γ => do
  let ds ← mr Γ
  if ds.length = ks.length then pure (.ins C ks ds) else halt
theorem zip_fst : ∀ {ks : List Str} {vs : List V}, vs.length = ks.length → (ks.zip vs).map (·.1) = ks
  | [], [], _ => rfl
  | k :: ks, v :: vs, h => by rw [List.zip_cons_cons, List.map_cons, zip_fst (by simpa using h)]
  | [], _ :: _, h => by simp at h
  | _ :: _, [], h => by simp at h
theorem zip_snd : ∀ {ks : List Str} {vs : List V}, vs.length = ks.length → (ks.zip vs).map (·.2) = vs
  | [], [], _ => rfl
  | k :: ks, v :: vs, h => by rw [List.zip_cons_cons, List.map_cons, zip_snd (by simpa using h)]
  | [], _ :: _, h => by simp at h
  | _ :: _, [], h => by simp at h
theorem e_mk {j : Nat} (c : C8.Mak X.prog X.w X.K X.mg X.base 1 x C (spI C ks) []) (hr : Room j X.A) (hj : 2 ≤ j) (hg : Gl X x) (ha : PA X (e :: es) (tA k E mr)) (hdb : (x == ("__debug__" : Str)) = false := by decide)
    (he : starEach (e :: es) X.env = (false, eval e X.env) :: starEach es X.env := by rfl) (hpl : (backTo pos (starEach es X.env)).any (·.1) = false := by rfl) : PE X (.Call (.Name x p) (e :: es) [] pos) (tM k E (mMk C ks mr)) :=
  PE.weak (C8.pe_mk c hr hj hg ha hdb he hpl) fun σ H Q ⟨F, Γ, st, ok, w⟩ => tA.then_ ok w fun vs ds F1 H1 st1 s1 ok1 r1 w1 => by
    intro y dx ny ndx nyd
    split at w1
    · rename_i hl
      have lv : vs.length = ks.length := by rw [r1.length]; exact hl
      refine ⟨y, dx, vs, by rw [List.append_nil], lv, upd_same, rfl, ?_⟩
      rw [upd_upd]
      have s2 := ok1.new (ob := .own y) ndx
      have ok2 := ok1.step s2
      have ny2 : upd H1 dx (.own y) y = none := by rw [upd_ne (Ne.symm nyd)]; exact ny
      have s3 := ok2.new (ob := .ins C dx (ks.zip vs)) ny2
      refine w1 _ _ (ok1.trans s2 s3) _ (.ins (dx := dx) (fs := ks.zip vs) upd_same (by rw [upd_ne nyd, upd_same]) (zip_fst lv) ?_)
      rw [zip_snd lv]
      exact (r1.mono s2.ext).mono s3.ext
    · exact w1.elim
/-- a field, of instances of the classes cs -/
def gFld (cs : List Addr) (f : Str) : D → M D := fun d st => match d with
  | .ins C ks xs => if C ∈ cs then (match (ks.zip xs).lookup f with | some d => .ok d st | none => .stuck) else .stuck
  | _ => .stuck
theorem ins_look {F : Hp} {f : Str} {d : D} : ∀ {fs : List (Str × V)} {xs : List D}, Reps k F (fs.map (·.2)) xs → ((fs.map (·.1)).zip xs).lookup f = some d → ∃ v, fs.lookup f = some v ∧ Rep k F v d
  | [], _, _, h => by simp at h
  | (g, v) :: fs, x :: xs, r, h => by
    cases r with
    | cons h1 t1 =>
      rw [List.map_cons, List.zip_cons_cons, List.lookup_cons] at h
      rw [List.lookup_cons]
      cases e : (f == g) with
      | true =>
        rw [e] at h
        cases h
        exact ⟨v, rfl, h1⟩
      | false =>
        rw [e] at h
        exact ins_look t1 h
  | (_, _) :: _, [], _, h => by simp at h
theorem e_fld {f : Str} (cs : List Addr) (hcs : ∀ C ∈ cs, Cls X.K C ∧ NoAttr X.K C f) (he : PE X e (tM k E me)) (hb : attributeBase e f X.env (eval e X.env) = eval e X.env := by rfl) : PE X (.Attribute e f pos) (tM k E (mUn (gFld cs f) me)) :=
  PE.weak (pe_fld he hb) fun σ H Q ⟨F, Γ, st, ok, w⟩ => tM.then_ ok w fun v d F1 H1 st1 s1 ok1 r1 w1 => by
    unfold gFld at w1
    split at w1
    · split at w1
      · rename_i hc
        split at w1
        · rename_i d' hl
          cases r1 with
          | @ins a C dx fs ks xs h h2 e r =>
            subst e
            obtain ⟨v', l, rv⟩ := ins_look r hl
            exact ⟨a, _, dx, fs, v', rfl, ok1.sub _ _ h, (hcs _ hc).1, (hcs _ hc).2, l, w1 F1 H1 ok1.refl _ rv⟩
        · exact w1.elim
      · exact w1.elim
    · exact w1.elim
/-- isinstance(e, C), C a class of one's own; cs the classes that instances may have -/
def gIsC (C0 : Addr) (cs : List Addr) : D → M D := fun d st => match d with
  | .ins C _ _ => if C = C0 then .ok (.bl true) st else if C ∈ cs then .ok (.bl false) st else .stuck
  | d => if oddD d = true then .stuck else .ok (.bl false) st
theorem tyN_in {d : D} (no : oddD d = false) : tyN d ∈ ["NoneType", "bool", "int", "str", "tuple", "list", "dict"] := by
  cases d with
  | ins C ks xs => cases no
  | kl xs => cases no
  | set xs => cases no
  | dic ks xs => cases no
  | dct ks xs => cases no
  | _ => simp [tyN]
theorem e_isC (T : CTxt X.K X.mg x C ks) (cs : List Addr) (hcs : ∀ B ∈ cs, B ≠ C → (∃ y ks, CTxt X.K X.mg y B ks) ∧ PySem.W.kitOne X.K (.ref B) (.ref C) = some false) (hg : Gl X "isinstance") (hm : X.mg "isinstance" = none) (he : PE X e (tM k E me)) (hgT : Gl X x) (hb : bootBuiltins "isinstance" = some (.builtin "isinstance")) (hk : k.K = X.K := by rfl) (hyd : (x == ("__debug__" : Str)) = false := by decide)
    (hs : starEach [.Name x p2] X.env = (false, eval (.Name x p2) X.env) :: starEach [] X.env := by rfl) (hs2 : starEach [e, .Name x p2] X.env = (false, eval e X.env) :: starEach [.Name x p2] X.env := by rfl) (hpl : (backTo pos (starEach [.Name x p2] X.env)).any (·.1) = false := by rfl) :
    PE X (.Call (.Name "isinstance" p) [e, .Name x p2] [] pos) (tM k E (mUn (gIsC C cs) me)) :=
  PE.weak (pe_callB call_isi hg hm hb (pa_cons he (pa_cons (pe_glob (v := .ref C) hgT T.mgC rfl hyd) pa_nil hs) hs2) (by decide) (by decide) hs2 hpl) fun σ H Q ⟨F, Γ, st, ok, w⟩ => tM.then_ ok w fun v d F1 H1 st1 s1 ok1 r1 w1 => by
    unfold gIsC at w1
    split at w1
    · rename_i B ks' xs
      cases r1 with
      | @ins a C' dx fs _ _ h h2 e r =>
        split at w1
        · rename_i hc
          subst hc
          refine ⟨_, .ref B, _, _, true, rfl, .own B, .base (.ins (ok1.sub _ _ h) T.cl T.ha T.hn T.htk T.hm), ?_, w1 F1 H1 ok1.refl _ (.bl true)⟩
          unfold PySem.W.kitOne
          rw [if_pos (by simp)]
        · rename_i hne
          split at w1
          · rename_i hin
            obtain ⟨⟨y, ks2, TB⟩, kf⟩ := hcs B hin hne
            exact ⟨_, .ref C, _, _, false, rfl, .own C, .base (.ins (ok1.sub _ _ h) TB.cl TB.ha TB.hn TB.htk TB.hm), kf, w1 F1 H1 ok1.refl _ (.bl false)⟩
          · exact w1.elim
    · rename_i n1
      split at w1
      · exact w1.elim
      rename_i n2
      have n2 : oddD d = false := by simpa using n2
      refine ⟨v, .ref C, _, _, false, rfl, .own C, ?_, T.non _ (tyN_in n2), w1 F1 H1 ok1.refl _ (.bl false)⟩
      rw [← hk]
      exact r1.tyX ok1.sub ok1.bsub (fun on => ⟨_, (ok1.at_ on).dl⟩) n2
end
end FL

/-! FL30a: an own error with fields is asked for its class -/
namespace FL
open PySem PySem.Spec PySem.Calls PyProof.Rows PySem.W
section
variable {prog : Program} {w : World} {A : Around} {E : Value → Shared → Prop} {K : PySem.W.Frag} {x D : Addr} {ox od : Obj}
/-- what the class must say -/
structure ITxt (K : PySem.W.Frag) (C : Addr) : Prop where
  ha : PySem.W.findIn K (.ref C) "__class__" = some (some (.builtin "object.__class__"))
  hn : PySem.W.specialIn K (.builtin "object.__class__") "__get__" = some (some (.builtin "getset_descriptor.__get__"))
  ht : PySem.W.takesIn K (.builtin "object.__class__") = some true
  hm : PySem.W.mroIn K C (.type "object") = some true
theorem cls_seen (I : ITxt K D) (hga : findIn K (.ref D) "__getattribute__" = some (some (.builtin "BaseException.__getattribute__"))) (hgt : findIn K (.ref D) "__getattr__" = some none) (hsub : subIn K (.ref D) (.type "BaseException") = some true) (hdct : hasDictIn K D = true)
    {hp : Heap} {g d : _} {t : Tok} {os : _} {Q : Option Value → Shared → Prop} (X : K.In hp) (J : InstAt hp x ox D (some od)) (h : Q (some (.ref D)) ⟨hp, g, d, t + 1, os⟩) : wpAny (model prog w) A (getAttr? (.ref x) "__class__") Q E ⟨hp, g, d, t, os⟩ := by
  have fnd := looks_find (M := model prog w) X J (findObj_data (K := K) (C := D) (name := "__class__") (by obtain ⟨cd, hc, _⟩ := any_some hdct; rw [hc]; rfl) I.ha I.hn I.ht)
  have ty := J.type (M := model prog w)
  have neq : (Value.builtin "BaseException.__getattribute__" == Value.builtin "object.__getattribute__") = false := by decide +kernel
  unfold getAttr? getAttrBy? getAttrBy
  refine wpAny_bind (wpAny_mkText (wpAny_bind (wpAny_attempt (wpAny_holding (wpAny_bind (ty.at (wpAny_bind ((looks_findIn (M := model prog w) X hga).at ?_))))))))
  show wpAny _ _ (if (onTheHeap (Value.ref D) && Value.builtin "BaseException.__getattribute__" == Value.builtin "object.__getattribute__") = true then _ else _) _ _ _
  rw [show (onTheHeap (Value.ref D) && Value.builtin "BaseException.__getattribute__" == Value.builtin "object.__getattribute__") = false by rw [neq]; rfl, if_neg Bool.false_ne_true]
  unfold getAttrByItsOwn hookBefore
  refine wpAny_bind ?_
  rw [if_pos (show onTheHeap (Value.ref D) = true from rfl)]
  refine (looks_findIn (M := model prog w) X hgt).at ?_
  refine wpAny_bind (wpAny_attempt (wpAny_holding ?_))
  unfold callGetattribute
  rw [show (false && onTheHeap (Value.builtin "BaseException.__getattribute__")) = false from rfl, if_neg Bool.false_ne_true]
  unfold boundAndCalled
  rw [PySem.F.excAttr_ValueError.ga.bind (.ref x)]
  refine wpAny_bind (wpAny_pure ?_)
  show wpAny _ _ (call (.builtin "BaseException.__getattribute__") [.ref x, .str "__class__" t]) _ _ _
  refine wpAny_call (codeAny_call_builtin PySem.F.excAttr_ValueError.ga.plain PySem.F.entry_bexc_ga ?_)
  refine @check_slot (model prog w) _ _ ⟨hp, g, d, t + 1, os⟩ "BaseException.__getattribute__" "BaseException" "__getattribute__" (.ref x) [.str "__class__" t] [] _ (by decide +kernel) (by decide +kernel) (ty.andThen (looks_subIn X hsub)) (PySem.F.args_bexc_ga (.ref x) (.str "__class__" t)) ?_
  unfold Builtin.«object.__getattribute__»
  refine wpAny_bind (wpAny_of_eq (a := ((Value.ref x : Value), [Value.str "__class__" t])) (by first | rfl | (simp only [slotArgs]; rfl)) ?_)
  refine wpAny_bind (wpAny_pure (wpAny_bind (ty.at (wpAny_bind (fnd.at ?_)))))
  show wpAny _ _ (holding [Value.builtin "object.__class__"] (call (.builtin "getset_descriptor.__get__") [.builtin "object.__class__", .ref x, .ref D]) >>= ret) _ _ _
  refine wpAny_bind (wpAny_holding (wpAny_call (class_get (s := ⟨hp, g, d, t + 1, os⟩) (ox := ox) (od := some od) X J I.hm ?_)))
  refine wpAny_pure ?_
  show wpAny _ _ (handedOut (.ref D)) _ _ _
  rw [handedOut_of (v := .ref D) rfl]
  first
    | exact wpAny_pure (wpAny_pure h)
    | exact wpAny_pure h
    | exact wpAny_pure (wpAny_bind (wpAny_pure (wpAny_pure h)))
theorem kit_err (I : ITxt K D) (hga : findIn K (.ref D) "__getattribute__" = some (some (.builtin "BaseException.__getattribute__"))) (hgt : findIn K (.ref D) "__getattr__" = some none) (hsub : subIn K (.ref D) (.type "BaseException") = some true) (hdct : hasDictIn K D = true) :
    KitX K (.ref x) (.ref D) (fun h => InstAt h x ox D (some od)) := by
  obtain ⟨cdD, hcD, _⟩ := any_some hdct
  refine ⟨fun _ _ _ J => J.type, fun _ _ X _ => ?_, fun h tp dd its n sl X htp => ?_, fun {_ _ _ _ _ s} X J k => ?_⟩
  · unfold clsIn at hcD
    split at hcD
    · rename_i ho
      intro A' Q' E' s' k q
      unfold isType loadHead
      exact wpAny_bind (wpAny_loadPart (k _ _ (X _ _ ho)) (wpAny_pure q))
    · cases hcD
  · refine Bool.eq_false_iff.mpr fun q => ?_
    have e : D = tp := Value.ref.inj (beq_iff_eq.mp q)
    subst e
    unfold clsIn at hcD
    split at hcD
    · rename_i ho
      cases (X _ _ ho).symm.trans htp
    · cases hcD
  · obtain ⟨hp, g, d, t, os⟩ := s
    exact cls_seen I hga hgt hsub hdct X J k
end
end FL

/-! FL30: wide * and //, gcd, insert, three names at once, a module's tuple, an error asked for its class -/
namespace FL
open PySem PySem.Spec PyProof.Rows L2
section
variable {X : Cx} {k : Kx} {E : XE} {e : Expr} {es : List Expr} {mr : Ev → M (List D)} {me : EM} {p pos p2 : Pos}
def gMulW : M2 := g2I (fun i j => decide (i.natAbs.log2 + j.natAbs.log2 < 1000000)) fun i j => .int (i * j)
def gDivW : M2 := g2I (fun _ j => decide (0 < j ∧ j.natAbs.log2 < 9000)) fun i j => .int (i / j)
theorem s_mulW : OpS X k (binaryOp .Mult) gMulW := ops_I op_mulW (fun i j h => (of_decide_eq_true h : i.natAbs.log2 + j.natAbs.log2 < 1000000)) fun _ i j => .int (i * j)
theorem s_divW : OpS X k (binaryOp .FloorDiv) gDivW := ops_I op_fdivW (fun i j h => (of_decide_eq_true h : 0 < j ∧ j.natAbs.log2 < 9000)) fun _ i j => .int (i / j)
/-! ### gcd -/
def gGcd : List D → M D := fun ds st => match ds with
  | [.int a, .int b] => .ok (.int ((Nat.gcd a.natAbs b.natAbs : Nat) : Int)) st
  | _ => .stuck
theorem e_gcd {x : Str} (hg : Gl X x) (hm : X.mg x = some (.builtin "math.gcd")) (ha : PA X (e :: es) (tA k E mr)) (hdb : (x == ("__debug__" : Str)) = false := by decide)
    (he : starEach (e :: es) X.env = (false, eval e X.env) :: starEach es X.env := by rfl) (hpl : (backTo pos (starEach es X.env)).any (·.1) = false := by rfl) : PE X (.Call (.Name x p) (e :: es) [] pos) (tM k E (mCall gGcd mr)) :=
  PE.weak (pe_callBfun cr_gcd hg hm ha hdb he hpl) fun σ H Q ⟨F, Γ, st, ok, w⟩ => tA.then_ ok w fun vs ds F1 H1 st1 s1 ok1 r1 w1 => by
    unfold gGcd at w1
    split at w1
    · match vs, r1 with
      | [_, _], .cons (.int a) (.cons (.int b) .nil) => exact ⟨a, b, rfl, w1 F1 H1 ok1.refl _ (.int _)⟩
    · exact w1.elim
/-! ### a module's tuple of ints -/
def KTup (K : PySem.W.Frag) (mg : Str → Option Value) (x : Str) (ns : List Int) : Prop := ∃ (a : Addr) (o : Obj) (its : Array Value) (n : Nat), mg x = some (.ref a) ∧ K.lookup a = some o ∧ o.dict = none ∧ o.cls = .type "tuple" ∧ o.data = .seq its n ∧ its.size ≤ sizeLine ∧ Vals (ns.map V.int) its.toList
theorem Reps.ints0 {F : Hp} : ∀ ns : List Int, Reps k F (ns.map V.int) (ns.map D.int)
  | [] => .nil
  | n :: ns => .cons (.int n) (Reps.ints0 ns)
theorem e_ktup {x : Str} {ns : List Int} (hg : Gl X x) (h : KTup X.K X.mg x ns) (hk : k.K = X.K := by rfl) (hd : (x == ("__debug__" : Str)) = false := by decide) : PE X (.Name x pos) (tM k E (mC (.tup (ns.map D.int)))) := by
  obtain ⟨a, o, its, n, hm, hl, hnd, hc, hdt, hs, hv⟩ := h
  refine PE.weak (pe_glob (v := .ref a) hg hm rfl hd) fun σ H Q ⟨F, Γ, st, ok, w⟩ => ?_
  exact w F H ok.refl _ (.tup (.inr ⟨o, its, n, by rw [hk]; exact hl, hc, hdt, hs, hv⟩) (Reps.ints0 ns) (.inr ⟨o, by rw [hk]; exact hl, hnd⟩))
/-! ### three names -/
def mPar3 (i j l : Nat) (ma : Ev → M (List D)) : SM := fun Γ => sE (ma Γ) Γ fun ds => match ds with
  | [d, e, f] => pure (.nx (((Γ.set i (some (.dat d))).set j (some (.dat e))).set l (some (.dat f))))
  | _ => halt
theorem s_par3 {i j l : Nat} {x y z : Str} {a b c : Expr} {ma : Ev → M (List D)} {px py pz pt : Pos} {kt k2 : Nat} {pt2 : Pos} (hc : X.calm = true) (hN : X.N.Nodup) (ha : PA X [a, b, c] (tA k E ma)) (hij : i ≠ j) (hil : i ≠ l) (hjl : j ≠ l) (hi : X.N[i]? = some x := by rfl) (hj : X.N[j]? = some y := by rfl) (hl : X.N[l]? = some z := by rfl)
    (hx : X.env.scope.names.lookup x = some .local := by rfl) (hy : X.env.scope.names.lookup y = some .local := by rfl) (hz : X.env.scope.names.lookup z = some .local := by rfl)
    (hw : swappedStores [.Tuple [.Name x px, .Name y py, .Name z pz] kt pt] (.Tuple [a, b, c] k2 pt2) X.env = pure (some [x, y, z]) := by rfl)
    (hs : swapsWithSole [.Tuple [.Name x px, .Name y py, .Name z pz] kt pt] (.Tuple [a, b, c] k2 pt2) pos.line X.env = pure false := by rfl) :
    PS X (.Assign [.Tuple [.Name x px, .Name y py, .Name z pz] kt pt] (.Tuple [a, b, c] k2 pt2) pos) (tS k E (mPar3 i j l ma)) :=
  PS.weak (ps_par3 hc hN hi hj hl hij hil hjl hx hy hz ha hw hs) fun D σ H ⟨G, H0, P, F, Γ, st, ok, w⟩ => tA.inS ok w fun vs ds F1 H1 st1 s ok1 r w1 => by
    match ds, r, w1 with
    | [d, e, f], .cons r1 (.cons r2 (.cons r3 .nil)), w1 => exact ⟨_, _, _, rfl, w1 _ F1 H1 (ok1.upd (((Upd.set ok1.ok.len r1).trans (Upd.set (by simp [ok1.ok.len]) r2)).trans (Upd.set (by simp [ok1.ok.len]) r3)))⟩
    | [], _, w1 => exact w1.elim
    | [_], _, w1 => exact w1.elim
    | [_, _], _, w1 => exact w1.elim
    | _ :: _ :: _ :: _ :: _, _, w1 => exact w1.elim
/-! ### x.insert(i, e) -/
def insD (xs : List D) (i : Int) (d : D) : List D := xs.take i.toNat ++ [d] ++ xs.drop i.toNat
def mIns (i : Nat) (ma me : EM) : SM := fun Γ => match gOwn i Γ with
  | some xs => sE (ma Γ) Γ fun n => sE (me Γ) Γ fun d => match n with
    | .int n => if decide (xs.length < sizeLine ∧ 0 ≤ n ∧ n < 2 ^ 63) then pure (.nx (Γ.set i (some (.own (insD xs n d))))) else halt
    | _ => halt
  | none => halt
theorem s_ins (i : Nat) {x : Str} {a : Expr} {px apos cpos : Pos} {ma me : EM} (ha : PE X a (tM k E ma)) (he : PE X e (tM k E me)) (hN : X.N[i]? = some x := by rfl) (hv : Vis X.env.scope x := by first | exact Or.inl rfl | exact Or.inr (Or.inl rfl) | exact Or.inr (Or.inr rfl)) (hd : (x == ("__debug__" : Str)) = false := by decide) (hcd : (x == ("__classdict__" : Str)) = false := by decide)
    (hbase : attributeBase (.Name x px) "insert" X.env (eval (.Name x px) X.env) = eval (.Name x px) X.env := by rfl)
    (hfew : ((backTo cpos (starEach [a, e] X.env)).all (fun x => !x.1) && (backToKw cpos (keywordEach [] X.env)).all (fun x => x.1.isSome)
      && decide ([a, e].length + ([] : List Keyword).length + (if ([] : List Keyword).isEmpty then 0 else 1) < 30)) = true := by rfl)
    (hline : (apos.endLine == cpos.line) = true := by rfl) (hs1 : starEach [e] X.env = (false, eval e X.env) :: starEach [] X.env := by rfl) (hs : starEach [a, e] X.env = (false, eval a X.env) :: starEach [e] X.env := by rfl) (hplain : (backTo cpos (starEach [e] X.env)).any (·.1) = false := by rfl)
    (hsw : swapsWith (.Call (.Attribute (.Name x px) "insert" apos) [a, e] [] cpos) none pos.line X.env = pure false := by rfl) : PS X (.Expr (.Call (.Attribute (.Name x px) "insert" apos) [a, e] [] cpos) pos) (tS k E (mIns i ma me)) :=
  PS.weak (ps_expr (pe_bm PySem.F.plainAttrs_list PySem.F.slot_list_insert PySem.F.type_list_insert mt_insert (pv i hN hv hd hcd) (pa_cons ha (pa_cons he pa_nil hs1) hs) hbase hfew hline hs hplain) hsw) fun D σ H ⟨G, H0, P, F, Γ, st, ok, w⟩ => by
    unfold mIns at w
    cases eg : gOwn i Γ with
    | none => rw [eg] at w; exact w.elim
    | some xs =>
      rw [eg] at w
      obtain ⟨v0, e2, a, _, rfl, ha, _, _, _, vs, rfl, _⟩ := ok.ok.slot i _ (gOwn_use eg)
      refine ⟨.ref a, e2, .inl ⟨rfl, _, SqL.of ha⟩, tM.inS ok w fun u n F1 H1 st1 s1 ok1 r1 w1 => tM.inS ok1 w1 fun v d F2 H2 st2 s2 ok2 r2 w2 => ?_⟩
      obtain ⟨v0', e2', a', _, e3, ha', fa, n1, n3, vs', rfl, rr⟩ := ok2.ok.slot i _ (gOwn_use eg)
      rw [e2] at e2'
      cases e2'
      cases e3
      split at w2
      · rename_i n
        split at w2
        · rename_i hz
          obtain ⟨z1, z2, z3⟩ := of_decide_eq_true hz
          cases r1
          refine ⟨a, vs', n, v, rfl, rfl, ha', by rw [rr.length]; exact z1, z2, z3, ?_⟩
          exact w2 σ F2 _ (ok2.mut (gOwn_use eg) e2 ⟨_, rfl, ((rr.take _).append (.cons r2 .nil)).append (rr.drop _)⟩)
        · exact w2.elim
      · exact w2.elim
end
/-! ### isinstance of the error that a suite holds -/
section
variable {X : Cx} {k : Kx} {E : XE} {C : Addr} {x fld : Str}
theorem isi_b : bootBuiltins "isinstance" = some (.builtin "isinstance") := by decide +kernel
theorem call_isX {a : Addr} {oe : Obj} {d : Option Addr} {pn : List (Addr × Obj)} (T : XTxt X.prog X.K X.mg x fld C) (IT : ITxt X.K C) (hz : Zc (.ref C) d oe) (hf : ∃ vs, oe.data = .fields vs) :
    CallR (X.suite a ((a, oe) :: pn)) (.builtin "isinstance") (fun xs H Q => ∃ (C1 : Addr) (b : Bool) (dd : Addr) (fs : List (Str × V)), xs = [.ref a, .ref C1] ∧ PySem.W.kitOne X.K (.ref C) (.ref C1) = some b ∧ d = some dd ∧ H dd = some (.xd fs) ∧ Q (.bl b) H) := by
  intro pins s σ H xs us Q I r h
  obtain ⟨C1, b, dd, fs, rfl, e, ed, hd, q⟩ := h
  match us, r with
  | [_, _], .cons rx (.cons rt .nil) =>
    cases rx
    cases rt
    obtain ⟨hget, _⟩ := I.pin (a, oe) (List.mem_append.mpr (.inl List.mem_cons_self))
    obtain ⟨vs, hv⟩ := hf
    obtain ⟨mA, hns, hr⟩ := (show ObjOk X.prog X.w H s.heap dd (.xd fs) from I.hok dd _ hd)
    obtain ⟨od, ho, hl⟩ := lookIn_ns hns
    subst ed
    have J : PySem.W.InstAt s.heap a oe C (some od) := ⟨hget, hz.1, by unfold PySem.W.notCls; rw [hv] <;> rfl, by rw [hz.2]; exact ho⟩
    exact PySem.W.kia_one (kit_err IT T.ga T.gg T.exC T.hdC) I.kIn J e (fun z => nomatch z) fun tk => ⟨.bl b, H, I.kept (t' := tk) fun _ _ z => z, rfl, q⟩
def tIsE (C : Addr) (b : Bool) (a : Addr) (cls : Value) (d : Option Addr) (i : Nat) : TE := fun σ H Q => ∃ v, σ[i]? = some (some v) ∧ v = .ref a ∧ cls = .ref C ∧ ∃ (dd : Addr) (fs : List (Str × V)), d = some dd ∧ H dd = some (.xd fs) ∧ Q (.bl b) H
theorem pe_isE {a C1 : Addr} {c1 n : Str} {oe : Obj} {b : Bool} {cls : Value} {d : Option Addr} {pn : List (Addr × Obj)} {i : Nat} {q1 q2 q3 q4 : Pos} (T : XTxt X.prog X.K X.mg x fld C) (IT : ITxt X.K C) (hz : Zc cls d oe) (hf : ∃ vs, oe.data = .fields vs)
    (hk : PySem.W.kitOne X.K (.ref C) (.ref C1) = some b) (hm1 : X.mg c1 = some (.ref C1)) (hg1 : Gl X c1) (hm : X.mg "isinstance" = none) (hg : Gl X "isinstance") (hN : X.N[i]? = some n)
    (hv : Vis X.env.scope n) (hd : (n == ("__debug__" : Str)) = false) (hcd : (n == ("__classdict__" : Str)) = false) (hdb : (c1 == ("__debug__" : Str)) = false)
    (hs : starEach [.Name c1 q3] X.env = (false, eval (.Name c1 q3) X.env) :: starEach [] X.env) (hs2 : starEach [.Name n q2, .Name c1 q3] X.env = (false, eval (.Name n q2) X.env) :: starEach [.Name c1 q3] X.env) (hpl : (backTo q4 (starEach [.Name c1 q3] X.env)).any (·.1) = false) :
    PE (X.suite a ((a, oe) :: pn)) (.Call (.Name "isinstance" q1) [.Name n q2, .Name c1 q3] [] q4) (tIsE C b a cls d i) := by
  refine ⟨fun pins s σ H Q I h => ?_⟩
  obtain ⟨v, e, rfl, ec, dd, fs, ed, hdd, q⟩ := h
  subst ec
  exact (pe_callB (X := X.suite a ((a, oe) :: pn)) (call_isX (pn := pn) T IT hz hf) hg hm isi_b (pa_cons (pv (X := X.suite a ((a, oe) :: pn)) i hN hv hd hcd) (pa_cons (pe_glob (X := X.suite a ((a, oe) :: pn)) (v := .ref C1) hg1 hm1 rfl hdb) pa_nil hs) hs2) (by decide) (by decide) hs2 hpl).run pins s σ H Q I ⟨.ref a, e, C1, b, dd, fs, rfl, hk, ed, hdd, q⟩
/-- try: .. except c as n: return n.fld if isinstance(n, c1) and not isinstance(n, c2) else 'word' -/
theorem s_tryIs {i kq : Nat} {n cn c1 c2 u : Str} {C1 C2 : Addr} {body : List Stmt} {mb : SM} {np p1 p2 p3 pos pos' q1 q2 q3 q4 q5 q6 q7 q8 q9 q10 q11 q12 : Pos} {c : Value} {cat : Addr → Option Bool} (hs : X.stack = X.env :: X.outer) (hf : X.env.frame = some X.env.locals) (hN : X.N.Nodup) (hln : X.env.kindOf n = some .local) (hc : Names X cn c) (tk : Takes X (WXof E))
    (T : XTxt X.prog X.K X.mg x fld C) (IT : ITxt X.K C) (k1 : PySem.W.kitOne X.K (.ref C) (.ref C1) = some true) (k2 : PySem.W.kitOne X.K (.ref C) (.ref C2) = some false) (m1 : X.mg c1 = some (.ref C1)) (m2 : X.mg c2 = some (.ref C2)) (hm : X.mg "isinstance" = none)
    (ct : Catch X.K c cat) (hb : ∀ (W : WX) (pn : List (Addr × Obj)) (xe : Value → Shared → Prop), Takes (X.tr pn xe) W → PassesOwn (model X.prog X.w) X.A X.env xe → PSs (X.tr pn xe) body (tS k (WE W) mb))
    (hi : X.N[i]? = some n := by rfl) (hbase : attributeBase (.Name n p1) fld X.env (eval (.Name n p1) X.env) = eval (.Name n p1) X.env := by rfl)
    (hv : Vis X.env.scope n := by first | exact Or.inl rfl | exact Or.inr (Or.inl rfl) | exact Or.inr (Or.inr rfl)) (hd : (n == ("__debug__" : Str)) = false := by decide) (hcd : (n == ("__classdict__" : Str)) = false := by decide)
    (g1 : Gl X c1 := by rfl) (g2 : Gl X c2 := by rfl) (hg : Gl X "isinstance" := by rfl) (d1 : (c1 == ("__debug__" : Str)) = false := by decide) (d2 : (c2 == ("__debug__" : Str)) = false := by decide)
    (s1 : starEach [.Name c1 q3] X.env = (false, eval (.Name c1 q3) X.env) :: starEach [] X.env := by rfl) (s2 : starEach [.Name n q2, .Name c1 q3] X.env = (false, eval (.Name n q2) X.env) :: starEach [.Name c1 q3] X.env := by rfl) (hpl1 : (backTo q4 (starEach [.Name c1 q3] X.env)).any (·.1) = false := by rfl)
    (s3 : starEach [.Name c2 q7] X.env = (false, eval (.Name c2 q7) X.env) :: starEach [] X.env := by rfl) (s4 : starEach [.Name n q6, .Name c2 q7] X.env = (false, eval (.Name n q6) X.env) :: starEach [.Name c2 q7] X.env := by rfl) (hpl2 : (backTo q8 (starEach [.Name c2 q7] X.env)).any (·.1) = false := by rfl) :
    PS X (.Try body [.ExceptHandler (some (.Name cn np)) (some n) [.Return (some (.IfExp (.BoolOp .And [.Call (.Name "isinstance" q1) [.Name n q2, .Name c1 q3] [] q4, .UnaryOp .Not (.Call (.Name "isinstance" q5) [.Name n q6, .Name c2 q7] [] q8) q9] q10) (.Attribute (.Name n p1) fld p2) (.Constant (.str u) kq q11) q12)) p3] pos'] [] [] pos) (tS k E (mTryFld mb cat C fld i)) :=
  PS.weak (ps_try_as (i := i) (tb := fun W => tS k (WE W) mb) (ts := fun a cls d => tRet (tIf (tAnd (tB (tIsE C true a cls d i)) (tNot (tB (tIsE C false a cls d i)))) (tXF C fld a cls d (tVar i)) (tC (.str u)))) (Wout := WXof E) hs hf hN hi hln hc tk hb
    (fun a oe cls d pn hz hfl => pss_one (ps_ret (pe_ifExp (pw_and (pt_val (pe_isE (pn := pn) T IT hz hfl k1 m1 g1 hm hg hi hv hd hcd d1 s1 s2 hpl1)) (pw_and1 (pt_not (pt_val (pe_isE (pn := pn) T IT hz hfl k2 m2 g2 hm hg hi hv hd hcd d2 s3 s4 hpl2))))).pt (pe_xf T hz hfl (pv (X := X.suite a ((a, oe) :: pn)) i hi hv hd hcd) hbase) pe_str)))) fun D σ H ⟨G, H0, P, F, Γ, st, ok, w⟩ => by
    refine ⟨G, H0, P, F, Γ, st, ok, ?_⟩
    unfold mTryFld at w
    revert w
    cases mb Γ st with
    | ok r st' =>
      cases r with
      | nx Γ' => exact fun w => w
      | rt d => exact fun w => w
      | bk Γ' => exact fun w => w
      | ct Γ' => exact fun w => w
      | xc C' fs Γ' =>
        intro w σ' F' H' da vs o e q
        dsimp only at w
        split at w
        · rename_i hcat
          split at w
          · rename_i f d
            split at w
            · rename_i hh
              obtain ⟨hC, hf, hi'⟩ := hh
              subst hC hf
              obtain ⟨v, rfl, rv⟩ := repX_one q
              refine ⟨true, ct _ _ hcat, fun _ a na => ?_, fun z => by cases z⟩
              have hlt : i < σ'.length := by rw [o.ok.len]; exact hi'
              refine ⟨.ref a, by rw [List.getElem?_set_self hlt], rfl, rfl, da, _, rfl, e, true, rfl, ?_⟩
              refine iteT ⟨.ref a, by rw [List.getElem?_set_self hlt], rfl, rfl, da, _, rfl, e, false, rfl, ?_⟩
              refine iteT ⟨.ref a, by rw [List.getElem?_set_self hlt], rfl, rfl, da, v, rfl, e, ?_⟩
              exact w v F' H' o.toStep rv
            · exact w.elim
          · exact w.elim
        · rename_i hcat
          exact ⟨false, ct _ _ hcat, fun z => (by cases z), fun _ => w σ' F' H' da vs o e q⟩
        · exact w.elim
    | err C fs st' => exact fun w => w.elim
    | stuck => exact fun w => w.elim
end
end FL

/-! FL31: a module's tuple from what the top has laid -/
namespace FL
open PySem PySem.Spec PyProof.Rows L2
theorem ktup_mk {K : PySem.W.Frag} {h : Heap} {mg : Str → Option Value} (X : K.In h) (G : h.Ns mainGlobals mg) {x : Str} {ns : List Int} {a : Addr} {o : Obj} {its : Array Value} {n : Nat} (h1 : PySem.W.nsIn K mainGlobals x = some (some (.ref a))) (h2 : K.lookup a = some o) (h3 : o.cls = .type "tuple") (h4 : o.data = .seq its n) (h5 : its.size ≤ sizeLine) (h6 : Vals (ns.map V.int) its.toList) (h7 : o.dict = none) : KTup K mg x ns :=
  ⟨a, o, its, n, PySem.W.mg_of X G h1, h2, h7, h3, h4, h5, h6⟩
section
variable {X : Cx} {k : Kx}
def gIn_ (neg : Bool) : M2 := fun d e st => match asL e with
  | some xs => if d.plain && D.plains xs && SeqAt.shaped d.py && SeqAt.shaped (.list (D.pys xs)) then .ok (.bl (neg != (D.pys xs).any fun z => PyData.eqv z d.py)) st else .stuck
  | none => .stuck
abbrev gIn : M2 := gIn_ false
abbrev gNotIn : M2 := gIn_ true
theorem asL_py {d : D} {xs : List D} (e : asL d = some xs) : d.py = .list (D.pys xs) ∧ d.plain = D.plains xs := by
  unfold asL at e
  split at e
  · cases e; exact ⟨by rw [D.py], by rw [D.plain]⟩
  · cases e; exact ⟨by rw [D.py], by rw [D.plain]⟩
  · cases e
theorem s_in (hu : X.A.units + 80 < cLine) (hk : k.K = X.K := by rfl) : OpS X k (compareOp .In) gIn :=
  ⟨_, op_inD (Nat.lt_of_le_of_lt (Nat.add_le_add_left (by decide) _) hu), fun {E σ F H Γ st x y d e Q} ok rx ry w => by
    unfold gIn gIn_ at w
    split at w
    · rename_i xs ex
      obtain ⟨e1, e2⟩ := asL_py ex
      split at w
      · rename_i hc
        simp only [Bool.and_eq_true] at hc
        obtain ⟨⟨⟨p1, p2⟩, p3⟩, p4⟩ := hc
        exact ⟨_, _, hk ▸ rx.dp ok.sub ok.bsub p1, e1 ▸ hk ▸ ry.dp ok.sub ok.bsub (by rw [e2]; exact p2), p3, p4, by simpa using w F H ok.refl _ (.bl _)⟩
      · exact w.elim
    · exact w.elim⟩
theorem s_notin (hu : X.A.units + 80 < cLine) (hk : k.K = X.K := by rfl) : OpS X k (compareOp .NotIn) gNotIn :=
  ⟨_, op_notInD (Nat.lt_of_le_of_lt (Nat.add_le_add_left (by decide) _) hu), fun {E σ F H Γ st x y d e Q} ok rx ry w => by
    unfold gNotIn gIn_ at w
    split at w
    · rename_i xs ex
      obtain ⟨e1, e2⟩ := asL_py ex
      split at w
      · rename_i hc
        simp only [Bool.and_eq_true] at hc
        obtain ⟨⟨⟨p1, p2⟩, p3⟩, p4⟩ := hc
        exact ⟨_, _, hk ▸ rx.dp ok.sub ok.bsub p1, e1 ▸ hk ▸ ry.dp ok.sub ok.bsub (by rw [e2]; exact p2), p3, p4, by simpa using w F H ok.refl _ (.bl _)⟩
      · exact w.elim
    · exact w.elim⟩
end
end FL

/-! FL32: data with wide ints: repr, == -/
namespace FL
open PySem L2
theorem wide10 : (2 : Nat) ^ 1900 < 10 ^ 600 := by decide +kernel
theorem shown_wide {i : Int} (h : i.natAbs < 2 ^ 1900) : (PyData.shown (.int i)).length ≤ 601 := by
  have e := int_text_length_le10 (k := 600) (by decide) (Nat.lt_trans h wide10)
  show (Str.ofString (toString i)).length ≤ 601
  rw [ofString_length]
  exact e
theorem wid_fits {d : PyData} (h : d.leavesShort 601 = true) (hw : d.weight ≤ 2 ^ 14) : d.shown.length ≤ sizeLine := by
  have h := PyData.shown_le 601 (by decide) d h
  have h2 : (601 + 2) * d.weight ≤ 603 * 16384 := Nat.mul_le_mul (by omega) (by omega)
  rw [sizeLine_eq]
  omega
inductive Wid : Nat → Nat → D → Prop
  | non {d w : Nat} : Wid d w .non
  | bl {d w : Nat} {b : Bool} : Wid d w (.bl b)
  | int {d w : Nat} {i : Int} (h : i.natAbs < 2 ^ 1900) (hw : 1900 ≤ w) : Wid d w (.int i)
  | str {d w : Nat} {x : Str} (h : PyData.strOk x = true) (hw : x.cps.size ≤ w) : Wid d w (.str x)
  | tup {d w v : Nat} {xs : List D} (h : ∀ x ∈ xs, Wid d v x) (hw : xs.length * (v + 1) ≤ w) : Wid (d + 1) w (.tup xs)
  | lst {d w v : Nat} {xs : List D} (h : ∀ x ∈ xs, Wid d v x) (hw : xs.length * (v + 1) ≤ w) : Wid (d + 1) w (.lst xs)
  | bor {d w v : Nat} {xs : List D} (h : ∀ x ∈ xs, Wid d v x) (hw : xs.length * (v + 1) ≤ w) : Wid (d + 1) w (.bor xs)
/-- what it gives -/
structure WidF (d w : Nat) (x : D) : Prop where
  plain : x.plain = true
  lay : x.py.canLay0 = true
  depth : x.py.depth ≤ d
  show_ : x.py.showable = true
  noDict : x.py.hasDict = false
  short : x.py.leavesShort 601 = true
  weight : x.py.weight ≤ w
structure WidL (d v n : Nat) (xs : List D) : Prop where
  plain : D.plains xs = true
  lay : PyData.canLayAll0 (D.pys xs) = true
  depth : PyData.depthAll (D.pys xs) ≤ d
  show_ : PyData.showableAll (D.pys xs) = true
  noDict : PyData.hasDictAll (D.pys xs) = false
  short : PyData.leavesShortAll 601 (D.pys xs) = true
  weight : PyData.weightAll (D.pys xs) ≤ xs.length * (v + 1)
theorem widL {d v : Nat} : ∀ {xs : List D}, (∀ x ∈ xs, WidF d v x) → WidL d v xs.length xs
  | [], _ => ⟨by simp [D.plains], by simp [D.pys, PyData.canLayAll0], by simp [D.pys, PyData.depthAll], by simp [D.pys, PyData.showableAll], by simp [D.pys, PyData.hasDictAll], by simp [D.pys, PyData.leavesShortAll], by simp [D.pys, PyData.weightAll]⟩
  | x :: xs, h => by
    have a := h x List.mem_cons_self
    have b := widL (xs := xs) fun y hy => h y (List.mem_cons_of_mem _ hy)
    refine ⟨?_, ?_, ?_, ?_, ?_, ?_, ?_⟩
    · rw [D.plains, a.plain, b.plain]; rfl
    · rw [D.pys, PyData.canLayAll0, a.lay, b.lay]; rfl
    · rw [D.pys, PyData.depthAll]; exact Nat.max_le.mpr ⟨a.depth, b.depth⟩
    · rw [D.pys, PyData.showableAll, a.show_, b.show_]; rfl
    · rw [D.pys, PyData.hasDictAll, a.noDict, b.noDict]; rfl
    · rw [D.pys, PyData.leavesShortAll, a.short, b.short]; rfl
    · rw [D.pys, PyData.weightAll, List.length_cons, Nat.succ_mul]
      have := a.weight
      have := b.weight
      omega
theorem Wid.facts {d w : Nat} {x : D} (h : Wid d w x) : WidF d w x := by
  induction h with
  | non => exact ⟨by simp [D.plain], by simp [D.py, PyData.canLay0], by simp [D.py, PyData.depth], by simp [D.py, PyData.showable], by simp [D.py, PyData.hasDict], by simp [D.py, PyData.leavesShort], by simp [D.py, PyData.weight]⟩
  | bl => exact ⟨by simp [D.plain], by simp [D.py, PyData.canLay0], by simp [D.py, PyData.depth], by simp [D.py, PyData.showable], by simp [D.py, PyData.hasDict], by simp [D.py, PyData.leavesShort], by simp [D.py, PyData.weight]⟩
  | @int d w i h hw =>
    have lg : i.natAbs.log2 < 1900 := PySem.Flt.log2_lt_of (by decide) h
    refine ⟨by simp [D.plain], by simp [D.py, PyData.canLay0], by simp [D.py, PyData.depth], ?_, by simp [D.py, PyData.hasDict], ?_, ?_⟩
    · rw [D.py, PyData.showable]; exact decide_eq_true (by omega)
    · rw [D.py, PyData.leavesShort]; exact decide_eq_true (shown_wide h)
    · rw [D.py, PyData.weight]
      split
      · omega
      · omega
  | @str d w x h hw =>
    refine ⟨by simp [D.plain], by rw [D.py, PyData.canLay0]; exact h, by simp [D.py, PyData.depth], by simp [D.py, PyData.showable], by simp [D.py, PyData.hasDict], ?_, by rw [D.py, PyData.weight]; exact hw⟩
    rw [D.py, PyData.leavesShort, List.all_eq_true]
    intro c hc
    have q := (Array.all_eq_true_iff_forall_mem.mp (show x.cps.all (· < 0x110000) = true from h)) c (Array.mem_toList_iff.mp hc)
    have q : c < 0x110000 := by simpa using q
    have e : (16 : Nat) ^ 8 = 4294967296 := by decide
    have e2 : (16 : Nat) ^ 8 ≤ 16 ^ (601 - 5) := Nat.pow_le_pow_right (by decide) (by decide)
    exact decide_eq_true (by omega)
  | tup h hw ih =>
    have b := widL ih
    refine ⟨by rw [D.plain]; exact b.plain, by rw [D.py, PyData.canLay0]; exact b.lay, by rw [D.py, PyData.depth]; exact Nat.succ_le_succ b.depth, by rw [D.py, PyData.showable]; exact b.show_, by rw [D.py, PyData.hasDict]; exact b.noDict, by rw [D.py, PyData.leavesShort]; exact b.short, by rw [D.py, PyData.weight]; exact Nat.le_trans b.weight hw⟩
  | lst h hw ih =>
    have b := widL ih
    refine ⟨by rw [D.plain]; exact b.plain, by rw [D.py, PyData.canLay0]; exact b.lay, by rw [D.py, PyData.depth]; exact Nat.succ_le_succ b.depth, by rw [D.py, PyData.showable]; exact b.show_, by rw [D.py, PyData.hasDict]; exact b.noDict, by rw [D.py, PyData.leavesShort]; exact b.short, by rw [D.py, PyData.weight]; exact Nat.le_trans b.weight hw⟩
  | bor h hw ih =>
    have b := widL ih
    refine ⟨by rw [D.plain]; exact b.plain, by rw [D.py, PyData.canLay0]; exact b.lay, by rw [D.py, PyData.depth]; exact Nat.succ_le_succ b.depth, by rw [D.py, PyData.showable]; exact b.show_, by rw [D.py, PyData.hasDict]; exact b.noDict, by rw [D.py, PyData.leavesShort]; exact b.short, by rw [D.py, PyData.weight]; exact Nat.le_trans b.weight hw⟩
theorem Wid.repr {d w : Nat} {x : D} (h : Wid d w x) (hd : d ≤ 60) (hw : w ≤ 2 ^ 14) : reprOk x = true := by
  have f := h.facts
  unfold reprOk
  simp only [f.plain, f.show_, f.noDict, Bool.not_false, Bool.and_true, Bool.true_and, Bool.and_eq_true, decide_eq_true_eq]
  exact ⟨Nat.le_trans f.depth hd, wid_fits f.short (Nat.le_trans f.weight hw)⟩
theorem Wid.eqOk {d w d' w' : Nat} {x y : D} (h : Wid d w x) (h' : Wid d' w' y) (hd : d ≤ 60) (hd' : d' ≤ 60) : eqOk x y = true := by
  have f := h.facts
  have f' := h'.facts
  have s : SeqAt.shaped x.py = true := by
    unfold SeqAt.shaped
    rw [f.lay, decide_eq_true (Nat.le_trans f.depth (by omega))]; rfl
  have s' : SeqAt.shaped y.py = true := by
    unfold SeqAt.shaped
    rw [f'.lay, decide_eq_true (Nat.le_trans f'.depth (by omega))]; rfl
  unfold FL.eqOk
  rw [f.plain, f'.plain, s, s']
  simp
theorem Wid.mono {d w d' w' : Nat} {x : D} (h : Wid d w x) (hd : d ≤ d') (hw : w ≤ w') : Wid d' w' x := by
  induction h generalizing d' w' with
  | non => exact .non
  | bl => exact .bl
  | int h h2 => exact .int h (Nat.le_trans h2 hw)
  | str h h2 => exact .str h (Nat.le_trans h2 hw)
  | tup h h2 ih =>
    obtain ⟨e, rfl⟩ : ∃ e, d' = e + 1 := ⟨d' - 1, by omega⟩
    exact .tup (fun x hx => ih x hx (by omega) (Nat.le_refl _)) (Nat.le_trans h2 hw)
  | lst h h2 ih =>
    obtain ⟨e, rfl⟩ : ∃ e, d' = e + 1 := ⟨d' - 1, by omega⟩
    exact .lst (fun x hx => ih x hx (by omega) (Nat.le_refl _)) (Nat.le_trans h2 hw)
  | bor h h2 ih =>
    obtain ⟨e, rfl⟩ : ∃ e, d' = e + 1 := ⟨d' - 1, by omega⟩
    exact .bor (fun x hx => ih x hx (by omega) (Nat.le_refl _)) (Nat.le_trans h2 hw)
end FL

/-! FL33: classes whose __init__ stores its parameters -/
namespace FL
open PySem PySem.Spec PyProof.Rows L2
def sInit (C : Addr) (i : Nat) (f : Str) : TS := fun D σ H => ∃ (x dx : Addr) (fs : List (Str × V)) (v : V), σ[0]? = some (some (.ref x)) ∧ σ[i]? = some (some v) ∧ H x = some (.ins C dx fs) ∧ fs.length < 1000 ∧ D.nx σ (upd H x (.ins C dx (putF f v fs)))
def tInit (C : Addr) : List Str → Nat → TS
  | [], _ => tNext
  | f :: r, i => tSeq (sInit C i f) (tInit C r (i + 1))
section
variable {X : Cx} {C : Addr}
theorem ps_init (i : Nat) {f n p : Str} {p1 p2 p3 pos : Pos} (c : Cls X.K C) (no : NoAttr X.K C f) (h0 : X.N[0]? = some n := by rfl) (hi : X.N[i]? = some p := by rfl) (v0 : Vis X.env.scope n := by first | exact Or.inl rfl | exact Or.inr (Or.inl rfl) | exact Or.inr (Or.inr rfl)) (vi : Vis X.env.scope p := by first | exact Or.inl rfl | exact Or.inr (Or.inl rfl) | exact Or.inr (Or.inr rfl))
    (d0 : (n == ("__debug__" : Str)) = false := by decide) (c0 : (n == ("__classdict__" : Str)) = false := by decide) (di : (p == ("__debug__" : Str)) = false := by decide) (ci : (p == ("__classdict__" : Str)) = false := by decide)
    (hs : swapsWith (.Name p p3) (some (.Attribute (.Name n p1) f p2)) pos.line X.env = pure false := by rfl) : PS X (.Assign [.Attribute (.Name n p1) f p2] (.Name p p3) pos) (sInit C i f) :=
  PS.weak (ps_fld (pv 0 h0 v0 d0 c0) (pv i hi vi di ci) hs) fun D σ H ⟨x, dx, fs, v, e0, ei, hx, hl, q⟩ => ⟨v, ei, .ref x, e0, x, C, dx, fs, rfl, hx, c, no, hl, q⟩
end
theorem upd_self {H : Hp} {x : Addr} {ob : HO} (h : H x = some ob) : upd H x ob = H := by
  funext y
  by_cases e : y = x
  · subst e; rw [upd_same, h]
  · rw [upd_ne e]
theorem putF_new {f : Str} {v : V} : ∀ {fs : List (Str × V)}, f ∉ fs.map (·.1) → putF f v fs = fs ++ [(f, v)]
  | [], _ => rfl
  | (g, x) :: r, h => by
    rw [List.map_cons, List.mem_cons, not_or] at h
    rw [putF, if_neg (fun e => h.1 e.symm), putF_new h.2, List.cons_append]
theorem tInit_ok {C x dx : Addr} {σ : L2.St} {D : Ends} (h0 : σ[0]? = some (some (.ref x))) : ∀ {ks : List Str} {i : Nat} {fs : List (Str × V)} {H : Hp} {ws : List V}, (∀ (j : Nat) v, ws[j]? = some v → σ[i + j]? = some (some v)) → ws.length = ks.length → H x = some (.ins C dx fs) → (∀ k ∈ ks, k ∉ fs.map (·.1)) → ks.Nodup → fs.length + ks.length ≤ 900 → D.nx σ (upd H x (.ins C dx (fs ++ ks.zip ws))) → tInit C ks i D σ H
  | [], i, fs, H, ws, hv, hl, hx, hn, nd, hz, q => by
    have q : D.nx σ (upd H x (.ins C dx (fs ++ []))) := by simpa using q
    rw [List.append_nil, upd_self hx] at q
    exact q
  | f :: r, i, fs, H, w :: ws, hv, hl, hx, hn, nd, hz, q => by
    have hf := hn f List.mem_cons_self
    rw [List.length_cons] at hz
    refine ⟨x, dx, fs, w, h0, hv 0 w rfl, hx, by omega, ?_⟩
    rw [putF_new hf]
    refine tInit_ok h0 (ws := ws) (fun j v e => by rw [Nat.add_assoc, Nat.add_comm 1 j]; exact hv (j + 1) v (by simpa using e)) (by simpa using hl) upd_same (fun k hk hm => ?_) (List.nodup_cons.mp nd).2 (by rw [List.length_append, List.length_singleton]; omega) ?_
    · rw [List.map_append, List.mem_append] at hm
      rcases hm with hm | hm
      · exact hn k (List.mem_cons_of_mem _ hk) hm
      · have e : k = f := by simpa using hm
        subst e
        exact (List.nodup_cons.mp nd).1 hk
    · rw [upd_upd, List.append_assoc]
      exact q
  | _ :: _, _, _, _, [], _, hl, _, _, _, _, _ => by simp at hl
/-- what the top has laid of such a class's __init__ -/
structure MTxt (K : PySem.W.Frag) (C : Addr) (ks : List Str) (qual : Str) (st : Stmt) : Prop where
  ex : ∃ f fd, Mk K C f ∧ C8.Fun K "__init__" qual st f fd ∧ L2.Binds K fd ("self" :: ks) []
section
variable {P : Program} {w : World} {K : PySem.W.Frag} {mg : Str → Option Value} {base : Heap} {C : Addr} {x qual : Str} {ks : List Str} {st : Stmt}
theorem mak_of (T : CTxt K mg x C ks) (M : MTxt K C ks qual st) (S : FnScope ("self" :: ks) ("self" :: ks) (C8.fnScope st)) (nd : ks.Nodup) (hz : ks.length ≤ 900)
    (hb : ∀ (f : Addr) (cdv : Value) (A : Around) (outer : List Env) (s : Shared) (H : Hp) (E : XK), PSs (cxOf CX0 P w K mg base ("self" :: ks) qual (C8.fnScope st) f cdv A outer s H E).nox (C8.fnBody st) (tInit C ks 1)) : C8.Mak P w K mg base 1 x C (spI C ks) [] := by
  obtain ⟨f, fd, m, F, b⟩ := M.ex
  refine C8.mak0 m T.mgC F b .nil S (fun vs H Q E ⟨a, dx, ws, e, l, _⟩ => by rw [e, List.length_cons, l, List.length_cons]) fun cdv A outer s H vs Q E hr ⟨a, dx, ws, e, l, hx, q⟩ => ⟨_, hb f cdv A outer s H E, ?_⟩
  subst e
  refine tInit_ok (x := a) (dx := dx) (fs := []) (ws := ws) rfl (fun j v e => ?_) l hx (fun _ _ h => by cases h) nd (by simpa using hz) q
  have hj : j < ws.length := (List.getElem?_eq_some_iff.mp e).1
  show ((.ref a :: ws).map some ++ _)[1 + j]? = _
  rw [List.getElem?_append_left (by rw [List.length_map, List.length_cons]; omega), List.getElem?_map, Nat.add_comm, List.getElem?_cons_succ, e]
  rfl
def NoAll (K : PySem.W.Frag) (C : Addr) : List Str → Prop
  | [] => True
  | f :: r => PySem.W.findIn K (.ref C) f = some none ∧ NoAll K C r
theorem NoAll.no : ∀ {ks : List Str}, NoAll K C ks → ∀ f ∈ ks, NoAttr K C f
  | _ :: _, h, f, hf => by
    rcases List.mem_cons.mp hf with rfl | hf
    · exact h.1
    · exact NoAll.no h.2 f hf
def KitAll (K : PySem.W.Frag) (C : Addr) : List String → Prop
  | [] => True
  | T :: r => PySem.W.kitOne K (.type T) (.ref C) = some false ∧ KitAll K C r
theorem KitAll.no : ∀ {ks : List String}, KitAll K C ks → ∀ T ∈ ks, PySem.W.kitOne K (.type T) (.ref C) = some false
  | _ :: _, h, f, hf => by
    rcases List.mem_cons.mp hf with rfl | hf
    · exact h.1
    · exact KitAll.no h.2 f hf
theorem ctxt_mk {h : Heap} (X : K.In h) (G : h.Ns mainGlobals mg) (a1 : PySem.W.nsIn K mainGlobals x = some (some (.ref C))) (pg : PySem.W.plainGet K C Str.empty = true) (hd : PySem.W.hasDictIn K C = true) (po : PySem.W.plainOver K C = true) (sa : PySem.W.findIn K (.ref C) "__setattr__" = some (some (.builtin "object.__setattr__")))
    (no : NoAll K C ks) (ha : PySem.W.findIn K (.ref C) "__class__" = some (some (.builtin "object.__class__"))) (hn : PySem.W.specialIn K (.builtin "object.__class__") "__get__" = some (some (.builtin "getset_descriptor.__get__"))) (htk : PySem.W.takesIn K (.builtin "object.__class__") = some true) (hm : PySem.W.mroIn K C (.type "object") = some true)
    (kit : KitAll K C ["NoneType", "bool", "int", "str", "tuple", "list", "dict"]) : CTxt K mg x C ks := ⟨⟨pg, hd, po, sa⟩, no.no, PySem.W.mg_of X G a1, ha, hn, htk, hm, kit.no⟩
theorem mtxt_mk {f : Addr} {oc : Value} {od an : Option Addr} {osl : Array (Option Value)} {kV doc pm cdv ct : Value} (m1 : PySem.W.makesIn K C = true) (m2 : PySem.W.findIn K (.ref C) "__init__" = some (some (.ref f))) (m3 : PySem.W.isFn K (.ref f) = true) (m4 : PySem.W.keepIn K (.ref C) = true)
    (l : K.lookup f = some ⟨oc, od, .func (PySem.W.fnOf "__init__" qual (C8.fnArgs st) (C8.fnBody st) (C8.fnScope st) .none kV doc pm an cdv ct), osl⟩) (c : PySem.W.codeIn K cdv qual = true) (b : ∀ us : List Value, us.length = (("self" : Str) :: ks).length → bindArgs (PySem.W.fnOf "__init__" qual (C8.fnArgs st) (C8.fnBody st) (C8.fnScope st) .none kV doc pm an cdv ct) ⟨us, []⟩ = pure ((("self" : Str) :: ks).zip us)) : MTxt K C ks qual st :=
  ⟨f, _, ⟨m1, m2, m3, m4⟩, ⟨oc, od, .none, kV, doc, pm, an, cdv, ct, osl, rfl, l, c⟩, .all b⟩
theorem noall_nil : NoAll K C [] := trivial
theorem noall_cons {f : Str} (h : PySem.W.findIn K (.ref C) f = some none) (t : NoAll K C ks) : NoAll K C (f :: ks) := ⟨h, t⟩
theorem kit_nil : KitAll K C [] := trivial
theorem kit_cons {T : String} {r : List String} (h : PySem.W.kitOne K (.type T) (.ref C) = some false) (t : KitAll K C r) : KitAll K C (T :: r) := ⟨h, t⟩
end
section
variable {K : PySem.W.Frag} {f : Str} {C : Addr} {cs : List Addr}
theorem cs_nil : ∀ C ∈ ([] : List Addr), Cls K C ∧ NoAttr K C f := fun C h => by cases h
theorem cs_cons (h : Cls K C ∧ NoAttr K C f) (t : ∀ C ∈ cs, Cls K C ∧ NoAttr K C f) : ∀ D ∈ C :: cs, Cls K D ∧ NoAttr K D f := fun D hD => by
  rcases List.mem_cons.mp hD with rfl | hD
  · exact h
  · exact t D hD
theorem CTxt.fl {mg : Str → Option Value} {x : Str} {ks : List Str} (T : CTxt K mg x C ks) (h : f ∈ ks) : Cls K C ∧ NoAttr K C f := ⟨T.cl, T.no f h⟩
end
end FL

/-! FL34: dicts that a frame alone has -/
namespace FL
open PySem PySem.Spec PyProof.Rows L2
abbrev KD := List (Key × D)
def keyD : D → Option Key
  | .int i => some (.inl i)
  | .str x => some (.inr x)
  | _ => none
def valD (kv : KD) (k : Key) : Option D := (kv.find? fun p => decide (p.1 = k)).map (·.2)
def putD (kv : KD) (k : Key) (d : D) : KD := if (kv.any fun p => decide (p.1 = k)) = true then kv.map (fun p => if p.1 = k then (p.1, d) else p) else kv ++ [(k, d)]
/-- the heap's dict and ours -/
def RepK (k : Kx) (F : Hp) (kvs : List (Key × V)) (kv : KD) : Prop := kvs.map (·.1) = kv.map (·.1) ∧ Reps k F (kvs.map (·.2)) (kv.map (·.2))
section
variable {k : Kx} {F F' H : Hp}
theorem keyD_rep {v : V} {d : D} {y : Key} (r : Rep k F v d) (h : keyD d = some y) : v = kV y := by
  cases r <;> first | (cases h; rfl) | cases h
theorem kD_rep (y : Key) : Rep k F (kV y) (kD y) := by cases y with | inl i => exact .int i | inr x => exact .str x
theorem RepK.nil : RepK k F [] [] := ⟨rfl, .nil⟩
theorem RepK.len {kvs : List (Key × V)} {kv : KD} (r : RepK k F kvs kv) : kvs.length = kv.length := by
  have := congrArg List.length r.1
  simpa using this
theorem RepK.mono (s : Same F F') {kvs : List (Key × V)} {kv : KD} (r : RepK k F kvs kv) : RepK k F' kvs kv := ⟨r.1, r.2.mono s⟩
theorem RepK.cons_inv {p : Key × V} {kvs : List (Key × V)} {kv : KD} (r : RepK k F (p :: kvs) kv) : ∃ d kv', kv = (p.1, d) :: kv' ∧ Rep k F p.2 d ∧ RepK k F kvs kv' := by
  obtain ⟨e, r⟩ := r
  match kv, e, r with
  | (k', d) :: kv', e, .cons h t =>
    rw [List.map_cons, List.map_cons] at e
    injection e with e1 e2
    exact ⟨d, kv', by rw [e1], h, e2, t⟩
  | [], e, _ => cases e
theorem RepK.cons {p : Key × V} {d : D} {kvs : List (Key × V)} {kv : KD} (h : Rep k F p.2 d) (t : RepK k F kvs kv) : RepK k F (p :: kvs) ((p.1, d) :: kv) := ⟨by rw [List.map_cons, List.map_cons, t.1], .cons h t.2⟩
theorem RepK.append {kvs kws : List (Key × V)} {kv kw : KD} (h : RepK k F kvs kv) (t : RepK k F kws kw) : RepK k F (kvs ++ kws) (kv ++ kw) := ⟨by rw [List.map_append, List.map_append, h.1, t.1], by rw [List.map_append, List.map_append]; exact h.2.append t.2⟩
theorem RepK.any {y : Key} : ∀ {kvs : List (Key × V)} {kv : KD}, RepK k F kvs kv → (kvs.any fun p => decide (p.1 = y)) = (kv.any fun p => decide (p.1 = y))
  | [], [], _ => rfl
  | p :: kvs, kv, r => by
    obtain ⟨d, kv', rfl, h, t⟩ := r.cons_inv
    rw [List.any_cons, List.any_cons, RepK.any t]
  | [], _ :: _, r => by cases r.1
theorem RepK.val {y : Key} : ∀ {kvs : List (Key × V)} {kv : KD} {d : D}, RepK k F kvs kv → valD kv y = some d → ∃ v, valV kvs y = some v ∧ Rep k F v d
  | [], [], _, _, h => by cases h
  | p :: kvs, kv, d, r, h => by
    obtain ⟨d', kv', rfl, hh, t⟩ := r.cons_inv
    by_cases e : p.1 = y
    · rw [valV_pos e]
      unfold valD at h
      rw [List.find?_cons, decide_eq_true e] at h
      cases h
      exact ⟨_, rfl, hh⟩
    · rw [valV_neg e]
      unfold valD at h
      rw [List.find?_cons, decide_eq_false e] at h
      exact RepK.val t h
  | [], _ :: _, _, r, _ => by cases r.1
theorem RepK.val0 {y : Key} {kvs : List (Key × V)} {kv : KD} (r : RepK k F kvs kv) : (valV kvs y).isSome = (valD kv y).isSome := by
  have e := r.any (y := y)
  rw [valV_any] at e
  rw [e]
  unfold valD
  rw [Option.isSome_map, List.isSome_find?]
theorem RepK.repl {y : Key} {v : V} {d : D} (hv : Rep k F v d) : ∀ {kvs : List (Key × V)} {kv : KD}, RepK k F kvs kv → RepK k F (kvs.map fun p => if p.1 = y then (p.1, v) else p) (kv.map fun p => if p.1 = y then (p.1, d) else p)
  | [], [], _ => .nil
  | p :: kvs, kv, r => by
    obtain ⟨d', kv', rfl, h, t⟩ := r.cons_inv
    rw [List.map_cons, List.map_cons]
    by_cases e : p.1 = y
    · rw [if_pos e, if_pos (show ((p.1, d').1 = y) from e)]
      exact RepK.cons (p := (p.1, v)) hv (RepK.repl hv t)
    · rw [if_neg e, if_neg (show ¬ ((p.1, d').1 = y) from e)]
      exact RepK.cons h (RepK.repl hv t)
  | [], _ :: _, r => by cases r.1
theorem RepK.put {y : Key} {v : V} {d : D} (hv : Rep k F v d) {kvs : List (Key × V)} {kv : KD} (r : RepK k F kvs kv) : RepK k F (putK kvs y v) (putD kv y d) := by
  unfold putK putD
  rw [r.any]
  split
  · exact r.repl hv
  · exact r.append (RepK.cons (p := (y, v)) hv .nil)
theorem RepK.own {kvs : List (Key × V)} {kv : KD} (r : RepK k F kvs kv) : RepO k F (.dK kvs) (.dk kv) := ⟨kvs, rfl, r.1, r.2⟩
end
def gOwnD (i : Nat) (Γ : Ev) : Option KD := match Γ[i]? with
  | some (some (.own (.dk kv))) => some kv
  | _ => none
theorem gOwnD_use {i : Nat} {Γ : Ev} {kv : KD} (h : gOwnD i Γ = some kv) : Γ[i]? = some (some (.own (.dk kv))) := by
  unfold gOwnD at h
  split at h
  · rename_i ys e
    cases h
    exact e
  · cases h
section
variable {X : Cx} {k : Kx} {E : XE} {e ie : Expr} {me mk : EM} {pos p p2 : Pos}
theorem own_dk {F H : Hp} {σ : L2.St} {Γ : Ev} {st : DS} (ok : Ok k F H σ Γ st) {i : Nat} {kv : KD} (h : gOwnD i Γ = some kv) : ∃ a kvs, σ[i]? = some (some (.ref a)) ∧ H a = some (.dK kvs) ∧ RepK k F kvs kv := by
  obtain ⟨v, e2, a, _, rfl, ha, fa, n1, n3, kvs, rfl, r1, r2⟩ := ok.slot i _ (gOwnD_use h)
  exact ⟨a, kvs, e2, ha, r1, r2⟩
/-! ### read -/
def mDGet (i : Nat) (mk : EM) : EM := fun Γ => match gOwnD i Γ with
  | some kv => (do
    let y ← mk Γ
    match (keyD y).bind (valD kv) with
    | some d => pure d
    | none => halt)
  | none => halt
theorem e_dget (i : Nat) {x : Str} (hu : X.A.units + 80 < cLine) (hi : PE X ie (tM k E mk)) (hs : NoSl ie := by intro _ _; rfl) (hN : X.N[i]? = some x := by rfl) (hv : Vis X.env.scope x := by first | exact Or.inl rfl | exact Or.inr (Or.inl rfl) | exact Or.inr (Or.inr rfl)) (hd : (x == ("__debug__" : Str)) = false := by decide) (hcd : (x == ("__classdict__" : Str)) = false := by decide) :
    PE X (.Subscript (.Name x p) ie pos) (tM k E (mDGet i mk)) :=
  PE.weak (pe_dget (Nat.lt_of_le_of_lt (Nat.add_le_add_left (by decide) _) hu) (pv i hN hv hd hcd) hi hs) fun σ H Q ⟨F, Γ, st, ok, w⟩ => by
    unfold mDGet at w
    cases eg : gOwnD i Γ with
    | none => rw [eg] at w; exact w.elim
    | some kv =>
      rw [eg] at w
      obtain ⟨a, kvs, e2, ha, r⟩ := own_dk ok eg
      refine ⟨.ref a, e2, tM.then_ ok w fun y d F1 H1 st1 s1 ok1 r1 w1 => ?_⟩
      obtain ⟨a', kvs', e2', ha', r'⟩ := own_dk ok1 eg
      rw [e2] at e2'
      cases e2'
      cases ek : keyD d with
      | none => rw [ek] at w1; exact w1.elim
      | some z =>
        rw [ek] at w1
        have w1 : Wp k E σ F1 H1 ((match valD kv z with | some d => (pure d : M D) | none => halt) st1) (qD k Q) := w1
        cases ev : valD kv z with
        | none => rw [ev] at w1; exact w1.elim
        | some dd =>
          rw [ev] at w1
          obtain ⟨v, l, rv⟩ := r'.val ev
          have ey := keyD_rep r1 ek
          subst ey
          exact ⟨a, v, rfl, l ▸ DGet.k ha', w1 F1 H1 ok1.refl _ rv⟩
/-! ### is it there? -/
def mDIn (neg : Bool) (mk : EM) (i : Nat) : EM := fun Γ => do
  let y ← mk Γ
  match gOwnD i Γ, keyD y with
  | some kv, some z => pure (.bl (bif neg then !(valD kv z).isSome else (valD kv z).isSome))
  | _, _ => halt
theorem din_imp {σ : L2.St} {H : Hp} {Q : VK} {i : Nat} {neg : Bool} (h : tM k E (mDIn neg mk i) σ H Q) : tM k E mk σ H fun y H1 => tVar i σ H1 fun x H2 => ∃ a o, x = .ref a ∧ DGet H2 a y o ∧ Q (.bl (bif neg then !o.isSome else o.isSome)) H2 := by
  obtain ⟨F, Γ, st, ok, w⟩ := h
  refine tM.then_ ok w fun y d F1 H1 st1 s1 ok1 r1 w1 => ?_
  cases e1 : gOwnD i Γ with
  | none => rw [e1] at w1; exact w1.elim
  | some kv =>
    cases e2 : keyD d with
    | none => rw [e1, e2] at w1; exact w1.elim
    | some z =>
      rw [e1, e2] at w1
      obtain ⟨a, kvs, e3, ha, r⟩ := own_dk ok1 e1
      have ey := keyD_rep r1 e2
      subst ey
      refine ⟨.ref a, e3, a, _, rfl, DGet.k ha, ?_⟩
      rw [r.val0]
      exact w1 F1 H1 ok1.refl _ (.bl _)
theorem e_din (i : Nat) {x : Str} (hu : X.A.units + 80 < cLine) (hi : PE X ie (tM k E mk)) (hN : X.N[i]? = some x := by rfl) (hv : Vis X.env.scope x := by first | exact Or.inl rfl | exact Or.inr (Or.inl rfl) | exact Or.inr (Or.inr rfl)) (hd : (x == ("__debug__" : Str)) = false := by decide) (hcd : (x == ("__classdict__" : Str)) = false := by decide)
    (hb : behindInMarks .In (.Name x p) = false := by first | exact nobehind _ (by decide) (by decide) | rfl) : PE X (.Compare ie [.In] [.Name x p] pos) (tM k E (mDIn false mk i)) :=
  PE.weak (pe_cmp (pc_din (Nat.lt_of_le_of_lt (Nat.add_le_add_left (by decide) _) hu) hi (pv i hN hv hd hcd)) hb) fun σ H Q h => by
    exact din_imp h
theorem e_dnotin (i : Nat) {x : Str} (hu : X.A.units + 80 < cLine) (hi : PE X ie (tM k E mk)) (hN : X.N[i]? = some x := by rfl) (hv : Vis X.env.scope x := by first | exact Or.inl rfl | exact Or.inr (Or.inl rfl) | exact Or.inr (Or.inr rfl)) (hd : (x == ("__debug__" : Str)) = false := by decide) (hcd : (x == ("__classdict__" : Str)) = false := by decide)
    (hb : behindInMarks .NotIn (.Name x p) = false := by first | exact nobehind _ (by decide) (by decide) | rfl) : PE X (.Compare ie [.NotIn] [.Name x p] pos) (tM k E (mDIn true mk i)) :=
  PE.weak (pe_cmp (pc_dnotin (Nat.lt_of_le_of_lt (Nat.add_le_add_left (by decide) _) hu) hi (pv i hN hv hd hcd)) hb) fun σ H Q h => by
    exact din_imp h
/-! ### written -/
def mDPut (i : Nat) (me mk : EM) : SM := fun Γ => match gOwnD i Γ with
  | some kv => sE (me Γ) Γ fun d => sE (mk Γ) Γ fun y => match keyD y with
    | some z => if decide (kv.length < sizeLine) then pure (.nx (Γ.set i (some (.own (.dk (putD kv z d)))))) else halt
    | none => halt
  | none => halt
theorem s_dput (i : Nat) {x : Str} {px : Pos} (hu : X.A.units + 80 < cLine) (he : PE X e (tM k E me)) (hi : PE X ie (tM k E mk)) (hN : X.N[i]? = some x := by rfl) (hv : Vis X.env.scope x := by first | exact Or.inl rfl | exact Or.inr (Or.inl rfl) | exact Or.inr (Or.inr rfl)) (hd : (x == ("__debug__" : Str)) = false := by decide) (hcd : (x == ("__classdict__" : Str)) = false := by decide)
    (hs : swapsWith e (some (.Subscript (.Name x px) ie p2)) pos.line X.env = pure false := by rfl) : PS X (.Assign [.Subscript (.Name x px) ie p2] e pos) (tS k E (mDPut i me mk)) :=
  PS.weak (ps_dput (Nat.lt_of_le_of_lt (Nat.add_le_add_left (by decide) _) hu) (pv i hN hv hd hcd) hi he hs) fun D σ H ⟨G, H0, P, F, Γ, st, ok, w⟩ => by
    unfold mDPut at w
    cases eg : gOwnD i Γ with
    | none => rw [eg] at w; exact w.elim
    | some kv =>
      rw [eg] at w
      refine tM.inS ok w fun v d F1 H1 st1 s1 ok1 r1 w1 => ?_
      obtain ⟨a, kvs, e2, ha, r⟩ := own_dk ok1.ok eg
      refine ⟨.ref a, e2, tM.inS ok1 w1 fun y dy F2 H2 st2 s2 ok2 r2 w2 => ?_⟩
      obtain ⟨a', kvs', e2', ha', r'⟩ := own_dk ok2.ok eg
      rw [e2] at e2'
      cases e2'
      cases ek : keyD dy with
      | none => rw [ek] at w2; exact w2.elim
      | some z =>
        rw [ek] at w2
        have w2 : WpS k E G H0 P ((if decide (kv.length < sizeLine) then pure (.nx (Γ.set i (some (.own (.dk (putD kv z d)))))) else halt : M Fl) st2) D := w2
        split at w2
        · rename_i hz
          have ey := keyD_rep r2 ek
          subst ey
          refine ⟨a, _, rfl, DPut.k ha' (by rw [r'.len]; exact of_decide_eq_true hz), ?_⟩
          exact w2 σ F2 _ (ok2.mut (gOwnD_use eg) e2 (r'.put (r1.mono s2.ext)).own)
        · exact w2.elim
/-! ### made -/
def tOD (k : Kx) (E : XE) (m : Ev → M KD) : TE := fun σ H Q => ∃ F Γ st, Ok k F H σ Γ st ∧ Wp k E σ F H (m Γ st) fun kv F' H' _ => ∀ a kvs, H' a = some (.dK kvs) → F' a = none → H a = none → RepK k F' kvs kv → Q (.ref a) H'
def mSetD (i : Nat) (m : Ev → M KD) : SM := fun Γ => sE (m Γ) Γ fun kv => pure (.nx (Γ.set i (some (.own (.dk kv)))))
theorem s_setD {i : Nat} {x : Str} {pos' : Pos} {m : Ev → M KD} (hN : X.N.Nodup) (he : PE X e (tOD k E m)) (hi : X.N[i]? = some x := by rfl) (hx : Loc X.env.scope x := by first | exact Or.inl rfl | exact Or.inr rfl) (hs : swapsWith e (some (.Name x pos')) pos.line X.env = pure false := by rfl) (hf : X.fn x = true ∨ X.env.scope.names.lookup x = some .local := by first | exact .inl rfl | exact .inr rfl | assumption) :
    PS X (.Assign [.Name x pos'] e pos) (tS k E (mSetD i m)) := PS.weak (ps_set hN hi hx he hs hf) fun D σ H ⟨G, H0, P, F, Γ, st, ok, w⟩ => by
  refine ⟨F, Γ, st, ok.ok, (Wp.inS (o := m Γ st) ok w).mono fun kv F1 H1 st1 s w1 a kvs h1 f1 h0 r => ?_⟩
  exact w1 _ F1 H1 (ok.setO s i h0 h1 f1 r.own)
def mDNew : Ev → M KD := fun _ => pure []
theorem od_new : PE X (.Dict [] [] pos) (tOD k E mDNew) := PE.weak pe_dnewK fun σ H Q ⟨F, Γ, st, ok, w⟩ p np => by
  have s := ok.new' (ob := .dK []) np
  exact w F _ s p [] upd_same (ok.fnone np) np .nil
end
end FL

/-! FL35: several names at once, some with lists of their own; index in a tuple of texts; append(pop(i)) -/
namespace FL
open PySem PySem.Spec PyProof.Rows L2
section
variable {X : Cx} {k : Kx} {E : XE} {e ie : Expr} {me mk : EM} {pos p p2 : Pos}
/-! ### a, b = .., ..: what is stored -/
/-- a name's new state -/
inductive Got where
  | da (d : D)
  | ow (o : OD)
def Got.sl : Got → Sl
  | .da d => .dat d
  | .ow o => .own o
def gDa (m : EM) : Ev → M Got := fun Γ => do
  let d ← m Γ
  pure (.da d)
def gOw (m : Ev → M (List D)) : Ev → M Got := fun Γ => do
  let d ← m Γ
  pure (.ow (.ls d))
def gDi (m : Ev → M KD) : Ev → M Got := fun Γ => do
  let d ← m Γ
  pure (.ow (.dk d))
/-- an expression whose value goes to a name -/
inductive PX (X : Cx) (k : Kx) (E : XE) : Expr → (Ev → M Got) → Prop
  | da {e : Expr} {m : EM} (h : PE X e (tM k E m)) : PX X k E e (gDa m)
  | ow {e : Expr} {m : Ev → M (List D)} (h : PE X e (tO k E m)) : PX X k E e (gOw m)
  | di {e : Expr} {m : Ev → M KD} (h : PE X e (tOD k E m)) : PX X k E e (gDi m)
/-- the value of such an expression -/
def GotV (k : Kx) (F H H0 : Hp) (v : V) : Got → Prop
  | .da d => Rep k F v d
  | .ow o => ∃ a ob, v = .ref a ∧ H a = some ob ∧ F a = none ∧ H0 a = none ∧ RepO k F ob o
def tX (k : Kx) (E : XE) (m : Ev → M Got) : TE := fun σ H Q => ∃ F Γ st, Ok k F H σ Γ st ∧ Wp k E σ F H (m Γ st) fun g F' H' _ => ∀ v, GotV k F' H' H v g → Q v H'
theorem PX.pe {m : Ev → M Got} (h : PX X k E e m) : PE X e (tX k E m) := by
  cases h with
  | da h =>
    refine PE.weak h fun σ H Q ⟨F, Γ, st, ok, w⟩ => tM.then_ ok w fun v d F1 H1 st1 s1 ok1 r1 w1 => w1 F1 H1 ok1.refl v r1
  | ow h =>
    refine PE.weak h fun σ H Q ⟨F, Γ, st, ok, w⟩ => ⟨F, Γ, st, ok, (Wp.bind (f := fun d => (pure (.ow (.ls d)) : M Got)) ok w).mono fun xs F1 H1 st1 s1 w1 a vs h1 f1 h0 r => w1 F1 H1 (ok.step s1).refl (.ref a) ⟨a, _, rfl, h1, f1, h0, vs, rfl, r⟩⟩
  | di h =>
    refine PE.weak h fun σ H Q ⟨F, Γ, st, ok, w⟩ => ⟨F, Γ, st, ok, (Wp.bind (f := fun d => (pure (.ow (.dk d)) : M Got)) ok w).mono fun xs F1 H1 st1 s1 w1 a vs h1 f1 h0 r => w1 F1 H1 (ok.step s1).refl (.ref a) ⟨a, _, rfl, h1, f1, h0, r.own⟩⟩
theorem tX.inS {G H0 P F H : Hp} {σ : L2.St} {Γ : Ev} {st : DS} {D0 : Ends} {m : Ev → M Got} {f : Got → M Fl} {Q : VK} (ok : OkS k G H0 P F H σ Γ st) (w : WpS k E G H0 P (sE (m Γ) Γ f st) D0)
    (q : ∀ v g F1 H1 st1, Step k F H F1 H1 st1 → OkS k G H0 P F1 H1 σ Γ st1 → GotV k F1 H1 H v g → WpS k E G H0 P (f g st1) D0 → Q v H1) : tX k E m σ H Q :=
  ⟨F, Γ, st, ok.ok, (Wp.inS (o := m Γ st) ok w).mono fun g F1 H1 st1 s w1 v r => q v g F1 H1 st1 s (ok.step s) r w1⟩
section
variable {G H0 P F H F1 H1 F2 H2 : Hp} {σ σ' : L2.St} {Γ Γ' : Ev} {st st1 st2 : DS}
/-- slot i gets what was made since H -/
theorem OkS.got (o : OkS k G H0 P F1 H1 σ Γ st1) (o0 : Ok k F H σ' Γ' st) (hH : ∀ b : Addr, H b = none → H0 b = none) (i : Nat) {v : V} {g : Got} (h : GotV k F1 H1 H v g)
    (ap : ∀ (a : Addr) (j : Nat) (us : OD), H a = none → Γ[j]? = some (some (.own us)) → σ[j]? ≠ some (some (.ref a))) : OkS k G H0 P F1 H1 (σ.set i (some v)) (Γ.set i (some g.sl)) st1 := by
  cases g with
  | da d => exact o.upd (Upd.set (i := i) o.ok.len (show Rep k F1 v d from h))
  | ow x =>
    show OkS k G H0 P F1 H1 (σ.set i (some v)) (Γ.set i (some (.own x))) st1
    obtain ⟨a, ob, rfl, h1, f1, h0, r⟩ := h
    have nd : ¬ k.hot a := o0.cold h0
    have nb : k.B a = none := o0.bnone h0
    have at_i : ∀ (j : Nat) y, (Γ.set i (some (.own x)))[j]? = some (some y) → (j = i ∧ y = .own x ∧ (σ.set i (some (.ref a)))[j]? = some (some (.ref a))) ∨ (j ≠ i ∧ Γ[j]? = some (some y) ∧ (σ.set i (some (.ref a)))[j]? = σ[j]?) := by
      intro j y e
      by_cases hj : i = j
      · subst hj
        by_cases hl : i < Γ.length
        · rw [List.getElem?_set_self hl] at e
          cases e
          exact .inl ⟨rfl, rfl, List.getElem?_set_self (o.ok.len ▸ hl)⟩
        · rw [List.getElem?_eq_none (by simp; omega)] at e
          cases e
      · rw [List.getElem?_set_ne hj] at e
        exact .inr ⟨fun z => hj z.symm, e, List.getElem?_set_ne hj⟩
    refine ⟨⟨o.ok.sub, o.ok.at_, o.ok.hid, o.ok.bsub, o.ok.blst, o.ok.tabs, o.ok.ftbl, by simp [o.ok.len], fun j y e => ?_, fun j l ys zs b e1 e2 e3 e4 => ?_⟩, o.per, o.ext0, o.stay0, o.kept0, o.nof0, fun j ys b e1 e2 => ?_, o.base⟩
    · rcases at_i j y e with ⟨_, rfl, e2⟩ | ⟨_, e2, e3⟩
      · exact ⟨_, e2, a, ob, rfl, h1, f1, nd, nb, r⟩
      · rw [e3]
        exact o.ok.slot j y e2
    · rcases at_i j _ e1 with ⟨rfl, _, f2⟩ | ⟨n1, f1', f2⟩
      · rcases at_i l _ e2 with ⟨rfl, _, _⟩ | ⟨n2, g1, g2⟩
        · rfl
        · rw [f2] at e3
          cases e3
          rw [g2] at e4
          exact absurd e4 (ap a l _ h0 g1)
      · rcases at_i l _ e2 with ⟨rfl, _, g2⟩ | ⟨n2, g1, g2⟩
        · rw [g2] at e4
          cases e4
          rw [f2] at e3
          exact absurd e3 (ap a j _ h0 f1')
        · rw [f2] at e3
          rw [g2] at e4
          exact o.ok.apart j l ys zs b f1' g1 e3 e4
    · rcases at_i j _ e1 with ⟨rfl, _, f2⟩ | ⟨n1, f1', f2⟩
      · rw [f2] at e2
        cases e2
        exact hH _ h0
      · rw [f2] at e2
        exact o.own0 j ys b f1' e2
/-- an own object stands -/
theorem OkS.stands (o : OkS k G H0 P F H σ Γ st) {j : Nat} {us : OD} {a : Addr} (h : Γ[j]? = some (some (.own us))) (e : σ[j]? = some (some (.ref a))) : ∃ ob, H a = some ob := by
  obtain ⟨v, e2, b, ob, rfl, hb, _⟩ := o.ok.slot j _ h
  rw [e] at e2
  cases e2
  exact ⟨ob, hb⟩
end
def mParX (i j : Nat) (ma mb : Ev → M Got) : SM := fun Γ => sE (ma Γ) Γ fun g => sE (mb Γ) Γ fun h => pure (.nx ((Γ.set i (some g.sl)).set j (some h.sl)))
theorem s_parX {i j : Nat} {x y : Str} {a b : Expr} {ma mb : Ev → M Got} {px py pt : Pos} {kt k2 : Nat} {pt2 : Pos} (hc : X.calm = true) (hN : X.N.Nodup) (ha : PX X k E a ma) (hb : PX X k E b mb) (hij : i ≠ j) (hi : X.N[i]? = some x := by rfl) (hj : X.N[j]? = some y := by rfl)
    (hx : X.env.scope.names.lookup x = some .local := by rfl) (hy : X.env.scope.names.lookup y = some .local := by rfl)
    (hw : swappedStores [.Tuple [.Name x px, .Name y py] kt pt] (.Tuple [a, b] k2 pt2) X.env = pure (some [x, y]) := by rfl)
    (hs : swapsWithSole [.Tuple [.Name x px, .Name y py] kt pt] (.Tuple [a, b] k2 pt2) pos.line X.env = pure false := by rfl)
    (h1 : starEach [a, b] X.env = (false, eval a X.env) :: starEach [b] X.env := by rfl) (h2 : starEach [b] X.env = (false, eval b X.env) :: starEach [] X.env := by rfl) :
    PS X (.Assign [.Tuple [.Name x px, .Name y py] kt pt] (.Tuple [a, b] k2 pt2) pos) (tS k E (mParX i j ma mb)) :=
  PS.weak (ps_par hc hN hi hj hij hx hy (pa_cons ha.pe (pa_cons hb.pe pa_nil h2) h1) hw hs) fun D σ H ⟨G, H0, P, F, Γ, st, ok, w⟩ => by
    refine tX.inS ok w fun v g F1 H1 st1 s1 ok1 r1 w1 => tX.inS ok1 w1 fun u h F2 H2 st2 s2 ok2 r2 w2 => ⟨v, u, rfl, ?_⟩
    have b0 : ∀ b : Addr, H b = none → H0 b = none := fun b hb => ok.fresh0 hb
    have b1 : ∀ b : Addr, H1 b = none → H0 b = none := fun b hb => ok1.fresh0 hb
    have oA := ok1.got ok.ok b0 i r1 fun a l us ha eo es => by
      obtain ⟨ob, hb⟩ := ok.stands eo es
      rw [ha] at hb
      cases hb
    have o2 := (oA.step s2).got ok1.ok b1 j r2 fun a l us ha eo es => by
      obtain ⟨ob, hb⟩ := oA.stands eo es
      rw [ha] at hb
      cases hb
    exact w2 _ F2 H2 o2
def mPar3X (i j l : Nat) (ma mb mc : Ev → M Got) : SM := fun Γ => sE (ma Γ) Γ fun g => sE (mb Γ) Γ fun h => sE (mc Γ) Γ fun q => pure (.nx (((Γ.set i (some g.sl)).set j (some h.sl)).set l (some q.sl)))
theorem s_par3X {i j l : Nat} {x y z : Str} {a b c : Expr} {ma mb mc : Ev → M Got} {px py pz pt : Pos} {kt k2 : Nat} {pt2 : Pos} (hc : X.calm = true) (hN : X.N.Nodup) (ha : PX X k E a ma) (hb : PX X k E b mb) (hcc : PX X k E c mc) (hij : i ≠ j) (hil : i ≠ l) (hjl : j ≠ l) (hi : X.N[i]? = some x := by rfl) (hj : X.N[j]? = some y := by rfl) (hl : X.N[l]? = some z := by rfl)
    (hx : X.env.scope.names.lookup x = some .local := by rfl) (hy : X.env.scope.names.lookup y = some .local := by rfl) (hz : X.env.scope.names.lookup z = some .local := by rfl)
    (hw : swappedStores [.Tuple [.Name x px, .Name y py, .Name z pz] kt pt] (.Tuple [a, b, c] k2 pt2) X.env = pure (some [x, y, z]) := by rfl)
    (hs : swapsWithSole [.Tuple [.Name x px, .Name y py, .Name z pz] kt pt] (.Tuple [a, b, c] k2 pt2) pos.line X.env = pure false := by rfl)
    (h1 : starEach [a, b, c] X.env = (false, eval a X.env) :: starEach [b, c] X.env := by rfl) (h2 : starEach [b, c] X.env = (false, eval b X.env) :: starEach [c] X.env := by rfl) (h3 : starEach [c] X.env = (false, eval c X.env) :: starEach [] X.env := by rfl) :
    PS X (.Assign [.Tuple [.Name x px, .Name y py, .Name z pz] kt pt] (.Tuple [a, b, c] k2 pt2) pos) (tS k E (mPar3X i j l ma mb mc)) :=
  PS.weak (ps_par3 hc hN hi hj hl hij hil hjl hx hy hz (pa_cons ha.pe (pa_cons hb.pe (pa_cons hcc.pe pa_nil h3) h2) h1) hw hs) fun D σ H ⟨G, H0, P, F, Γ, st, ok, w⟩ => by
    refine tX.inS ok w fun v g F1 H1 st1 s1 ok1 r1 w1 => tX.inS ok1 w1 fun u h F2 H2 st2 s2 ok2 r2 w2 => tX.inS ok2 w2 fun t q F3 H3 st3 s3 ok3 r3 w3 => ⟨v, u, t, rfl, ?_⟩
    have oA := ok1.got ok.ok (fun b hb => ok.fresh0 hb) i r1 fun a l us ha eo es => by
      obtain ⟨ob, hb⟩ := ok.stands eo es
      rw [ha] at hb
      cases hb
    have oB := (oA.step s2).got ok1.ok (fun b hb => ok1.fresh0 hb) j r2 fun a l us ha eo es => by
      obtain ⟨ob, hb⟩ := oA.stands eo es
      rw [ha] at hb
      cases hb
    have oC := (oB.step s3).got ok2.ok (fun b hb => ok2.fresh0 hb) l r3 fun a l us ha eo es => by
      obtain ⟨ob, hb⟩ := oB.stands eo es
      rw [ha] at hb
      cases hb
    exact w3 _ F3 H3 oC
/-! ### t.index(x), a tuple of texts -/
def strsD : List D → Option (List Str)
  | [] => some []
  | .str x :: ds => (strsD ds).map (x :: ·)
  | _ :: _ => none
theorem Reps.strs {F : Hp} : ∀ {vs : List V} {ds : List D} {ns : List Str}, Reps k F vs ds → strsD ds = some ns → vs = ns.map V.str
  | _, _, _, .nil, e => by cases e; rfl
  | _, _, ns, .cons (d := d) (ds := ds) h t, e => by
    cases h with
    | str i =>
      cases e' : strsD ds with
      | none => rw [strsD, e'] at e; cases e
      | some ms =>
        rw [strsD, e'] at e
        cases e
        rw [Reps.strs t e']
        rfl
    | _ => cases e
/-- the first place of x -/
def placeS (x : Str) : List Str → Option Nat
  | [] => none
  | y :: ys => if y = x then some 0 else (placeS x ys).map (· + 1)
theorem placeS_spec {x : Str} : ∀ {ys : List Str} {j : Nat}, placeS x ys = some j → ys[j]? = some x ∧ ∀ m, m < j → ys[m]? ≠ some x
  | [], _, h => by cases h
  | y :: ys, j, h => by
    unfold placeS at h
    split at h
    · rename_i e
      cases h
      exact ⟨by rw [← e]; rfl, fun m hm => by omega⟩
    · rename_i ne
      cases e : placeS x ys with
      | none => rw [e] at h; cases h
      | some i =>
        rw [e] at h
        cases h
        obtain ⟨h1, h2⟩ := placeS_spec e
        refine ⟨by simpa using h1, fun m hm => ?_⟩
        cases m with
        | zero => exact fun z => ne (by simpa using z)
        | succ m =>
          have hm : m + 1 < i + 1 := hm
          simpa using h2 m (by omega)
def gIndex : M2 := fun d e st => match d, e with
  | .tup xs, .str x => (match (strsD xs).bind (placeS x) with | some j => .ok (.int (j : Nat)) st | none => .stuck)
  | _, _ => .stuck
/-! ### x.append(y.pop(i)) -/
def mAppPop (i j : Nat) (mi : EM) : SM := fun Γ => match gOwn i Γ, gOwn j Γ with
  | some xs, some ys => sE (mi Γ) Γ fun n => match n with
    | .int n => (match ixN ys.length n with
      | some m => (match ys[m]? with
        | some d => if decide (xs.length < sizeLine ∧ i ≠ j ∧ -(2 ^ 63) ≤ n ∧ n < 2 ^ 63) then pure (.nx ((Γ.set j (some (.own (OD.ls (ys.eraseIdx m))))).set i (some (.own (OD.ls (xs ++ [d])))))) else halt
        | none => halt)
      | none => halt)
    | _ => halt
  | _, _ => halt
theorem Reps.eraseIdx {F : Hp} : ∀ {vs : List V} {ds : List D} (i : Nat), Reps k F vs ds → Reps k F (vs.eraseIdx i) (ds.eraseIdx i)
  | _, _, _, .nil => .nil
  | _, _, 0, .cons _ t => t
  | _, _, i + 1, .cons h t => .cons h (Reps.eraseIdx i t)
theorem s_appPop (i j : Nat) {x y : Str} {px py apos cpos apos2 cpos2 : Pos} (hi : PE X ie (tM k E mk)) (hN : X.N[i]? = some x := by rfl) (hN2 : X.N[j]? = some y := by rfl)
    (hv : Vis X.env.scope x := by first | exact Or.inl rfl | exact Or.inr (Or.inl rfl) | exact Or.inr (Or.inr rfl)) (hd : (x == ("__debug__" : Str)) = false := by decide) (hcd : (x == ("__classdict__" : Str)) = false := by decide)
    (hv2 : Vis X.env.scope y := by first | exact Or.inl rfl | exact Or.inr (Or.inl rfl) | exact Or.inr (Or.inr rfl)) (hd2 : (y == ("__debug__" : Str)) = false := by decide) (hcd2 : (y == ("__classdict__" : Str)) = false := by decide)
    (hbase : attributeBase (.Name x px) "append" X.env (eval (.Name x px) X.env) = eval (.Name x px) X.env := by rfl) (hbase2 : attributeBase (.Name y py) "pop" X.env (eval (.Name y py) X.env) = eval (.Name y py) X.env := by rfl)
    (hfew : ((backTo cpos (starEach [.Call (.Attribute (.Name y py) "pop" apos2) [ie] [] cpos2] X.env)).all (fun x => !x.1) && (backToKw cpos (keywordEach [] X.env)).all (fun x => x.1.isSome)
      && decide (([.Call (.Attribute (.Name y py) "pop" apos2) [ie] [] cpos2] : List Expr).length + ([] : List Keyword).length + (if ([] : List Keyword).isEmpty then 0 else 1) < 30)) = true := by rfl)
    (hfew2 : ((backTo cpos2 (starEach [ie] X.env)).all (fun x => !x.1) && (backToKw cpos2 (keywordEach [] X.env)).all (fun x => x.1.isSome)
      && decide ([ie].length + ([] : List Keyword).length + (if ([] : List Keyword).isEmpty then 0 else 1) < 30)) = true := by rfl)
    (hline : (apos.endLine == cpos.line) = true := by rfl) (hline2 : (apos2.endLine == cpos2.line) = true := by rfl)
    (hs : starEach [.Call (.Attribute (.Name y py) "pop" apos2) [ie] [] cpos2] X.env = (false, eval (.Call (.Attribute (.Name y py) "pop" apos2) [ie] [] cpos2) X.env) :: starEach [] X.env := by rfl) (hs2 : starEach [ie] X.env = (false, eval ie X.env) :: starEach [] X.env := by rfl)
    (hplain : (backTo cpos (starEach [] X.env)).any (·.1) = false := by rfl) (hplain2 : (backTo cpos2 (starEach [] X.env)).any (·.1) = false := by rfl)
    (hsw : swapsWith (.Call (.Attribute (.Name x px) "append" apos) [.Call (.Attribute (.Name y py) "pop" apos2) [ie] [] cpos2] [] cpos) none pos.line X.env = pure false := by rfl) :
    PS X (.Expr (.Call (.Attribute (.Name x px) "append" apos) [.Call (.Attribute (.Name y py) "pop" apos2) [ie] [] cpos2] [] cpos) pos) (tS k E (mAppPop i j mk)) :=
  PS.weak (ps_expr (pe_bm PySem.F.plainAttrs_list PySem.F.slot_list_append PySem.F.type_list_append mt_append (pv i hN hv hd hcd) (pa_cons (pe_bm PySem.F.plainAttrs_list PySem.F.slot_list_pop PySem.F.type_list_pop mt_popAt (pv j hN2 hv2 hd2 hcd2) (pa_cons hi pa_nil hs2) hbase2 hfew2 hline2 hs2 hplain2) pa_nil hs) hbase hfew hline hs hplain) hsw) fun D σ H ⟨G, H0, P, F, Γ, st, ok, w⟩ => by
    unfold mAppPop at w
    cases e1 : gOwn i Γ with
    | none => rw [e1] at w; exact w.elim
    | some xs =>
      cases e2 : gOwn j Γ with
      | none => rw [e1, e2] at w; exact w.elim
      | some ys =>
        rw [e1, e2] at w
        obtain ⟨_, f1, a, _, rfl, ha, _, _, _, vs, rfl, _⟩ := ok.ok.slot i _ (gOwn_use e1)
        obtain ⟨_, f2, b, _, rfl, hb, _, _, _, us, rfl, _⟩ := ok.ok.slot j _ (gOwn_use e2)
        refine ⟨.ref a, f1, .inl ⟨rfl, _, SqL.of ha⟩, .ref b, f2, .inl ⟨rfl, _, SqL.of hb⟩, tM.inS ok w fun nv n F1 H1 st1 s1 ok1 r1 w1 => ?_⟩
        obtain ⟨_, f1', a', _, g1, ha1, _, _, _, vs1, rfl, ra⟩ := ok1.ok.slot i _ (gOwn_use e1)
        rw [f1] at f1'
        cases f1'
        cases g1
        obtain ⟨_, f2', b', _, g2, hb1, _, _, _, us1, rfl, rb⟩ := ok1.ok.slot j _ (gOwn_use e2)
        rw [f2] at f2'
        cases f2'
        cases g2
        split at w1
        · rename_i n
          cases r1
          cases ei : ixN ys.length n with
          | none => rw [ei] at w1; exact w1.elim
          | some m =>
            rw [ei] at w1
            cases ed : ys[m]? with
            | none => simp only [ed] at w1; exact w1.elim
            | some d =>
              simp only [ed] at w1
              split at w1
              · rename_i hz
                obtain ⟨z1, z2, z3, z4⟩ := of_decide_eq_true hz
                obtain ⟨v, ev, rv⟩ := rb.getD ed
                have nab : a ≠ b := fun z => by
                  subst z
                  exact z2 (ok1.ok.apart i j _ _ _ (gOwn_use e1) (gOwn_use e2) f1 f2)
                have okB := ok1.mut (gOwn_use e2) f2 (ob := .lst (us1.eraseIdx m)) (ys := .ls (ys.eraseIdx m)) ⟨_, rfl, rb.eraseIdx m⟩
                have e1' : (Γ.set j (some (.own (OD.ls (ys.eraseIdx m)))))[i]? = some (some (.own (OD.ls xs))) := by
                  rw [List.getElem?_set_ne (Ne.symm z2)]
                  exact gOwn_use e1
                have okA := okB.mut e1' f1 (ob := .lst (vs1 ++ [v])) (ys := .ls (xs ++ [d])) ⟨_, rfl, ra.append (.cons rv .nil)⟩
                refine ⟨b, us1, n, m, v, rfl, rfl, hb1, z3, z4, by rw [rb.length]; exact (ixN_seq ei).1, ev, ?_⟩
                refine ⟨a, vs1, v, rfl, rfl, by rw [upd_ne nab]; exact ha1, by rw [ra.length]; exact z1, ?_⟩
                exact w1 σ F1 _ okA
              · exact w1.elim
        · exact w1.elim
end
end FL

/-! FL36: dict comprehensions, list(d), sorted(d), len(d), dict(pairs) -/
namespace FL
open PySem PySem.Spec PyProof.Rows L2
section
variable {X : Cx} {k : Kx} {E : XE} {e ie : Expr} {me mk : EM} {mr : Ev → M (List D)} {pos p p2 : Pos}
theorem Step.mutD {F H F1 H1 : Hp} {st1 : DS} (s : Step k F H F1 H1 st1) {a : Addr} {ob : HO} (h0 : H a = none) (f : F1 a = none) (n1 : ¬ k.hot a) (hl : H1 a = none ∨ ∃ ob0, H1 a = some ob0 ∧ ((∃ ws, ob0 = .lst ws) ∨ ∃ kv, ob0 = .dK kv)) : Step k F H F1 (upd H1 a ob) st1 where
  ext := s.ext
  stay := fun b o e m1 m3 => by rw [upd_ne (ne_of_none e h0)]; exact s.stay b o e m1 m3
  kept := fun b o e => by rw [upd_ne (ne_of_none e h0)]; exact s.kept b o e
  tabs := tabs_upd s.tabs (hl.imp id fun ⟨o, e, h⟩ => ⟨o, e, h.imp id .inl⟩)
  ftbl := s.ftbl
  nof := s.nof
  sub := fun b o e => by rw [upd_ne (fun z => by rw [z, f] at e; cases e)]; exact s.sub b o e
  at_ := fun h => (s.at_ h).upd h n1
def compD (g : GM) (t : Ev → M Bool) (ek ev : EM) (Γ : Ev) : List D → KD → M KD
  | [], acc => pure acc
  | d :: ds, acc => match g d Γ with
    | none => halt
    | some Γ1 => do
      let c ← nxM (t Γ1)
      if c then do
        let y ← nxM (ek Γ1)
        let z ← nxM (ev Γ1)
        match keyD y with
        | some kk => if decide (acc.length < sizeLine) then compD g t ek ev Γ ds (putD acc kk z) else halt
        | none => halt
      else compD g t ek ev Γ ds acc
def mDComp (mi : Ev → M (List D)) (g : GM) (t : Ev → M Bool) (ek ev : EM) (vs : List Nat) : Ev → M KD := fun Γ => do
  let xs ← mi Γ
  if decide (xs.length ≤ sizeLine) then compD g t ek ev (wipeE Γ vs) xs [] else halt
theorem dc_imp {mi : Ev → M (List D)} {g : GM} {js : List Nat} {t : Ev → M Bool} {mkx mvx : EM} {own : List (Str × Nat)} (hj : ∀ j ∈ js, j ∈ own.map (·.2)) {σ : L2.St} {H : Hp} {Q : VK} (h : tOD k E (mDComp mi g t mkx mvx (own.map (·.2))) σ H Q) :
    tDc (tI k E mi) (gM k js g) (tT k EF t) (tM k EF mkx) (tM k EF mvx) (own.map (·.2)) σ H Q := by
  obtain ⟨F, Γ, st, ok0, w⟩ := h
  refine tI.then_ ok0 w fun J xs F1 H1 st1 s1 ok1 jk w1 => ?_
  have hz : xs.length ≤ sizeLine := by
    by_cases h : xs.length ≤ sizeLine
    · exact h
    · rw [decide_eq_false h] at w1; exact w1.elim
  rw [decide_eq_true hz] at w1
  have w1 : Wp k E σ F1 H1 (compD g t mkx mvx (wipeE Γ (own.map (·.2))) xs [] st1) fun kv F' H' _ => ∀ a kvs, H' a = some (.dK kvs) → F' a = none → H a = none → RepK k F' kvs kv → Q (.ref a) H' := w1
  intro D nD
  have nd1 : ¬ k.hot D := ok1.cold nD
  have hD0 : H D = none := s1.back nD
  have fD1 : F1 D = none := ok1.fnone nD
  have s0 := Step.mutD (ob := .dK []) ok1.refl nD fD1 nd1 (.inl nD)
  have ndk : ∀ {kvs : List (Key × V)} (ps), HO.dK kvs ≠ .tbl ps := fun ps z => by cases z
  refine ⟨fun i m H2 => m = xs.length - i ∧ i ≤ xs.length ∧ ∃ F2 st2 accV accD, Step k F1 H1 F2 H2 st2 ∧ H2 D = some (.dK accV) ∧ F2 D = none ∧ RepK k F2 accV accD ∧
      Wp k E σ F1 H1 (compD g t mkx mvx (wipeE Γ (own.map (·.2))) (xs.drop i) accD st2) fun kv F' H' _ => ∀ a kvs, H' a = some (.dK kvs) → F' a = none → H a = none → RepK k F' kvs kv → Q (.ref a) H',
    ⟨_, rfl, Nat.zero_le _, F1, st1, [], [], s0, upd_same, fD1, .nil, w1⟩, ?_⟩
  rintro i m H2 ⟨rfl, hi, F2, st2, accV, accD, s2, h2, f2, r2, w2⟩
  have ok2 := ok1.step s2
  by_cases hlt : i < xs.length
  · refine .inr ⟨jk.go i F2 H2 s2.ext s2.sub ok2.bsub hlt, fun H3 => i + 1 ≤ xs.length ∧ ∃ F3 st3 accV accD, Step k F1 H1 F3 H3 st3 ∧ H3 D = some (.dK accV) ∧ F3 D = none ∧ RepK k F3 accV accD ∧
        Wp k E σ F1 H1 (compD g t mkx mvx (wipeE Γ (own.map (·.2))) (xs.drop (i + 1)) accD st3) fun kv F' H' _ => ∀ a kvs, H' a = some (.dK kvs) → F' a = none → H a = none → RepK k F' kvs kv → Q (.ref a) H', ?_, ?_⟩
    · rintro H3 ⟨hi3, n⟩
      exact ⟨_, by omega, rfl, hi3, n⟩
    · intro x H3 y
      obtain ⟨d, F3, e, s3, r⟩ := jk.yld i x F2 H2 H3 σ Γ st2 s2.ext ok2 hlt y
      have ok3 := ok2.step s3
      have s13 := ok1.trans s2 s3
      have ed : xs.drop i = d :: xs.drop (i + 1) := by
        obtain ⟨q1, q2⟩ := List.getElem?_eq_some_iff.mp e
        rw [← q2]
        exact List.drop_eq_getElem_cons q1
      rw [ed] at w2
      unfold compD at w2
      have hw := ok3.wipe (own.map (·.2))
      cases eg : g d (wipeE Γ (own.map (·.2))) with
      | none => rw [eg] at w2; exact w2.elim
      | some Γ3 =>
        rw [eg] at w2
        refine ⟨d, F3, wipeE Γ (own.map (·.2)), Γ3, hw.sub, hw.len, r, eg, fun σ3 u => ?_⟩
        refine ⟨?_, ?_⟩
        · have e1 : wipe σ3 (own.map (·.2)) = wipe (wipe σ (own.map (·.2))) (own.map (·.2)) := wipe_same u.len fun j hj' => by
            rcases u.cases j with ⟨_, _, _, _, _, q⟩ | ⟨q, _⟩
            · exact absurd (hj j q) hj'
            · exact q
          rw [e1]
          exact wipe_same (wipe_length _ _) fun j hj' => wipe_other hj'
        have okU := hw.upd u
        have w2 : Wp k E σ F1 H1 ((nxM (t Γ3) st2).bind fun c st => (if c = true then (do
            let y ← nxM (mkx Γ3)
            let z ← nxM (mvx Γ3)
            match keyD y with
            | some kk => if decide (accD.length < sizeLine) then compD g t mkx mvx (wipeE Γ (own.map (·.2))) (xs.drop (i + 1)) (putD accD kk z) else halt
            | none => halt) else compD g t mkx mvx (wipeE Γ (own.map (·.2))) (xs.drop (i + 1)) accD : M KD) st) _ := w2
        obtain ⟨c, st4, et, w4⟩ := Wp.nx_ok w2
        refine ⟨F3, Γ3, st2, okU, ?_⟩
        rw [et]
        intro F4 H4 s4
        have okU4 := okU.step s4
        have s14 := ok1.trans s13 s4
        have hD2 := s3.stay D _ h2 nd1 ndk
        have hD4 := s4.stay D _ hD2 nd1 ndk
        have fD4 := s4.nof _ _ hD2 (s3.nof _ _ h2 f2)
        have r4 : RepK k F4 accV accD := (r2.mono s3.ext).mono s4.ext
        cases c with
        | false => exact iteF ⟨hlt, F4, st4, accV, accD, s14, hD4, fD4, r4, w4⟩
        | true =>
          refine iteT ?_
          have w4 : Wp k E σ F1 H1 ((nxM (mkx Γ3) st4).bind fun y st => ((nxM (mvx Γ3)) st).bind fun z st => (match keyD y with
            | some kk => if decide (accD.length < sizeLine) then compD g t mkx mvx (wipeE Γ (own.map (·.2))) (xs.drop (i + 1)) (putD accD kk z) else halt
            | none => halt : M KD) st) _ := w4
          obtain ⟨y, st5, ey, w5⟩ := Wp.nx_ok w4
          refine ⟨F4, Γ3, st4, okU4, ?_⟩
          rw [ey]
          intro F5 H5 s5 vy ry
          obtain ⟨z, st6, ez, w6⟩ := Wp.nx_ok w5
          refine ⟨F5, Γ3, st5, okU4.step s5, ?_⟩
          rw [ez]
          intro F6 H6 s6 vz rz
          have hD5 := s5.stay D _ hD4 nd1 ndk
          have fD5 := s5.nof _ _ hD4 fD4
          have hD6 := s6.stay D _ hD5 nd1 ndk
          have fD6 := s6.nof _ _ hD5 fD5
          cases hk : keyD y with
          | none => rw [hk] at w6; exact w6.elim
          | some kk =>
            rw [hk] at w6
            have w6 : Wp k E σ F1 H1 ((if decide (accD.length < sizeLine) then compD g t mkx mvx (wipeE Γ (own.map (·.2))) (xs.drop (i + 1)) (putD accD kk z) else halt : M KD) st6) _ := w6
            split at w6
            · rename_i hz'
              have r6 := ((r4.mono s5.ext).mono s6.ext)
              have ek := keyD_rep ry hk
              subst ek
              have s16 := ok1.trans (ok1.trans s14 s5) s6
              refine ⟨accV, kk, rfl, hD6, by rw [r4.len]; exact of_decide_eq_true hz', hlt, F6, st6, putK accV kk vz, putD accD kk z, ?_, upd_same, fD6, r6.put rz, w6⟩
              exact Step.mutD s16 nD fD6 nd1 (.inr ⟨_, hD6, .inr ⟨_, rfl⟩⟩)
            · exact w6.elim
  · have e : i = xs.length := by omega
    subst e
    refine .inl ⟨jk.stop _ F2 H2 s2.ext s2.sub ok2.bsub (Nat.le_refl _), ?_⟩
    rw [List.drop_length] at w2
    exact w2 F2 H2 s2 D accV h2 f2 hD0 r2
theorem od_dc {kx vx tg iter : Expr} {ifs : List Expr} {scope : Scope} {own : List (Str × Nat)} {mi : Ev → M (List D)} {g : GM} {js : List Nat} {t : Ev → M Bool} {mkx mvx : EM} (hc : X.calm = true) (hN : X.N.Nodup) (hi : PI X tg iter (tI k E mi)) (ok : BlkOk X.N X.env.scope scope own)
    (hj : ∀ j ∈ js, j ∈ own.map (·.2))
    (hg : ∀ (s : Shared) (H : Hp) (C : Addr) (cl : List (Str × Addr)) (fp : List Addr), PG (X.blk s H scope (compEnvC scope cl C X.env) fp) tg (gM k js g)) (ht : ∀ (s : Shared) (H : Hp) (C : Addr) (cl : List (Str × Addr)) (fp : List Addr), PTs (X.blk s H scope (compEnvC scope cl C X.env) fp) ifs (tT k EF t))
    (hk : ∀ (s : Shared) (H : Hp) (C : Addr) (cl : List (Str × Addr)) (fp : List Addr), PE (X.blk s H scope (compEnvC scope cl C X.env) fp) kx (tM k EF mkx))
    (he : ∀ (s : Shared) (H : Hp) (C : Addr) (cl : List (Str × Addr)) (fp : List Addr), PE (X.blk s H scope (compEnvC scope cl C X.env) fp) vx (tM k EF mvx)) (hs : ∀ x, foldedSetIterable iter X.env x = pure x := by intro _; rfl) :
    PE X (.DictComp kx vx [⟨tg, iter, ifs, 0⟩] scope pos) (tOD k E (mDComp mi g t mkx mvx (own.map (·.2)))) := PE.weak (pe_dc hc hN hi ok hg ht hk he hs) fun σ H Q => dc_imp hj
end
end FL

/-! FL37: statements and expressions that are never reached -/
namespace FL
open PySem PySem.Spec PyProof.Rows L2
section
variable {X : Cx} {k : Kx} {E : XE} {st : Stmt} {e : Expr}
def mHalt : SM := fun _ => halt
theorem s_halt : PS X st (tS k E mHalt) := ⟨fun pins s σ H D I ⟨G, H0, P, F, Γ, st0, ok, w⟩ => w.elim⟩
def eHalt : EM := fun _ => halt
theorem e_halt : PE X e (tM k E eHalt) := ⟨fun pins s σ H Q I ⟨F, Γ, st0, ok, w⟩ => w.elim⟩
theorem b_halt {sts : List Stmt} : PSs X sts (tS k E mHalt) := ⟨fun pins s σ H D I ⟨G, H0, P, F, Γ, st0, ok, w⟩ => w.elim⟩
end
section
variable {X : Cx} {k : Kx}
def isNon : D → Bool
  | .non => true
  | _ => false
theorem isNon_rep {F : Hp} {v : V} {d : D} (r : Rep k F v d) : decide (v = .non) = isNon d := by
  cases r <;> first | rfl | exact decide_eq_false (fun z => by cases z)
def gIs : M2 := fun d e st => match e with
  | .non => .ok (.bl (isNon d)) st
  | _ => .stuck
def gIsNot : M2 := fun d e st => match e with
  | .non => .ok (.bl (!isNon d)) st
  | _ => .stuck
theorem s_is : OpS X k (compareOp .Is) gIs := ⟨_, op_isN, fun {E σ F H Γ st x y d e Q} ok rx ry w => by
  unfold gIs at w
  split at w
  · cases ry
    exact ⟨rfl, by rw [isNon_rep rx]; exact w F H ok.refl _ (.bl _)⟩
  · exact w.elim⟩
theorem s_isnot : OpS X k (compareOp .IsNot) gIsNot := ⟨_, op_notN, fun {E σ F H Γ st x y d e Q} ok rx ry w => by
  unfold gIsNot at w
  split at w
  · cases ry
    exact ⟨rfl, by rw [isNon_rep rx]; exact w F H ok.refl _ (.bl _)⟩
  · exact w.elim⟩
end
end FL

/-! FL38: a, b, c = .., .., .. where names are captured, some with lists of their own -/
namespace FL
open PySem PySem.Spec PyProof.Rows L2
section
variable {X : Cx} {k : Kx} {E : XE} {pos : Pos}
theorem s_asg3X {i j l : Nat} {x y z : Str} {a b c : Expr} {ma mb mc : Ev → M Got} {px py pz pt : Pos} {kt k2 : Nat} {pt2 : Pos} (hc : X.calm = true) (hN : X.N.Nodup) (ha : PX X k E a ma) (hb : PX X k E b mb) (hcc : PX X k E c mc) (hi : X.N[i]? = some x := by rfl) (hj : X.N[j]? = some y := by rfl) (hl : X.N[l]? = some z := by rfl)
    (hx : Loc X.env.scope x := by first | exact Or.inl rfl | exact Or.inr rfl) (hy : Loc X.env.scope y := by first | exact Or.inl rfl | exact Or.inr rfl) (hz : Loc X.env.scope z := by first | exact Or.inl rfl | exact Or.inr rfl)
    (fx : X.fn x = true ∨ X.env.scope.names.lookup x = some .local := by first | exact .inl rfl | exact .inr rfl) (fy : X.fn y = true ∨ X.env.scope.names.lookup y = some .local := by first | exact .inl rfl | exact .inr rfl) (fz : X.fn z = true ∨ X.env.scope.names.lookup z = some .local := by first | exact .inl rfl | exact .inr rfl)
    (hs : swapsWithSole [.Tuple [.Name x px, .Name y py, .Name z pz] kt pt] (.Tuple [a, b, c] k2 pt2) pos.line X.env = pure false := by rfl) (hw : swappedStores [.Tuple [.Name x px, .Name y py, .Name z pz] kt pt] (.Tuple [a, b, c] k2 pt2) X.env = pure none := by rfl)
    (h0 : (assignEach [.Tuple [.Name x px, .Name y py, .Name z pz] kt pt] X.env).map (·.2) = [assign (.Tuple [.Name x px, .Name y py, .Name z pz] kt pt) X.env] := by rfl)
    (h1 : starEach [a, b, c] X.env = (false, eval a X.env) :: starEach [b, c] X.env := by rfl) (h2 : starEach [b, c] X.env = (false, eval b X.env) :: starEach [c] X.env := by rfl) (h3 : starEach [c] X.env = (false, eval c X.env) :: starEach [] X.env := by rfl)
    (g1 : (assignEach [.Name x px, .Name y py, .Name z pz] X.env).map (·.2) = assign (.Name x px) X.env :: (assignEach [.Name y py, .Name z pz] X.env).map (·.2) := by rfl) (g2 : (assignEach [.Name y py, .Name z pz] X.env).map (·.2) = assign (.Name y py) X.env :: (assignEach [.Name z pz] X.env).map (·.2) := by rfl) (g3 : (assignEach [.Name z pz] X.env).map (·.2) = assign (.Name z pz) X.env :: (assignEach [] X.env).map (·.2) := by rfl)
    (gn : (assignEach [.Name x px, .Name y py, .Name z pz] X.env).length = 3 := by rfl) (gf : (assignEach [.Name x px, .Name y py, .Name z pz] X.env).findIdx? (·.1) = none := by rfl) :
    PS X (.Assign [.Tuple [.Name x px, .Name y py, .Name z pz] kt pt] (.Tuple [a, b, c] k2 pt2) pos) (tS k E (mPar3X i j l ma mb mc)) :=
  PS.weak (ps_asg (pe_tup (pa_cons ha.pe (pa_cons hb.pe (pa_cons hcc.pe pa_nil h3) h2) h1)) (pg_tup hc (pgs_cons (pg_name hN hi hx fx) (pgs_cons (pg_name hN hj hy fy) (pgs_cons (pg_name hN hl hz fz) pgs_nil g3) g2) g1) gn gf) hs hw h0) fun D σ H ⟨G, H0, P, F, Γ, st, ok, w⟩ => by
    refine tX.inS ok w fun v g F1 H1 st1 s1 ok1 r1 w1 => tX.inS ok1 w1 fun u h F2 H2 st2 s2 ok2 r2 w2 => tX.inS ok2 w2 fun t q F3 H3 st3 s3 ok3 r3 w3 => ⟨by show 3 ≤ sizeLine; decide, fun p np => ?_⟩
    have oA := ok1.got ok.ok (fun b hb => ok.fresh0 hb) i r1 fun a l us ha eo es => by
      obtain ⟨ob, hb⟩ := ok.stands eo es
      rw [ha] at hb
      cases hb
    have oB := (oA.step s2).got ok1.ok (fun b hb => ok1.fresh0 hb) j r2 fun a l us ha eo es => by
      obtain ⟨ob, hb⟩ := oA.stands eo es
      rw [ha] at hb
      cases hb
    have oC := (oB.step s3).got ok2.ok (fun b hb => ok2.fresh0 hb) l r3 fun a l us ha eo es => by
      obtain ⟨ob, hb⟩ := oB.stands eo es
      rw [ha] at hb
      cases hb
    have s4 := ok3.ok.new' (ob := .tup [v, u, t]) np
    exact ⟨p, [v, u, t], rfl, SqT.of upd_same, rfl, v, [u, t], rfl, u, [t], rfl, t, [], rfl, rfl, w3 _ F3 _ (oC.step s4)⟩
theorem s_asg2X {i j : Nat} {x y : Str} {a b : Expr} {ma mb : Ev → M Got} {px py pt : Pos} {kt k2 : Nat} {pt2 : Pos} (hc : X.calm = true) (hN : X.N.Nodup) (ha : PX X k E a ma) (hb : PX X k E b mb) (hi : X.N[i]? = some x := by rfl) (hj : X.N[j]? = some y := by rfl)
    (hx : Loc X.env.scope x := by first | exact Or.inl rfl | exact Or.inr rfl) (hy : Loc X.env.scope y := by first | exact Or.inl rfl | exact Or.inr rfl)
    (fx : X.fn x = true ∨ X.env.scope.names.lookup x = some .local := by first | exact .inl rfl | exact .inr rfl) (fy : X.fn y = true ∨ X.env.scope.names.lookup y = some .local := by first | exact .inl rfl | exact .inr rfl)
    (hs : swapsWithSole [.Tuple [.Name x px, .Name y py] kt pt] (.Tuple [a, b] k2 pt2) pos.line X.env = pure false := by rfl) (hw : swappedStores [.Tuple [.Name x px, .Name y py] kt pt] (.Tuple [a, b] k2 pt2) X.env = pure none := by rfl)
    (h0 : (assignEach [.Tuple [.Name x px, .Name y py] kt pt] X.env).map (·.2) = [assign (.Tuple [.Name x px, .Name y py] kt pt) X.env] := by rfl)
    (h1 : starEach [a, b] X.env = (false, eval a X.env) :: starEach [b] X.env := by rfl) (h2 : starEach [b] X.env = (false, eval b X.env) :: starEach [] X.env := by rfl)
    (g1 : (assignEach [.Name x px, .Name y py] X.env).map (·.2) = assign (.Name x px) X.env :: (assignEach [.Name y py] X.env).map (·.2) := by rfl) (g2 : (assignEach [.Name y py] X.env).map (·.2) = assign (.Name y py) X.env :: (assignEach [] X.env).map (·.2) := by rfl)
    (gn : (assignEach [.Name x px, .Name y py] X.env).length = 2 := by rfl) (gf : (assignEach [.Name x px, .Name y py] X.env).findIdx? (·.1) = none := by rfl) :
    PS X (.Assign [.Tuple [.Name x px, .Name y py] kt pt] (.Tuple [a, b] k2 pt2) pos) (tS k E (mParX i j ma mb)) :=
  PS.weak (ps_asg (pe_tup (pa_cons ha.pe (pa_cons hb.pe pa_nil h2) h1)) (pg_tup hc (pgs_cons (pg_name hN hi hx fx) (pgs_cons (pg_name hN hj hy fy) pgs_nil g2) g1) gn gf) hs hw h0) fun D σ H ⟨G, H0, P, F, Γ, st, ok, w⟩ => by
    refine tX.inS ok w fun v g F1 H1 st1 s1 ok1 r1 w1 => tX.inS ok1 w1 fun u h F2 H2 st2 s2 ok2 r2 w2 => ⟨by show 2 ≤ sizeLine; decide, fun p np => ?_⟩
    have oA := ok1.got ok.ok (fun b hb => ok.fresh0 hb) i r1 fun a l us ha eo es => by
      obtain ⟨ob, hb⟩ := ok.stands eo es
      rw [ha] at hb
      cases hb
    have oB := (oA.step s2).got ok1.ok (fun b hb => ok1.fresh0 hb) j r2 fun a l us ha eo es => by
      obtain ⟨ob, hb⟩ := oA.stands eo es
      rw [ha] at hb
      cases hb
    have s4 := ok2.ok.new' (ob := .tup [v, u]) np
    exact ⟨p, [v, u], rfl, SqT.of upd_same, rfl, v, [u], rfl, u, [], rfl, rfl, w2 _ F2 _ (oB.step s4)⟩
end
end FL

/-! FL39: min(x, default=d), x a list of data -/
namespace FL
open PySem PySem.Spec PyProof.Rows L2
section
variable {prog : Program} {w : World} {A : Around} {E : Value → Shared → Prop} {s : Shared}
abbrev btD (xs : List PyData) : Nat → Nat → Bool := fun i j => PySem.W.dataLt (xs.getD i .none) (xs.getD j .none)
theorem min_at {l : Addr} {vs : Array Value} {xs : List PyData} {as : List Addr} {d : Value} {Q : Value → Shared → Prop} (hh : A.handled = none) (hl : s.heap.IsList l vs) (hr : ReadsAll s.heap vs.toList xs as) (ha : PySem.W.AlikeAll xs) (hu : A.units + 1 + PyData.depthAll xs < cLine)
    (h0 : xs = [] → ∀ h' tk, (∀ b o, s.heap.get? b = some o → h'.get? b = some o) → Q d { s with heap := h', toks := tk })
    (h : ∀ v h' tk, vs[argBest (btD xs) (xs.length - 1)]? = some v → (∀ b o, s.heap.get? b = some o → h'.get? b = some o) → Q v { s with heap := h', toks := tk }) :
    wpAny (model prog w) A (call (.builtin "min") [.ref l] [(Str.ofString "default", d)]) Q E s := by
  have hn : vs.size = xs.length := PySem.W.readsAll_len hr
  refine PySem.call_min_walkD (PySem.W.iter_listW (A := A.in1) hh hl fun s₂ e W st hfp hw hk => ?_)
  refine ⟨_, _, _, _, _, _, _, s.heap, btD xs, rfl, W, st, hfp, hw, hk, fun hz s' m => ?_, fun hp => ⟨PySem.W.cmpIn_lt (A := A.in1) hr ha (by show A.units + 1 + _ < _; exact hu), fun v s' hP m => ?_⟩⟩
  · obtain ⟨h', tk, rfl, hk'⟩ := PySem.W.moved_old e rfl m
    exact h0 (List.eq_nil_of_length_eq_zero (by omega)) h' tk hk'
  · obtain ⟨h', tk, rfl, hk'⟩ := PySem.W.moved_old e rfl m
    exact h v h' tk (by rw [← hn]; exact hP) hk'
abbrev btX (xs : List PyData) : Nat → Nat → Bool := fun i j => PySem.W.dataLt (xs.getD j .none) (xs.getD i .none)
theorem max_at {l : Addr} {vs : Array Value} {xs : List PyData} {as : List Addr} {d : Value} {Q : Value → Shared → Prop} (hh : A.handled = none) (hl : s.heap.IsList l vs) (hr : ReadsAll s.heap vs.toList xs as) (ha : PySem.W.AlikeAll xs) (hu : A.units + 1 + PyData.depthAll xs < cLine)
    (h0 : xs = [] → ∀ h' tk, (∀ b o, s.heap.get? b = some o → h'.get? b = some o) → Q d { s with heap := h', toks := tk })
    (h : ∀ v h' tk, vs[argBest (btX xs) (xs.length - 1)]? = some v → (∀ b o, s.heap.get? b = some o → h'.get? b = some o) → Q v { s with heap := h', toks := tk }) :
    wpAny (model prog w) A (call (.builtin "max") [.ref l] [(Str.ofString "default", d)]) Q E s := by
  have hn : vs.size = xs.length := PySem.W.readsAll_len hr
  refine PySem.call_max_walkD (PySem.W.iter_listW (A := A.in1) hh hl fun s₂ e W st hfp hw hk => ?_)
  refine ⟨_, _, _, _, _, _, _, s.heap, btX xs, rfl, W, st, hfp, hw, hk, fun hz s' m => ?_, fun hp => ⟨PySem.W.cmpIn_gt (A := A.in1) hr ha (by show A.units + 1 + _ < _; exact hu), fun v s' hP m => ?_⟩⟩
  · obtain ⟨h', tk, rfl, hk'⟩ := PySem.W.moved_old e rfl m
    exact h0 (List.eq_nil_of_length_eq_zero (by omega)) h' tk hk'
  · obtain ⟨h', tk, rfl, hk'⟩ := PySem.W.moved_old e rfl m
    exact h v h' tk (by rw [← hn]; exact hP) hk'
end
/-- alike data, none of it None -/
def minOk (xs : List D) : Bool := D.plains xs && (xs.all fun a => xs.all fun b => PySem.W.alike a.py b.py) && (xs.all fun a => match a with | .non => false | _ => true) && decide (PyData.depthAll (D.pys xs) ≤ 60)
def gMinD (ds : List D) (d : D) : M D := fun st => match ds with
  | [q] => (match asL q with
    | some xs => if minOk xs then (if xs.isEmpty then .ok d st else (match xs[argBest (btD (D.pys xs)) (xs.length - 1)]? with
      | some b => .ok b st
      | none => .stuck)) else .stuck
    | none => .stuck)
  | _ => .stuck
def mMinD (mr : Ev → M (List D)) (md : EM) : EM := fun Γ => do
  let ds ← mr Γ
  let d ← md Γ
  gMinD ds d
def gMaxD (ds : List D) (d : D) : M D := fun st => match ds with
  | [q] => (match asL q with
    | some xs => if minOk xs then (if xs.isEmpty then .ok d st else (match xs[argBest (btX (D.pys xs)) (xs.length - 1)]? with
      | some b => .ok b st
      | none => .stuck)) else .stuck
    | none => .stuck)
  | _ => .stuck
def mMaxD (mr : Ev → M (List D)) (md : EM) : EM := fun Γ => do
  let ds ← mr Γ
  let d ← md Γ
  gMaxD ds d
section
variable {X : Cx} {k : Kx} {E : XE} {a e : Expr} {mr : Ev → M (List D)} {md : EM} {pf pos kpos : Pos}
theorem py_non : ∀ {b : D}, (match b with | .non => false | _ => true) = true → b.plain = true → b.py ≠ .none := fun {b} h p => by
  cases b with
  | non => cases h
  | deal => simp [D.plain] at p
  | ins _ _ _ => simp [D.plain] at p
  | set _ => simp [D.plain] at p
  | dic _ _ => simp [D.plain] at p
  | dct _ _ => simp [D.plain] at p
  | _ => rw [D.py]; exact fun z => by cases z
theorem e_minD (hu : X.A.units + 80 < cLine) (calm : X.calm = true) (hg : Gl X "min") (hm : X.mg "min" = none) (ha : PA X [a] (tA k E mr)) (hd : PE X e (tM k E md)) (hK : k.K = X.K := by rfl)
    (he : backTo pos (starEach [a] X.env) = (false, eval a X.env) :: backTo pos (starEach [] X.env) := by rfl) (hpl : (backTo pos (starEach [a] X.env)).any (·.1) = false := by rfl) :
    PE X (.Call (.Name "min" pf) [a] [⟨some "default", e, kpos⟩] pos) (tM k E (mMinD mr md)) := by
  refine ⟨fun pins s σ H Q I ⟨F, Γ, st, ok, w⟩ => ?_⟩
  refine wpAny_Call_Name_kw (ld_blt I hg hm bmin ?_ (by decide) (by decide))
  refine PyProof.Rows.callWith_kw (thn (ha.run pos pins s σ H (fun vs H1 => tM k E md σ H1 fun u H2 => ∃ F2 st2 ds d, Ok k F2 H2 σ Γ st2 ∧ Reps k F2 vs ds ∧ Rep k F2 u d ∧ Wp k E σ F2 H2 (gMinD ds d st2) (qD k Q)) I (tA.then_ ok w fun vs ds F1 H1 st1 s1 ok1 r1 w1 => tM.then_ ok1 w1 fun u d F2 H2 st2 s2 ok2 r2 w2 => ⟨F2, st2, ds, d, ok2, r1.mono s2.ext, r2, w2⟩))
    fun us s1 ⟨vs, H1, I1, r1, q1⟩ => PyProof.Rows.kws_cons (thn (hd.run pins s1 σ H1 _ I1 q1) fun dv s2 ⟨u, H2, I2, rd, F2, st2, ds, d, ok2, rr, ru, w2⟩ => PyProof.Rows.kws_nil ?_)) he hpl (by rfl) (by rfl)
  unfold gMinD at w2
  split at w2
  · rename_i q
    cases eq : asL q with
    | none => simp only [eq] at w2; exact w2.elim
    | some xs =>
      simp only [eq] at w2
      split at w2
      · rename_i hok
        cases rr with
        | cons rh rt =>
          cases rt
          obtain ⟨l, ws, rfl, rs, sd⟩ := asL_use rh eq
          have hl := sd.now ok2
          have eu : us = [Value.ref l] := vals_ref1 r1
          subst eu
          obtain ⟨its, rv, pl, hz⟩ := I2.list (SqL.of hl)
          unfold minOk at hok
          simp only [Bool.and_eq_true, List.all_eq_true, decide_eq_true_eq] at hok
          obtain ⟨⟨⟨p1, p2⟩, p3⟩, p4⟩ := hok
          obtain ⟨as, hr⟩ := Dp.readsAll I2 (D.pys xs) ws its (hK ▸ rs.dp ok2.sub ok2.bsub p1) rv
          have pl1 : ∀ b ∈ xs, b.plain = true := by rw [D.plains_all, List.all_eq_true] at p1; exact p1
          have al : PySem.W.AlikeAll (D.pys xs) := by
            rw [D.pys_map]
            refine ⟨fun x hx y hy => ?_, fun x hx => ?_⟩
            · obtain ⟨b, hb, rfl⟩ := List.mem_map.mp hx
              obtain ⟨c, hc, rfl⟩ := List.mem_map.mp hy
              exact p2 b hb c hc
            · obtain ⟨b, hb, rfl⟩ := List.mem_map.mp hx
              exact py_non (p3 b hb) (pl1 b hb)
          have lx : (D.pys xs).length = xs.length := by rw [D.pys_map, List.length_map]
          refine min_at (vs := its.toArray) (I2.ok.hd calm) pl.isList (by simpa using hr) al (by omega) (fun e0 h' tk kp => ?_) fun v h' tk hv kp => ?_
          · have : xs.isEmpty = true := by
              cases xs with
              | nil => rfl
              | cons _ _ => rw [D.pys] at e0; cases e0
            rw [if_pos this] at w2
            exact ⟨u, H2, I2.kept (t' := tk) kp, rd, w2 F2 H2 ok2.refl u ru⟩
          · rw [lx] at hv
            have hv' : its[argBest (btD (D.pys xs)) (xs.length - 1)]? = some v := by simpa using hv
            have lt : argBest (btD (D.pys xs)) (xs.length - 1) < xs.length := by
              have h1 := (List.getElem?_eq_some_iff.mp hv').1
              rw [← rv.length, rs.length] at h1
              exact h1
            have ne : ¬ xs.isEmpty = true := by
              cases xs with
              | nil => simp at lt
              | cons _ _ => simp
            rw [if_neg ne, List.getElem?_eq_getElem lt] at w2
            obtain ⟨x, ex, rx⟩ := rs.getD (List.getElem?_eq_getElem lt)
            obtain ⟨v', ev, rv'⟩ := rv.get ex
            rw [hv'] at ev
            cases ev
            exact ⟨x, H2, I2.kept (t' := tk) kp, rv', w2 F2 H2 ok2.refl x rx⟩
      · exact w2.elim
  · exact w2.elim
theorem bmax : bootBuiltins "max" = some (.builtin "max") := by decide +kernel
theorem e_maxD (hu : X.A.units + 80 < cLine) (calm : X.calm = true) (hg : Gl X "max") (hm : X.mg "max" = none) (ha : PA X [a] (tA k E mr)) (hd : PE X e (tM k E md)) (hK : k.K = X.K := by rfl)
    (he : backTo pos (starEach [a] X.env) = (false, eval a X.env) :: backTo pos (starEach [] X.env) := by rfl) (hpl : (backTo pos (starEach [a] X.env)).any (·.1) = false := by rfl) :
    PE X (.Call (.Name "max" pf) [a] [⟨some "default", e, kpos⟩] pos) (tM k E (mMaxD mr md)) := by
  refine ⟨fun pins s σ H Q I ⟨F, Γ, st, ok, w⟩ => ?_⟩
  refine wpAny_Call_Name_kw (ld_blt I hg hm bmax ?_ (by decide) (by decide))
  refine PyProof.Rows.callWith_kw (thn (ha.run pos pins s σ H (fun vs H1 => tM k E md σ H1 fun u H2 => ∃ F2 st2 ds d, Ok k F2 H2 σ Γ st2 ∧ Reps k F2 vs ds ∧ Rep k F2 u d ∧ Wp k E σ F2 H2 (gMaxD ds d st2) (qD k Q)) I (tA.then_ ok w fun vs ds F1 H1 st1 s1 ok1 r1 w1 => tM.then_ ok1 w1 fun u d F2 H2 st2 s2 ok2 r2 w2 => ⟨F2, st2, ds, d, ok2, r1.mono s2.ext, r2, w2⟩))
    fun us s1 ⟨vs, H1, I1, r1, q1⟩ => PyProof.Rows.kws_cons (thn (hd.run pins s1 σ H1 _ I1 q1) fun dv s2 ⟨u, H2, I2, rd, F2, st2, ds, d, ok2, rr, ru, w2⟩ => PyProof.Rows.kws_nil ?_)) he hpl (by rfl) (by rfl)
  unfold gMaxD at w2
  split at w2
  · rename_i q
    cases eq : asL q with
    | none => simp only [eq] at w2; exact w2.elim
    | some xs =>
      simp only [eq] at w2
      split at w2
      · rename_i hok
        cases rr with
        | cons rh rt =>
          cases rt
          obtain ⟨l, ws, rfl, rs, sd⟩ := asL_use rh eq
          have hl := sd.now ok2
          have eu : us = [Value.ref l] := vals_ref1 r1
          subst eu
          obtain ⟨its, rv, pl, hz⟩ := I2.list (SqL.of hl)
          unfold minOk at hok
          simp only [Bool.and_eq_true, List.all_eq_true, decide_eq_true_eq] at hok
          obtain ⟨⟨⟨p1, p2⟩, p3⟩, p4⟩ := hok
          obtain ⟨as, hr⟩ := Dp.readsAll I2 (D.pys xs) ws its (hK ▸ rs.dp ok2.sub ok2.bsub p1) rv
          have pl1 : ∀ b ∈ xs, b.plain = true := by rw [D.plains_all, List.all_eq_true] at p1; exact p1
          have al : PySem.W.AlikeAll (D.pys xs) := by
            rw [D.pys_map]
            refine ⟨fun x hx y hy => ?_, fun x hx => ?_⟩
            · obtain ⟨b, hb, rfl⟩ := List.mem_map.mp hx
              obtain ⟨c, hc, rfl⟩ := List.mem_map.mp hy
              exact p2 b hb c hc
            · obtain ⟨b, hb, rfl⟩ := List.mem_map.mp hx
              exact py_non (p3 b hb) (pl1 b hb)
          have lx : (D.pys xs).length = xs.length := by rw [D.pys_map, List.length_map]
          refine max_at (vs := its.toArray) (I2.ok.hd calm) pl.isList (by simpa using hr) al (by omega) (fun e0 h' tk kp => ?_) fun v h' tk hv kp => ?_
          · have : xs.isEmpty = true := by
              cases xs with
              | nil => rfl
              | cons _ _ => rw [D.pys] at e0; cases e0
            rw [if_pos this] at w2
            exact ⟨u, H2, I2.kept (t' := tk) kp, rd, w2 F2 H2 ok2.refl u ru⟩
          · rw [lx] at hv
            have hv' : its[argBest (btX (D.pys xs)) (xs.length - 1)]? = some v := by simpa using hv
            have lt : argBest (btX (D.pys xs)) (xs.length - 1) < xs.length := by
              have h1 := (List.getElem?_eq_some_iff.mp hv').1
              rw [← rv.length, rs.length] at h1
              exact h1
            have ne : ¬ xs.isEmpty = true := by
              cases xs with
              | nil => simp at lt
              | cons _ _ => simp
            rw [if_neg ne, List.getElem?_eq_getElem lt] at w2
            obtain ⟨x, ex, rx⟩ := rs.getD (List.getElem?_eq_getElem lt)
            obtain ⟨v', ev, rv'⟩ := rv.get ex
            rw [hv'] at ev
            cases ev
            exact ⟨x, H2, I2.kept (t' := tk) kp, rv', w2 F2 H2 ok2.refl x rx⟩
      · exact w2.elim
  · exact w2.elim
end
end FL

/-! FL40: while; x = y.pop() -/
namespace FL
open PySem PySem.Spec PyProof.Rows L2
section
variable {X : Cx} {k : Kx} {E : XE} {c : Expr} {body : List Stmt} {pos : Pos} {t : Ev → M Bool} {mb : SM}
/-- at most n turns -/
def whileS (t : Ev → M Bool) (mb : SM) : Nat → SM
  | 0, _ => halt
  | n + 1, Γ => sE (t Γ) Γ fun c => if c then (do
      let r ← mb Γ
      kLoop (whileS t mb n) r) else pure (.nx Γ)
theorem s_while (n : Nat) (hp : PassesOwn (model X.prog X.w) X.A X.env X.xe) (hc : PT X c (tT k E t)) (hb : PSs X body (tS k E mb)) : PS X (.While c body [] pos) (tS k E (whileS t mb n)) := by
  refine PS.weak (ps_while hp hc hb) fun D0 σ H ⟨G, H0, P, F, Γ, st, ok, w⟩ => ?_
  refine ⟨fun m σ H => ∃ F Γ st, OkS k G H0 P F H σ Γ st ∧ WpS k E G H0 P (whileS t mb m Γ st) D0, ⟨n, F, Γ, st, ok, w⟩, ?_⟩
  rintro m σ H ⟨F2, Γ2, st2, ok2, w2⟩
  cases m with
  | zero => exact w2.elim
  | succ m =>
    unfold whileS at w2
    refine tT.inS ok2 w2 fun b F1 H1 st1 s ok1 w1 => ?_
    cases b with
    | false => exact iteF (w1 σ F1 H1 ok1)
    | true =>
      refine iteT ⟨fun σ' H' => ∃ F Γ st, OkS k G H0 P F H' σ' Γ st ∧ WpS k E G H0 P (whileS t mb m Γ st) D0, fun σ' H' q => ⟨m, Nat.lt_succ_self m, q⟩, G, H0, P, F1, Γ2, st1, ok1, ?_⟩
      have w1 : WpS k E G H0 P ((mb Γ2 st1).bind (kLoop (whileS t mb m))) D0 := w1
      revert w1
      cases mb Γ2 st1 with
      | ok r5 st5 =>
        cases r5 with
        | nx Γ5 => exact fun w1 σ' F' H' ok' => ⟨F', Γ5, st5, ok', w1⟩
        | ct Γ5 => exact fun w1 σ' F' H' ok' => ⟨F', Γ5, st5, ok', w1⟩
        | bk Γ5 => exact fun w1 σ' F' H' ok' => w1 σ' F' H' ok'
        | rt d => exact fun w1 => w1
        | xc C fs Γ5 => exact fun w1 => w1
      | err C fs st' => exact fun w1 => w1.elim
      | stuck => exact fun w1 => w1.elim
/-! ### x = y.pop() -/
def mSetPop (i j : Nat) : SM := fun Γ => match gOwn j Γ with
  | some ys => (match ys.getLast? with
    | some d => if decide (i ≠ j) then pure (.nx ((Γ.set j (some (.own (OD.ls ys.dropLast)))).set i (some (.dat d)))) else halt
    | none => halt)
  | none => halt
theorem s_setPop (i j : Nat) {x y : Str} {py p' apos cpos : Pos} (hN : X.N.Nodup) (hi : X.N[i]? = some x := by rfl) (hj : X.N[j]? = some y := by rfl) (hx : Loc X.env.scope x := by first | exact Or.inl rfl | exact Or.inr rfl) (hf : X.fn x = true ∨ X.env.scope.names.lookup x = some .local := by first | exact .inl rfl | exact .inr rfl | assumption)
    (hv : Vis X.env.scope y := by first | exact Or.inl rfl | exact Or.inr (Or.inl rfl) | exact Or.inr (Or.inr rfl)) (hd : (y == ("__debug__" : Str)) = false := by decide) (hcd : (y == ("__classdict__" : Str)) = false := by decide)
    (hbase : attributeBase (.Name y py) "pop" X.env (eval (.Name y py) X.env) = eval (.Name y py) X.env := by rfl) (hline : (apos.endLine == cpos.line) = true := by rfl)
    (hs : swapsWith (.Call (.Attribute (.Name y py) "pop" apos) [] [] cpos) (some (.Name x p')) pos.line X.env = pure false := by rfl) :
    PS X (.Assign [.Name x p'] (.Call (.Attribute (.Name y py) "pop" apos) [] [] cpos) pos) (tS k E (mSetPop i j)) :=
  PS.weak (ps_set hN hi hx (pe_bm0 PySem.F.plainAttrs_list PySem.F.slot_list_pop PySem.F.type_list_pop mt_pop (pv j hj hv hd hcd) hbase hline) hs hf) fun D σ H ⟨G, H0, P, F, Γ, st, ok, w⟩ => by
    unfold mSetPop at w
    cases e2 : gOwn j Γ with
    | none => rw [e2] at w; exact w.elim
    | some ys =>
      rw [e2] at w
      obtain ⟨_, f2, b, _, rfl, hb, _, _, _, us, rfl, rb⟩ := ok.ok.slot j _ (gOwn_use e2)
      cases el : ys.getLast? with
      | none => simp only [el] at w; exact w.elim
      | some d =>
        simp only [el] at w
        split at w
        · rename_i hz
          have hij : i ≠ j := of_decide_eq_true hz
          have ed : ys[ys.length - 1]? = some d := by rw [← List.getLast?_eq_getElem?]; exact el
          obtain ⟨v, ev, rv⟩ := rb.getD ed
          have rd : Reps k F us.dropLast ys.dropLast := by
            rw [List.dropLast_eq_take, List.dropLast_eq_take, rb.length]
            exact rb.take _
          have okB := ok.mut (gOwn_use e2) f2 (ob := .lst us.dropLast) (ys := .ls ys.dropLast) ⟨_, rfl, rd⟩
          refine ⟨.ref b, f2, .inl ⟨rfl, _, SqL.of hb⟩, b, us, v, rfl, rfl, hb, by rw [rb.length]; exact ev, ?_⟩
          exact w _ F _ (okB.upd (Upd.set okB.ok.len rv))
        · exact w.elim
end
end FL

/-! FL41: a module's text -/
namespace FL
open PySem PySem.Spec PyProof.Rows L2
section
variable {X : Cx} {k : Kx} {E : XE} {pos : Pos}
theorem e_kstr {x : Str} {y : Str} (hg : Gl X x) (h : ∃ t, X.mg x = some (.str y t)) (hd : (x == ("__debug__" : Str)) = false := by decide) : PE X (.Name x pos) (tM k E (mC (.str y))) := by
  obtain ⟨t, h⟩ := h
  exact PE.weak (pe_glob (v := .str y) hg h ⟨t, rfl⟩ hd) fun σ H Q ⟨F, Γ, st, ok, w⟩ => w F H ok.refl _ (.str y)
theorem e_kint {x : Str} {i : Int} (hg : Gl X x) (h : ∃ t, X.mg x = some (.int i t)) (hd : (x == ("__debug__" : Str)) = false := by decide) : PE X (.Name x pos) (tM k E (mC (.int i))) := by
  obtain ⟨t, h⟩ := h
  exact PE.weak (pe_glob (v := .int i) hg h ⟨t, rfl⟩ hd) fun σ H Q ⟨F, Γ, st, ok, w⟩ => w F H ok.refl _ (.int i)
end
end FL

/-! FL42: a + b as a list of one's own, with lists that are lent -/
namespace FL
open PySem PySem.Spec PyProof.Rows L2
section
variable {X : Cx} {k : Kx} {E : XE} {a b e : Expr} {ma mb : EM} {pos : Pos}
def gCatO (d e : D) : M (List D) := fun st => match asL d, asL e with
  | some xs, some ys => if decide (xs.length + ys.length ≤ sizeLine) then .ok (xs ++ ys) st else .stuck
  | _, _ => .stuck
def mCatO (ma mb : EM) : Ev → M (List D) := fun Γ => do
  let d ← ma Γ
  let e ← mb Γ
  gCatO d e
theorem o_cat (ha : PE X a (tM k E ma)) (hb : PE X b (tM k E mb)) : PE X (.BinOp a .Add b pos) (tO k E (mCatO ma mb)) :=
  PE.weak (pe_op op_cat ha hb) fun σ H Q ⟨F, Γ, st, ok, w⟩ => tM.then_ ok w fun v d F1 H1 st1 s1 ok1 r1 w1 => tM.then_ ok1 w1 fun u e F2 H2 st2 s2 ok2 r2 w2 => by
    unfold gCatO at w2
    cases e1 : asL d with
    | none => simp only [e1] at w2; exact w2.elim
    | some xs =>
      cases e2 : asL e with
      | none => simp only [e1, e2] at w2; exact w2.elim
      | some ys =>
        simp only [e1, e2] at w2
        split at w2
        · rename_i hz
          obtain ⟨p, vs, rfl, rs, sp⟩ := asL_use r1 e1
          obtain ⟨q, us, rfl, rt, sq⟩ := asL_use r2 e2
          have hp : H2 p = some (.lst vs) := sp F2 H2 s2.ext ok2.sub ok2.bsub
          have hq := sq.now ok2
          refine ⟨p, q, vs, us, rfl, rfl, hp, hq, by rw [rs.length, rt.length]; exact of_decide_eq_true hz, fun n np => ?_⟩
          exact w2 F2 _ (ok2.new' np) n _ upd_same (ok2.fnone np) (s1.back (s2.back np)) ((rs.mono s2.ext).append rt)
        · exact w2.elim
end
section
variable {X : Cx} {K : PySem.W.Frag} {on : Bool} {dl cl : Addr} {B : Hp} {T : List (Addr × Str)} {Pg : Program} {wd : World} {E : XE} {e : Expr}
def mBorO (i : Nat) (m : Ev → M (List D)) : Ev → M (List D) := fun Γ => match gOwn i Γ with
  | some xs => (do
    let d ← nxM (m (Γ.set i (some (.dat (.bor xs)))))
    if noBors d then pure d else halt)
  | none => m Γ
theorem o_bor (i : Nat) {m : Ev → M (List D)} (h : ∀ B, PE X e (tO ⟨K, on, dl, cl, B, T, Pg, wd⟩ E m)) : PE X e (tO ⟨K, on, dl, cl, B, T, Pg, wd⟩ E (mBorO i m)) := ⟨fun pins s σ H Q I ⟨F, Γ, st, ok, w⟩ => by
  unfold mBorO at w
  cases eg : gOwn i Γ with
  | some xs =>
    rw [eg] at w
    obtain ⟨B', sB, ok'⟩ := ok.lend (gOwn_use eg)
    have w : Wp ⟨K, on, dl, cl, B, T, Pg, wd⟩ E σ F H ((nxM (m (Γ.set i (some (.dat (.bor xs))))) st).bind fun d => (if noBors d = true then pure d else halt : M (List D))) (fun xs F' H' _ => ∀ a vs, H' a = some (.lst vs) → F' a = none → H a = none → Reps ⟨K, on, dl, cl, B, T, Pg, wd⟩ F' vs xs → Q (.ref a) H') := w
    obtain ⟨d, st', em, w'⟩ := Wp.nx_ok w
    refine (h B').run pins s σ H Q I ⟨F, _, st, ok', ?_⟩
    rw [em]
    intro F' H' s' a vs h1 f1 h0 r
    split at w'
    · rename_i nb
      exact w' F' H' s'.anyB a vs h1 f1 h0 (r.noB nb)
    · exact w'.elim
  | none =>
    rw [eg] at w
    exact (h B).run pins s σ H Q I ⟨F, Γ, st, ok, w⟩⟩
end
section
variable {X : Cx} {k : Kx} {E : XE} {e : Expr} {pos : Pos}
def mExt (i : Nat) (me : EM) : SM := fun Γ => match gOwn i Γ with
  | some xs => sE (me Γ) Γ fun d => match asL d with
    | some ys => if decide (xs.length + ys.length ≤ sizeLine) then pure (.nx (Γ.set i (some (.own (OD.ls (xs ++ ys)))))) else halt
    | none => halt
  | none => halt
theorem s_ext (i : Nat) {x : Str} {px apos cpos : Pos} {me : EM} (he : PE X e (tM k E me)) (hN : X.N[i]? = some x := by rfl) (hv : Vis X.env.scope x := by first | exact Or.inl rfl | exact Or.inr (Or.inl rfl) | exact Or.inr (Or.inr rfl)) (hd : (x == ("__debug__" : Str)) = false := by decide) (hcd : (x == ("__classdict__" : Str)) = false := by decide)
    (hbase : attributeBase (.Name x px) "extend" X.env (eval (.Name x px) X.env) = eval (.Name x px) X.env := by rfl)
    (hfew : ((backTo cpos (starEach [e] X.env)).all (fun x => !x.1) && (backToKw cpos (keywordEach [] X.env)).all (fun x => x.1.isSome)
      && decide ([e].length + ([] : List Keyword).length + (if ([] : List Keyword).isEmpty then 0 else 1) < 30)) = true := by rfl)
    (hline : (apos.endLine == cpos.line) = true := by rfl) (hs : starEach [e] X.env = (false, eval e X.env) :: starEach [] X.env := by rfl) (hplain : (backTo cpos (starEach [] X.env)).any (·.1) = false := by rfl)
    (hsw : swapsWith (.Call (.Attribute (.Name x px) "extend" apos) [e] [] cpos) none pos.line X.env = pure false := by rfl) : PS X (.Expr (.Call (.Attribute (.Name x px) "extend" apos) [e] [] cpos) pos) (tS k E (mExt i me)) :=
  PS.weak (ps_expr (pe_bm PySem.F.plainAttrs_list PySem.F.slot_list_extend PySem.F.type_list_extend mt_extend (pv i hN hv hd hcd) (pa_cons he pa_nil hs) hbase hfew hline hs hplain) hsw) fun D σ H ⟨G, H0, P, F, Γ, st, ok, w⟩ => by
    unfold mExt at w
    cases eg : gOwn i Γ with
    | none => rw [eg] at w; exact w.elim
    | some xs =>
      rw [eg] at w
      obtain ⟨_, e2, a, _, rfl, ha, _, _, _, vs, rfl, _⟩ := ok.ok.slot i _ (gOwn_use eg)
      refine ⟨.ref a, e2, .inl ⟨rfl, _, SqL.of ha⟩, tM.inS ok w fun v d F1 H1 st1 s1 ok1 r1 w1 => ?_⟩
      obtain ⟨_, e2', a', _, e3, ha', _, _, _, vs', rfl, rr⟩ := ok1.ok.slot i _ (gOwn_use eg)
      rw [e2] at e2'
      cases e2'
      cases e3
      cases el : asL d with
      | none => simp only [el] at w1; exact w1.elim
      | some ys =>
        simp only [el] at w1
        split at w1
        · rename_i hz
          obtain ⟨q, us, rfl, rt, sq⟩ := asL_use r1 el
          refine ⟨a, q, vs', us, rfl, rfl, ha', sq.now ok1.ok, by rw [rr.length, rt.length]; exact of_decide_eq_true hz, ?_⟩
          exact w1 σ F1 _ (ok1.mut (gOwn_use eg) e2 (ob := .lst (vs' ++ us)) (ys := .ls (xs ++ ys)) ⟨_, rfl, rr.append rt⟩)
        · exact w1.elim
end
end FL

/-! FL43: 'x'.join(list of texts) -/
namespace FL
open PySem PySem.Spec PyProof.Rows L2
section
variable {X : Cx} {k : Kx} {E : XE} {o e : Expr} {mo me : EM} {pos : Pos}
def gJoin (a : Str) : D → M D := fun e st => match (asL e).bind strsD with
  | some ys => if decide ((ys.map (·.length)).sum + ys.length * a.length ≤ 16777216) then .ok (.str (Txt.join a ys)) st else .stuck
  | none => .stuck
def mJoin (mo me : EM) : EM := fun Γ => do
  let d ← mo Γ
  match d with
  | .str a => (do
    let e ← me Γ
    gJoin a e)
  | _ => halt
theorem e_join {apos cpos : Pos} (ho : PE X o (tM k E mo)) (he : PE X e (tM k E me)) (hbase : attributeBase o "join" X.env (eval o X.env) = eval o X.env := by rfl)
    (hfew : ((backTo cpos (starEach [e] X.env)).all (fun x => !x.1) && (backToKw cpos (keywordEach [] X.env)).all (fun x => x.1.isSome)
      && decide ([e].length + ([] : List Keyword).length + (if ([] : List Keyword).isEmpty then 0 else 1) < 30)) = true := by rfl)
    (hline : (apos.endLine == cpos.line) = true := by rfl) (hs : starEach [e] X.env = (false, eval e X.env) :: starEach [] X.env := by rfl) (hplain : (backTo cpos (starEach [] X.env)).any (·.1) = false := by rfl) :
    PE X (.Call (.Attribute o "join" apos) [e] [] cpos) (tM k E (mJoin mo me)) :=
  PE.weak (pe_bm PySem.F.plainAttrs_str PySem.F.slot_str_join PySem.F.type_str_join mt_join ho (pa_cons he pa_nil hs) hbase hfew hline hs hplain) fun σ H Q ⟨F, Γ, st, ok, w⟩ => by
    refine tM.then_ ok w fun v d F1 H1 st1 s1 ok1 r1 w1 => ?_
    split at w1
    · rename_i a
      cases r1
      refine ⟨rfl, ?_⟩
      have w1 : Wp k E σ F1 H1 ((me Γ >>= gJoin a) st1) (qD k Q) := w1
      refine tM.then_ ok1 w1 fun u e F2 H2 st2 s2 ok2 r2 w2 => ?_
      unfold gJoin at w2
      cases el : asL e with
      | none => simp only [el] at w2; exact w2.elim
      | some xs =>
        cases es : strsD xs with
        | none => simp only [el, Option.bind_some, es] at w2; exact w2.elim
        | some ys =>
          simp only [el, Option.bind_some, es] at w2
          split at w2
          · rename_i hz
            obtain ⟨q, us, rfl, rt, sq⟩ := asL_use r2 el
            have eu := rt.strs es
            subst eu
            exact ⟨a, q, ys, rfl, rfl, .inl (SqL.of (sq.now ok2)), of_decide_eq_true hz, w2 F2 H2 ok2.refl _ (.str _)⟩
          · exact w2.elim
    · exact w1.elim
end
end FL

/-! FL44: a < b < c -/
namespace FL
open PySem PySem.Spec PyProof.Rows L2
section
variable {X : Cx} {k : Kx} {E : XE} {a b c : Expr} {ma mb mc : EM} {pos : Pos}
def kChain (g' : M2) (Γ : Ev) (mc : EM) (e : D) : D → M D := fun q => match q with
  | .bl true => (do
    let f ← mc Γ
    g' e f)
  | .bl false => pure (.bl false)
  | _ => halt
def mChain (g g' : M2) (ma mb mc : EM) : EM := fun Γ => do
  let d ← ma Γ
  let e ← mb Γ
  let q ← g d e
  kChain g' Γ mc e q
theorem e_chain {op op' : CmpOp} {g g' : M2} (ho : OpS X k (compareOp op) g) (ho' : OpS X k (compareOp op') g') (ha : PE X a (tM k E ma)) (hb : PE X b (tM k E mb)) (hc : PE X c (tM k E mc)) (hm : lastMarks [op, op'] [b, c] = false := by with_unfolding_all rfl) :
    PE X (.Compare a [op, op'] [b, c] pos) (tM k E (mChain g g' ma mb mc)) := by
  obtain ⟨r, h1, h2⟩ := ho
  obtain ⟨r', h1', h2'⟩ := ho'
  refine PE.weak (pe_chain h1 h1' ha hb hc hm) fun σ H Q ⟨F, Γ, st, ok, w⟩ => ?_
  refine tM.then_ ok w fun v d F1 H1 st1 s1 ok1 r1 w1 => tM.then_ ok1 w1 fun u e F2 H2 st2 s2 ok2 r2 w2 => ?_
  refine h2 (E := E) (σ := σ) (Γ := Γ) ok2 (r1.mono s2.ext) r2 ((Wp.bind (f := kChain g' Γ mc e) ok2 w2).mono fun q F3 H3 st3 s3 w3 z rz => ?_)
  have ok3 := ok2.step s3
  unfold kChain at w3
  split at w3
  · cases rz
    refine ⟨true, rfl, iteT ?_⟩
    exact tM.then_ ok3 w3 fun t f F4 H4 st4 s4 ok4 r4 w4 => h2' ok4 ((r2.mono s3.ext).mono s4.ext) r4 w4
  · cases rz
    exact ⟨false, rfl, iteF (w3 F3 H3 ok3.refl _ (.bl false))⟩
  · exact w3.elim
end
end FL

/-! FL45: sets of keys as data; what is in a tuple, a set, a text -/
namespace FL
open PySem PySem.Spec PyProof.Rows L2
def tupL : D → Option (List D)
  | .tup xs => some xs
  | .ltp xs => some xs
  | _ => none
def seqL (d : D) : Option (List D) := match asL d with
  | some xs => some xs
  | none => tupL d
def keysD : List D → Option (List Key)
  | [] => some []
  | d :: ds => match keyD d, keysD ds with
    | some k, some ks => some (k :: ks)
    | _, _ => none
def memK (k : Key) (ks : List Key) : Bool := ks.any fun j => decide (j = k)
def nubK : List Key → List Key
  | [] => []
  | k :: ks => if memK k (nubK ks) then nubK ks else k :: nubK ks
theorem nubK_mem : ∀ {ks : List Key} {j : Key}, j ∈ nubK ks ↔ j ∈ ks
  | [], j => Iff.rfl
  | k :: ks, j => by
    unfold nubK
    split
    · rename_i h
      rw [nubK_mem, List.mem_cons]
      refine ⟨.inr, fun z => z.elim (fun e => ?_) id⟩
      rw [e]; exact nubK_mem.mp (any_eq_mem.mp h)
    · rw [List.mem_cons, List.mem_cons, nubK_mem]
theorem nubK_nodup : ∀ ks : List Key, (nubK ks).Nodup
  | [] => List.nodup_nil
  | k :: ks => by
    unfold nubK
    split
    · exact nubK_nodup ks
    · rename_i h
      exact List.nodup_cons.mpr ⟨fun z => h (any_eq_mem.mpr z), nubK_nodup ks⟩
theorem kD_key (k : Key) : keyD (kD k) = some k := by cases k <;> rfl
theorem keyD_kD {d : D} {k : Key} (h : keyD d = some k) : d = kD k := by
  cases d <;> first | (cases h; rfl) | cases h
theorem keysD_map : ∀ {ds : List D} {ks : List Key}, keysD ds = some ks → ds = ks.map kD
  | [], ks, h => by cases h; rfl
  | d :: ds, ks, h => by
    unfold keysD at h
    split at h
    · rename_i k ks' h1 h2
      cases h
      rw [List.map_cons, keyD_kD h1, keysD_map h2]
    · cases h
section
variable {k : Kx} {F : Hp} {X : Cx} {E : XE}
theorem rep_kD {v : V} {z : Key} (r : Rep k F v (kD z)) : v = kV z := by
  cases z with
  | inl i => cases r; rfl
  | inr x => cases r; rfl
theorem reps_kD : ∀ {vs : List V} {ks : List Key}, Reps k F vs (ks.map kD) → vs = ks.map kV
  | _, [], .nil => rfl
  | _, z :: ks, .cons h t => by rw [List.map_cons, rep_kD h, reps_kD t]
theorem rep_of_kV (z : Key) : Rep k F (kV z) (kD z) := by
  cases z with
  | inl i => exact .int i
  | inr x => exact .str x
theorem reps_of_kV : ∀ ks : List Key, Reps k F (ks.map kV) (ks.map kD)
  | [] => .nil
  | z :: ks => .cons (rep_of_kV z) (reps_of_kV ks)
/-! ### set(xs) -/
def rSetK (X : Cx) : List V → Hp → VK → Prop := fun vs H Q => ∃ (a : Addr) (ks : List Key), vs = [.ref a] ∧ (SqL X.K H a (ks.map kV) ∨ SqT X.K H a (ks.map kV)) ∧ ks.length < 4000 ∧
  ∀ p φ, H p = none → (∀ hh, φ hh → SetKM X.prog X.w hh p ks) → Q (.ref p) (upd H p (.ext φ))
theorem setKM_at {P : Program} {w : World} {h h' : Heap} {a : Addr} {ks : List Key} (R : SetKM P w h a ks) (kp : ∀ o, h.get? a = some o → h'.get? a = some o) : SetKM P w h' a ks := let ⟨ks', r, m⟩ := R; ⟨ks', r.at_ kp, m⟩
theorem setKM_ob {P : Program} {w : World} {h : Heap} {a : Addr} {ks : List Key} (R : SetKM P w h a ks) : ∃ o, h.get? a = some o := let ⟨_, ⟨o, _, _, _, ho, _⟩, _⟩ := R; ⟨o, ho⟩
theorem cr_setK (hc : X.calm = true) : CallR X (.type "set") (rSetK X) := by
  intro pins s σ H vs us Q I r h
  obtain ⟨a, ks, rfl, src, few, q⟩ := h
  rw [vals_ref1 r]
  have go : ∀ its : List Value, Vals (ks.map kV) its → (s.heap.IsList a its.toArray ∨ s.heap.IsTuple a its.toArray) → wpAny (model X.prog X.w) X.A (call (.type "set") [.ref a]) (EP X pins σ Q) X.xe s := by
    intro its rv sq
    have sz : its.toArray.size = ks.length := by rw [List.size_toArray, ← rv.length, List.length_map]
    refine k1_of_seq (ks := ks) (I.ok.hd hc) sq (fun i v hv => ?_) sz (by unfold scanBound; omega) fun h' tk ks' R m kp => ?_
    · have hi : i < ks.length := by rw [← sz]; exact (Array.getElem?_eq_some_iff.mp hv).1
      obtain ⟨u, e1, r1⟩ := rv.get (i := i) (x := kV ks[i]) (by rw [List.getElem?_map, List.getElem?_eq_getElem hi]; rfl)
      have e2 : its[i]? = some v := by simpa using hv
      rw [e1] at e2
      cases e2
      exact ⟨ks[i], List.getElem?_eq_getElem hi, kV_is r1⟩
    · have hn : H s.heap.objs.size = none := I.hok.fresh (Nat.le_refl _)
      have RM : SetKM X.prog X.w h' s.heap.objs.size ks := ⟨ks', R, m⟩
      refine ⟨.ref s.heap.objs.size, upd H s.heap.objs.size (.ext fun hh => SetKM X.prog X.w hh s.heap.objs.size ks), I.laid (t' := tk) kp (Nat.le_refl _) ?_, rfl, q _ _ hn fun _ z => z⟩
      exact ⟨RM, setKM_ob RM, fun h1 h2 z kp2 => setKM_at z kp2⟩
  rcases src with sq | sq
  · obtain ⟨its, rv, pl, _⟩ := I.list sq
    exact go its rv (.inl pl.isList)
  · obtain ⟨its, rv, pl, _⟩ := I.tuple sq
    exact go its rv (.inr pl)
def gSet : List D → M D := fun ds st => match ds with
  | [d] => (match seqL d with
    | some xs => (match keysD xs with
      | some ks => if ks.length < 4000 then .ok (.set xs) st else .stuck
      | none => .stuck)
    | none => .stuck)
  | _ => .stuck
theorem seq_use {F H : Hp} {σ : L2.St} {Γ : Ev} {st : DS} {v : V} {d : D} {xs : List D} (ok : Ok k F H σ Γ st) (r : Rep k F v d) (e : seqL d = some xs) : ∃ a vs, v = .ref a ∧ Reps k F vs xs ∧ (SqL k.K H a vs ∨ SqT k.K H a vs) := by
  cases r with
  | tup h rs _ => cases e; exact ⟨_, _, rfl, rs, .inr (sqt_mono ok.sub h)⟩
  | ltp h rs => cases e; exact ⟨_, _, rfl, rs, .inr (sqt_mono ok.sub h)⟩
  | lst h rs => cases e; exact ⟨_, _, rfl, rs, .inl (SqL.of (ok.sub _ _ h))⟩
  | bor h rs => cases e; exact ⟨_, _, rfl, rs, .inl (SqL.of (ok.bsub _ _ h))⟩
  | _ => cases e
theorem c_set (hc : X.calm = true := by rfl) (hk : k.K = X.K ∧ k.P = X.prog ∧ k.w = X.w := by exact ⟨rfl, rfl, rfl⟩) : CallS X k (.type "set") gSet :=
  ⟨_, cr_setK hc, fun {E σ F H Γ st vs ds Q} ok r w => by
    obtain ⟨hK, hP, hw⟩ := hk
    unfold gSet at w
    split at w
    · split at w
      · rename_i d xs ex
        split at w
        · rename_i ks ek
          split at w
          · rename_i few
            match vs, r with
            | [_], .cons rh .nil =>
              obtain ⟨a, ws, e, rs, sq⟩ := seq_use ok rh ex
              subst e
              have em := keysD_map ek
              subst em
              have ew := reps_kD rs
              subst ew
              rw [hK] at sq
              refine ⟨a, ks, rfl, sq, few, fun p φ np hp => ?_⟩
              exact w _ _ (ok.new (ob := .ext φ) np) _ (.setK upd_same (by rw [hP, hw]; exact hp))
          · exact w.elim
        · exact w.elim
      · exact w.elim
    · exact w.elim⟩
/-! ### x in y -/
def rInA (X : Cx) (neg : Bool) : V → V → Hp → VK → Prop := fun x y H Q =>
  (∃ d ds, Dp X.K H x d ∧ Dp X.K H y (.tuple ds) ∧ SeqAt.shaped d = true ∧ SeqAt.shaped (.tuple ds) = true ∧ Q (.bl (neg != ds.any fun z => PyData.eqv z d)) H) ∨
  (∃ (z : Key) (a : Addr) (φ : Heap → Prop) (ks : List Key), x = kV z ∧ y = .ref a ∧ H a = some (.ext φ) ∧ (∀ hh, φ hh → SetKM X.prog X.w hh a ks) ∧ Q (.bl (neg != memK z ks)) H) ∨
  (∃ (c : Nat) (z : Str), x = .str ⟨#[c]⟩ ∧ y = .str z ∧ Q (.bl (neg != decide (c ∈ z.cps.toList))) H)
theorem mem_any {ks ks' : List Key} (m : ∀ j, j ∈ ks' ↔ j ∈ ks) (z : Key) : (ks'.any fun j => decide (j = z)) = memK z ks := by
  unfold memK
  rw [Bool.eq_iff_iff, any_eq_mem, any_eq_mem]
  exact m z
theorem op_inA (hu : X.A.units + 65 < cLine) : OpR X (compareOp .In) (rInA X false) := by
  intro pins s σ H x y v u Q I rx ry h
  rcases h with ⟨d, ds, hd, he, sd, se, q⟩ | ⟨z, a, φ, ks, rfl, rfl, ha, hp, q⟩ | ⟨c, z, rfl, rfl, q⟩
  · obtain ⟨as, r1⟩ := Dp.reads I d x v hd rx
    obtain ⟨bs, r2⟩ := Dp.reads I (.tuple ds) y u he ry
    exact SeqAt.in_tuple_reads r2 r1 (SeqAt.canLay_of_shaped se) (SeqAt.canLay_of_shaped sd) (room_in_shaped sd hu) ⟨.bl _, H, I, rfl, by simpa using q⟩
  · cases ry
    obtain ⟨ks', R, m⟩ := hp _ (I.hok a _ ha).1
    exact wpAny_inSet_of (kV_is rx) (kind_scan (kV_is (P := X.prog) (w := X.w) rx)) R.setOf ⟨.bl _, H, I.tok _, rfl, by rw [mem_any m]; simpa using q⟩
  · exact op_in_sign pins s σ H _ _ v u Q I rx ry ⟨c, z, rfl, rfl, by simpa using q⟩
theorem op_notInA (hu : X.A.units + 65 < cLine) : OpR X (compareOp .NotIn) (rInA X true) := by
  intro pins s σ H x y v u Q I rx ry h
  rcases h with ⟨d, ds, hd, he, sd, se, q⟩ | ⟨z, a, φ, ks, rfl, rfl, ha, hp, q⟩ | ⟨c, z, rfl, rfl, q⟩
  · obtain ⟨as, r1⟩ := Dp.reads I d x v hd rx
    obtain ⟨bs, r2⟩ := Dp.reads I (.tuple ds) y u he ry
    exact SeqAt.notIn_tuple_reads r2 r1 (SeqAt.canLay_of_shaped se) (SeqAt.canLay_of_shaped sd) (room_in_shaped sd hu) ⟨.bl _, H, I, rfl, by simpa using q⟩
  · cases ry
    obtain ⟨ks', R, m⟩ := hp _ (I.hok a _ ha).1
    exact wpAny_notInSet_of (kV_is rx) (kind_scan (kV_is (P := X.prog) (w := X.w) rx)) R.setOf ⟨.bl _, H, I.tok _, rfl, by rw [mem_any m]; simpa using q⟩
  · exact op_notIn_sign pins s σ H _ _ v u Q I rx ry ⟨c, z, rfl, rfl, by simpa using q⟩
/-- x in y: a list, a tuple, a set of keys, a text -/
def gInA_ (neg : Bool) : M2 := fun d e st => match asL e with
  | some _ => gIn_ neg d e st
  | none => (match tupL e with
    | some xs => if d.plain && D.plains xs && SeqAt.shaped d.py && SeqAt.shaped (.tuple (D.pys xs)) then .ok (.bl (neg != (D.pys xs).any fun z => PyData.eqv z d.py)) st else .stuck
    | none => (match e with
      | .set xs => (match keyD d, keysD xs with
        | some z, some ks => .ok (.bl (neg != memK z ks)) st
        | _, _ => .stuck)
      | .str z => (match d with
        | .str x => (match x.cps.toList with
          | [c] => .ok (.bl (neg != decide (c ∈ z.cps.toList))) st
          | _ => .stuck)
        | _ => .stuck)
      | _ => .stuck))
abbrev gInA : M2 := gInA_ false
abbrev gNotInA : M2 := gInA_ true
theorem tupL_py {d : D} {xs : List D} (e : tupL d = some xs) : d.py = .tuple (D.pys xs) ∧ d.plain = D.plains xs := by
  unfold tupL at e
  split at e
  · cases e; exact ⟨by rw [D.py], by rw [D.plain]⟩
  · cases e; exact ⟨by rw [D.py], by rw [D.plain]⟩
  · cases e
theorem sign_of_list {x : Str} {c : Nat} (h : x.cps.toList = [c]) : x = ⟨#[c]⟩ := by
  obtain ⟨cps⟩ := x
  congr
  exact Array.toList_inj.mp h
theorem keysD_kD : ∀ ks : List Key, keysD (ks.map kD) = some ks
  | [] => rfl
  | k :: ks => by rw [List.map_cons, keysD, kD_key, keysD_kD ks]
theorem setT_nil {P : Program} {w : World} {hh : Heap} {a : Addr} (h : SetTM P w hh a []) : SetKM P w hh a [] := by
  obtain ⟨L', ⟨o, es, ep, t, ho, hx, hd, rows, tab, nd, pl, ld, room, few⟩, m1, m2⟩ := h
  have eL : L' = [] := List.eq_nil_iff_forall_not_mem.mpr fun p hp' => by cases m1 p hp'
  subst eL
  have esz : es.size = 0 := by rw [← Array.length_toList, rows]; rfl
  refine ⟨[], ⟨o, es, ep, t, ho, hx, hd, fun e he => (by rw [rows] at he; cases he), by rw [rows]; rfl, List.nodup_nil, by rw [esz]; decide, ?_, tab.ris, ld⟩, fun _ => Iff.rfl⟩
  unfold SetTable.fits SetTable.fill
  rw [tab.dm, Bool.and_eq_true, beq_iff_eq, decide_eq_true_eq, esz]
  have hs := tab.sz
  refine ⟨hs, ?_⟩
  rw [hs]
  exact Nat.zero_le _
theorem in_use (neg : Bool) (hk : k.K = X.K ∧ k.P = X.prog ∧ k.w = X.w) {σ : L2.St} {F H : Hp} {Γ : Ev} {st : DS} {x y : V} {d e : D} {Q : VK} (ok : Ok k F H σ Γ st) (rx : Rep k F x d) (ry : Rep k F y e) (no : asL e = none) (w : Wp k E σ F H (gInA_ neg d e st) (qD k Q)) : rInA X neg x y H Q := by
  obtain ⟨hK, hP, hw⟩ := hk
  unfold gInA_ at w
  rw [no] at w
  dsimp only at w
  split at w
  · rename_i xs ex
    obtain ⟨e1, e2⟩ := tupL_py ex
    split at w
    · rename_i hc
      simp only [Bool.and_eq_true] at hc
      obtain ⟨⟨⟨p1, p2⟩, p3⟩, p4⟩ := hc
      exact .inl ⟨_, _, hK ▸ rx.dp ok.sub ok.bsub p1, e1 ▸ hK ▸ ry.dp ok.sub ok.bsub (by rw [e2]; exact p2), p3, p4, w F H ok.refl _ (.bl _)⟩
    · exact w.elim
  · split at w
    · split at w
      · rename_i z ks e1 e2
        have ed := keyD_kD e1
        subst ed
        have ez := rep_kD rx
        subst ez
        cases ry with
        | @setK a φ ks2 h hp =>
          rw [keysD_kD] at e2
          cases e2
          exact .inr (.inl ⟨z, a, φ, _, rfl, rfl, ok.sub _ _ h, by rw [hP, hw] at hp; exact hp, w F H ok.refl _ (.bl _)⟩)
        | @setT a φ L h hp r =>
          have no : ∀ {L : List (Addr × List Key)} {ks : List Key}, keysD (L.map fun p => D.tup (p.2.map kD)) = some ks → L = [] := fun {L ks} e => by
            cases L with
            | nil => rfl
            | cons p L => rw [List.map_cons, keysD] at e; exact nomatch e
          have eL := no e2
          subst eL
          cases e2
          refine .inr (.inl ⟨z, a, φ, [], rfl, rfl, ok.sub _ _ h, fun hh q => ?_, w F H ok.refl _ (.bl _)⟩)
          rw [hP, hw] at hp
          exact setT_nil (hp hh q)
      · exact w.elim
    · rename_i z _
      split at w
      · rename_i x
        split at w
        · rename_i c ec
          have ex := sign_of_list ec
          subst ex
          cases rx
          cases ry
          exact .inr (.inr ⟨c, z, rfl, rfl, w F H ok.refl _ (.bl _)⟩)
        · exact w.elim
      · exact w.elim
    · exact w.elim
theorem s_inA (hu : X.A.units + 80 < cLine) (hk : k.K = X.K ∧ k.P = X.prog ∧ k.w = X.w := by exact ⟨rfl, rfl, rfl⟩) : OpS X k (compareOp .In) gInA := by
  obtain ⟨r, h1, h2⟩ := s_in (X := X) (k := k) hu hk.1
  refine ⟨_, h1.or (op_inA (Nat.lt_of_le_of_lt (Nat.add_le_add_left (by decide) _) hu)), fun {E σ F H Γ st x y d e Q} ok rx ry w => ?_⟩
  cases ea : asL e with
  | some xs =>
    refine .inl (h2 (E := E) ok rx ry ?_)
    unfold gInA gInA_ at w
    rw [ea] at w
    exact w
  | none => exact .inr (in_use false hk ok rx ry ea w)
theorem s_notinA (hu : X.A.units + 80 < cLine) (hk : k.K = X.K ∧ k.P = X.prog ∧ k.w = X.w := by exact ⟨rfl, rfl, rfl⟩) : OpS X k (compareOp .NotIn) gNotInA := by
  obtain ⟨r, h1, h2⟩ := s_notin (X := X) (k := k) hu hk.1
  refine ⟨_, h1.or (op_notInA (Nat.lt_of_le_of_lt (Nat.add_le_add_left (by decide) _) hu)), fun {E σ F H Γ st x y d e Q} ok rx ry w => ?_⟩
  cases ea : asL e with
  | some xs =>
    refine .inl (h2 (E := E) ok rx ry ?_)
    unfold gNotInA gInA_ at w
    rw [ea] at w
    exact w
  | none => exact .inr (in_use true hk ok rx ry ea w)
end
end FL

/-! FL46: sorted(a set of keys) -/
namespace FL
open PySem PySem.Spec PyProof.Rows L2
theorem toks_kD {a b : Key} (h : PySem.W.keyToks (kD a).py = PySem.W.keyToks (kD b).py) : a = b := by
  cases a with
  | inl i =>
    cases b with
    | inl j =>
      have h : PySem.W.keyToks (.int i) = PySem.W.keyToks (.int j) := h
      rw [PySem.W.keyToks, PySem.W.keyToks] at h
      injection h with h _
      injection h with h
      rw [h]
    | inr y =>
      have h : PySem.W.keyToks (.int i) = PySem.W.keyToks (.str y) := h
      rw [PySem.W.keyToks, PySem.W.keyToks] at h
      injection h with h _
      exact nomatch h
  | inr x =>
    cases b with
    | inl j =>
      have h : PySem.W.keyToks (.str x) = PySem.W.keyToks (.int j) := h
      rw [PySem.W.keyToks, PySem.W.keyToks] at h
      injection h with h _
      exact nomatch h
    | inr y =>
      have h : PySem.W.keyToks (.str x) = PySem.W.keyToks (.str y) := h
      rw [PySem.W.keyToks, PySem.W.keyToks] at h
      injection h with h _
      injection h with h
      have h := Array.toList_inj.mp h
      obtain ⟨cx⟩ := x
      obtain ⟨cy⟩ := y
      rw [show cx = cy from h]
theorem relV_is {P : Program} {w : World} {z : Key} {v : Value} (h : (mixKind P w).is z v = true) : RelV (kV z) v := by
  rcases keyIs_shape (show keyIs z v = true from h) with ⟨i, t, e1, e2⟩ | ⟨x, t, e1, e2⟩
  · subst e1 e2; exact ⟨t, rfl⟩
  · subst e1 e2; exact ⟨t, rfl⟩
theorem reads_is {P : Program} {w : World} {h : Heap} {z : Key} {v : Value} (q : (mixKind P w).is z v = true) : Reads h v (kD z).py [] := by
  rcases keyIs_shape (show keyIs z v = true from q) with ⟨i, t, e1, e2⟩ | ⟨x, t, e1, e2⟩
  · subst e1 e2; exact .int _ _
  · subst e1 e2; exact .str _ _
theorem nodup_perm {ks ls : List Key} (h1 : ks.Nodup) (h2 : ls.Nodup) (m : ∀ j, j ∈ ks ↔ j ∈ ls) : ks.Perm ls := (List.perm_ext_iff_of_nodup h1 h2).mpr m
theorem each_keys1 {P : Program} {w : World} : ∀ {l : List (Int × Value)}, (∀ e ∈ l, GoodK P w e) → PySem.W.EachIs (fun v z => (mixKind P w).is z v = true) (l.map (·.2)) (l.map kOf)
  | [], _ => .nil
  | e :: l, g => .cons ((good_is1 (g e List.mem_cons_self) _).mpr rfl) (each_keys1 fun x hx => g x (List.mem_cons_of_mem _ hx))
theorem each_vals {P : Program} {w : World} : ∀ {out : List Value} {zs : List Key}, PySem.W.EachIs (fun v z => (mixKind P w).is z v = true) out zs → Vals (zs.map kV) out
  | _, _, .nil => .nil
  | _, _, .cons h t => .cons (relV_is h) (each_vals t)
section
variable {k : Kx} {F : Hp} {X : Cx} {E : XE}
def rSortS (X : Cx) : List V → Hp → VK → Prop := fun vs H Q => ∃ (a : Addr) (φ : Heap → Prop) (ks : List Key), vs = [.ref a] ∧ H a = some (.ext φ) ∧ (∀ hh, φ hh → SetKM X.prog X.w hh a ks) ∧ sortOk ((nubK ks).map kD) = true ∧
  ∀ p, H p = none → Q (.ref p) (upd H p (.lst (((nubK ks).mergeSort (PySem.W.dataLe false fun z => (kD z).py)).map kV)))
theorem cr_sortS (hc : X.calm = true) (hu : X.A.units + 80 < cLine) : CallR X (.builtin "sorted") (rSortS X) := by
  intro pins s σ H vs us Q I r h
  obtain ⟨a, φ, ks, rfl, ha, hp, ok, q⟩ := h
  rw [vals_ref1 r]
  obtain ⟨ks', ⟨o, es, ep, t, ho, hex, hd, g, ek, nd, hb, hf, hr, hl⟩, m⟩ := hp _ (I.hok a _ ha).1
  unfold sortOk at ok
  simp only [Bool.and_eq_true, Bool.or_eq_true, List.all_eq_true, decide_eq_true_eq] at ok
  obtain ⟨⟨⟨⟨pl, al⟩, kind⟩, dp⟩, len⟩ := ok
  have pm : ks'.Perm (nubK ks) := nodup_perm nd (nubK_nodup ks) fun j => (m j).trans nubK_mem.symm
  have inn : ∀ z ∈ ks', kD z ∈ (nubK ks).map kD := fun z hz => List.mem_map_of_mem (pm.mem_iff.mp hz)
  have others : ∀ z : Key, (kD z).py ≠ .none ∧ ∀ xs, (kD z).py ≠ .tuple xs := fun z => by cases z <;> exact ⟨by simp [kD, D.py], fun xs => by simp [kD, D.py]⟩
  refine sorted_of_set (enc := fun z => (kD z).py) (R := fun v z => (mixKind X.prog X.w).is z v = true) (bs := ks') (I.ok.hd hc) ⟨o, ho, hex.1, hd⟩ hf hb hr hl (by rw [ek]; exact each_keys1 g) (fun h' _ v z q => reads_is q) ?_ (PySem.W.Sortable.others others) (fun a _ b _ e => toks_kD e) (fun z hz => ?_) ?_
  · intro d hd' d' hd2
    obtain ⟨z, hz, e⟩ := List.mem_map.mp hd'
    obtain ⟨z', hz', e'⟩ := List.mem_map.mp hd2
    subst e e'
    exact al _ (inn z hz) _ (inn z' hz')
  · have := dp _ (inn z hz)
    omega
  · intro s' p out c kp g1 o1 le hg lo eo
    rw [sort_perm (enc := fun z => (kD z).py) pm (fun a _ b _ e => toks_kD e)] at eo
    have hv := each_vals eo
    have hlen : (((nubK ks).mergeSort (PySem.W.dataLe false fun z => (kD z).py)).map kV).length ≤ sizeLine := by
      rw [List.length_map, List.length_mergeSort]
      rwa [List.length_map] at len
    have hn : H p = none := I.hok.fresh le
    have J : Inv X pins σ (upd H p (.lst (((nubK ks).mergeSort (PySem.W.dataLe false fun z => (kD z).py)).map kV))) { s with heap := s'.heap, gens := s'.gens, drawn := s'.drawn, toks := s'.toks } :=
      I.call (ch := []) (Un.laid kp le hn) (I.hok.laid kp le ⟨hlen, out, c, hv, hg⟩) (by rw [g1]; exact I.bare) (fun _ z => nomatch z)
    have e : s' = { s with heap := s'.heap, gens := s'.gens, drawn := s'.drawn, toks := s'.toks } := by
      cases s'
      cases s
      cases o1
      rfl
    rw [e]
    exact ⟨.ref p, _, J, rfl, q p hn⟩
/-- sorted(x): a list, a set of keys -/
def gSortedA : List D → M (List D) := fun ds st => match ds with
  | [.set xs] => (match keysD xs with
    | some ks => if sortOk ((nubK ks).map kD) then .ok (sortD ((nubK ks).map kD)) st else .stuck
    | none => .stuck)
  | _ => gSorted ds st
theorem sortD_map (ks : List Key) : sortD (ks.map kD) = (ks.mergeSort (PySem.W.dataLe false fun z => (kD z).py)).map kD := by
  unfold sortD
  exact (List.map_mergeSort (f := kD) (r := PySem.W.dataLe false fun z => (kD z).py) (s := PySem.W.dataLe false D.py) fun _ _ _ _ => rfl).symm
theorem c_sortedA (hu : X.A.units + 80 < cLine) (hc : X.calm = true := by rfl) (hk : k.K = X.K ∧ k.P = X.prog ∧ k.w = X.w := by exact ⟨rfl, rfl, rfl⟩) : CallO X k (.builtin "sorted") gSortedA := by
  obtain ⟨r, h1, h2⟩ := c_sorted (X := X) (k := k) hu hk.1
  refine ⟨fun vs H Q => r vs H Q ∨ rSortS X vs H Q, fun pins s σ H xs us Q I rr h => h.elim (h1 pins s σ H xs us Q I rr) (cr_sortS hc hu pins s σ H xs us Q I rr), fun {E σ F H Γ st vs ds Q} ok rr w => ?_⟩
  unfold gSortedA at w
  split at w
  · split at w
    · rename_i xs ks ek
      split at w
      · rename_i so
        match vs, rr with
        | [_], .cons rh .nil =>
          have em := keysD_map ek
          refine .inr ?_
          obtain ⟨hK, hP, hw⟩ := hk
          rw [sortD_map] at w
          have go : ∀ (a : Addr) (φ : Heap → Prop), F a = some (.ext φ) → (∀ hh, φ hh → SetKM X.prog X.w hh a ks) → rSortS X [.ref a] H Q := fun a φ h hp =>
            ⟨a, φ, ks, rfl, ok.sub _ _ h, hp, so, fun p np => w _ _ (ok.new' np) p _ upd_same (ok.fnone np) np (reps_of_kV _)⟩
          cases rh with
          | @setK a φ ks2 h hp =>
            rw [keysD_kD] at ek
            cases ek
            rw [hP, hw] at hp
            exact go a φ h hp
          | @setT a φ L h hp r =>
            cases L with
            | cons p L => exact nomatch (show keysD (D.tup (p.2.map kD) :: _) = some ks from ek)
            | nil =>
              cases ek
              refine go a φ h fun hh q => ?_
              rw [hP, hw] at hp
              exact setT_nil (hp hh q)
      · exact w.elim
    · exact w.elim
  · exact .inl (h2 ok rr w)
end
end FL

/-! FL47: x.index(y) of a list or a tuple of texts or of ints -/
namespace FL
open PySem PySem.Spec PyProof.Rows L2
section
variable {X : Cx} {k : Kx} {E : XE} {o e : Expr} {mo me : EM} {to : TE} {t : TA} {mr : Ev → M (List D)} {apos cpos : Pos}
/-- what y's place is asked of -/
inductive IdxIn (K : PySem.W.Frag) (H : Hp) (a : Addr) : V → Nat → Prop
  | ls {ys : List Str} {y : Str} (h : SqL K H a (ys.map V.str)) (m : y ∈ ys) : IdxIn K H a (.str y) (ys.idxOf y)
  | li {ys : List Int} {y : Int} (h : SqL K H a (ys.map V.int)) (m : y ∈ ys) : IdxIn K H a (.int y) (ys.idxOf y)
  | ts {ys : List Str} {y : Str} {vs : List V} (h : SqT K H a (ys.map V.str)) (q : StrongT K H a vs) (m : y ∈ ys) : IdxIn K H a (.str y) (ys.idxOf y)
  | ti {ys : List Int} {y : Int} {vs : List V} (h : SqT K H a (ys.map V.int)) (q : StrongT K H a vs) (m : y ∈ ys) : IdxIn K H a (.int y) (ys.idxOf y)
def tIdxA (K : PySem.W.Frag) (to : TE) (t : TA) : TE := fun σ H Q => to σ H fun x H1 => ∃ a vs b, x = .ref a ∧ ((b = true ∧ SqL K H1 a vs) ∨ (b = false ∧ SqT K H1 a vs ∧ StrongT K H1 a vs)) ∧ t σ H1 fun xs H2 => ∃ y j, xs = [y] ∧ IdxIn K H2 a y j ∧ ((b = true → ∃ ws, SqL K H2 a ws) ∧ (b = false → ∃ ws, SqT K H2 a ws)) ∧ Q (.int (j : Nat)) H2
theorem strong_ob {pins : List (Addr × Obj)} {σ : L2.St} {H : Hp} {s : Shared} {a : Addr} {vs : List V} (I : L2.Inv X pins σ H s) (q : StrongT X.K H a vs) : ∃ ob, s.heap.get? a = some ob ∧ ob.dict = none := by
  rcases q with ⟨o, h, d⟩ | ⟨o, h, d⟩
  · exact ⟨o, (I.hok a _ h).1, d⟩
  · exact ⟨o, I.kIn a o h, d⟩
theorem list_not_tup {pins : List (Addr × Obj)} {σ : L2.St} {H : Hp} {s : Shared} {a : Addr} {vs ws : List V} (I : L2.Inv X pins σ H s) (h1 : SqL X.K H a vs) (h2 : SqT X.K H a ws) : False := by
  obtain ⟨its, _, pl, _⟩ := I.list h1
  obtain ⟨its2, _, ⟨o2, e2, c2, _⟩, _⟩ := I.tuple h2
  obtain ⟨o, n, e1, c1, _⟩ := pl
  rw [e1] at e2
  cases e2
  rw [c1] at c2
  injection c2 with c2
  exact absurd c2 (by decide)
theorem pe_idxA (ho : PE X o to) (ha : PA X [e] t) (hbase : attributeBase o "index" X.env (eval o X.env) = eval o X.env := by rfl)
    (hfew : ((backTo cpos (starEach [e] X.env)).all (fun x => !x.1) && (backToKw cpos (keywordEach [] X.env)).all (fun x => x.1.isSome) && decide ([e].length + ([] : List Keyword).length + (if ([] : List Keyword).isEmpty then 0 else 1) < 30)) = true := by rfl)
    (hline : (apos.endLine == cpos.line) = true := by rfl) (hs : starEach [e] X.env = (false, eval e X.env) :: starEach [] X.env := by rfl) (hplain : (backTo cpos (starEach [] X.env)).any (·.1) = false := by rfl) :
    PE X (.Call (.Attribute o "index" apos) [e] [] cpos) (tIdxA X.K to t) := by
  refine ⟨fun pins s σ H Q I h => ?_⟩
  refine wpAny_Call_method_late hbase hfew hline rfl (thn (ho.run pins s σ H _ I h) fun v s1 ⟨x, H1, I1, r1, a, vs, b, ex, ty, q1⟩ => ?_)
  subst ex
  obtain rfl : v = Value.ref a := r1
  have args : ∀ (id : String), (∀ us s2 y H2, L2.Inv X pins σ H2 s2 → Vals [y] us → (∃ j, IdxIn X.K H2 a y j ∧ ((b = true → ∃ ws, SqL X.K H2 a ws) ∧ (b = false → ∃ ws, SqT X.K H2 a ws)) ∧ Q (.int (j : Nat)) H2) → wpAny (model X.prog X.w) X.A (call (.builtin id) (.ref a :: us)) (EP X pins σ Q) X.xe s2) →
      wpAny (model X.prog X.w) X.A (callWith cpos (.builtin id) [.ref a] (backTo cpos (starEach [e] X.env)) []) (EP X pins σ Q) X.xe s1 := fun id hc => by
    have hA := ha.run cpos pins s1 σ H1 _ I1 q1
    rw [hs] at hA ⊢
    refine Calls.callWith_builtin (by show (false || (backTo cpos (starEach [] X.env)).any (·.1)) = false; rw [hplain] <;> rfl) (Calls.evalArgs_plain ?_)
    exact thn hA fun us s2 ⟨xs, H2, I2, r2, y, j, exs, q2⟩ => by subst exs; exact hc us s2 y H2 I2 r2 ⟨j, q2⟩
  rcases ty with ⟨eb, sl⟩ | ⟨eb, st, sg⟩
  · obtain ⟨its, _, pl, _⟩ := I1.list sl
    refine ⟨"list", "list.index", PySem.F.plainAttrs_list, PySem.F.slot_list_index, PySem.F.type_list_index, pl.isList.typeIs, fun b eb => ?_, args _ ?_⟩
    · cases eb
      obtain ⟨ob, n, e1, _, hd, _⟩ := pl
      exact ⟨ob, e1, hd⟩
    · rintro us s2 y H2 I2 r2 ⟨j, ix, lk, q⟩
      obtain ⟨u, rfl, ru⟩ := vals1 r2
      obtain ⟨ws, sl2⟩ := lk.1 eb
      cases ix with
      | @ls ys z hh m =>
        obtain ⟨t, rfl⟩ := ru
        obtain ⟨its2, rv, pl2, hz⟩ := I2.list hh
        rw [List.length_map] at hz
        exact SeqAt.list_index_strs pl2.isList (strsAre_of rv) hz m ⟨.int (ys.idxOf z : Nat), _, I2.tok _, ⟨_, rfl⟩, q⟩
      | @li ys z hh m =>
        obtain ⟨t, rfl⟩ := ru
        obtain ⟨its2, rv, pl2, hz⟩ := I2.list hh
        rw [List.length_map] at hz
        exact SeqAt.list_index_ints pl2.isList (intsAre_of rv) hz m ⟨.int (ys.idxOf z : Nat), _, I2.tok _, ⟨_, rfl⟩, q⟩
      | ts hh _ _ => exact (list_not_tup I2 sl2 hh).elim
      | ti hh _ _ => exact (list_not_tup I2 sl2 hh).elim
  · obtain ⟨its, _, pl, _⟩ := I1.tuple st
    refine ⟨"tuple", "tuple.index", PySem.F.plainAttrs_tuple, PySem.F.slot_tuple_index, PySem.F.type_tuple_index, pl.typeIs, fun b eb => ?_, args _ ?_⟩
    · cases eb
      exact strong_ob I1 sg
    · rintro us s2 y H2 I2 r2 ⟨j, ix, lk, q⟩
      obtain ⟨u, rfl, ru⟩ := vals1 r2
      obtain ⟨ws, st2⟩ := lk.2 eb
      cases ix with
      | ls hh _ => exact (list_not_tup I2 hh st2).elim
      | li hh _ => exact (list_not_tup I2 hh st2).elim
      | @ts ys z vs hh _ m =>
        obtain ⟨t, rfl⟩ := ru
        obtain ⟨its2, rv, pl2, hz⟩ := I2.tuple hh
        exact SeqAt.tuple_index_strs pl2 (strsAre_of rv) m ⟨.int (ys.idxOf z : Nat), _, I2.tok _, ⟨_, rfl⟩, q⟩
      | @ti ys z vs hh _ m =>
        obtain ⟨t, rfl⟩ := ru
        obtain ⟨its2, rv, pl2, hz⟩ := I2.tuple hh
        exact SeqAt.tuple_index_ints pl2 (intsAre_of rv) m ⟨.int (ys.idxOf z : Nat), _, I2.tok _, ⟨_, rfl⟩, q⟩
/-- x.index(y): the first place -/
def idxL : D → Option (List D)
  | .tup xs => some xs
  | .lst xs => some xs
  | .bor xs => some xs
  | _ => none
def gPlace (xs : List D) : D → M D := fun e st => match e with
  | .str x => (match strsD xs with
    | some ys => if x ∈ ys then .ok (.int (ys.idxOf x : Nat)) st else .stuck
    | none => .stuck)
  | .int x => (match intsD xs with
    | some ys => if x ∈ ys then .ok (.int (ys.idxOf x : Nat)) st else .stuck
    | none => .stuck)
  | _ => .stuck
def mIdx (mo me : EM) : EM := fun Γ => do
  let d ← mo Γ
  match idxL d with
  | some xs => (do
    let e ← me Γ
    gPlace xs e)
  | none => halt
def OnSeq (K : PySem.W.Frag) (b : Bool) (H : Hp) (a : Addr) (vs : List V) : Prop := (b = true ∧ SqL K H a vs) ∨ (b = false ∧ SqT K H a vs ∧ StrongT K H a vs)
theorem idx_use {F H : Hp} {σ : L2.St} {Γ : Ev} {st : DS} {v : V} {d : D} {xs : List D} (hK : k.K = X.K) (ok : Ok k F H σ Γ st) (r : Rep k F v d) (e : idxL d = some xs) :
    ∃ a vs b, v = .ref a ∧ Reps k F vs xs ∧ OnSeq X.K b H a vs ∧ ∀ F2 H2 st2, Step k F H F2 H2 st2 → OnSeq X.K b H2 a vs := by
  cases r with
  | tup h rs q =>
    rw [hK] at h q
    cases e
    exact ⟨_, _, false, rfl, rs, .inr ⟨rfl, sqt_mono ok.sub h, q.mono ok.sub⟩, fun F2 H2 st2 s2 => .inr ⟨rfl, sqt_mono s2.sub (sqt_mono s2.ext h), (q.mono s2.ext).mono s2.sub⟩⟩
  | lst h rs => cases e; exact ⟨_, _, true, rfl, rs, .inl ⟨rfl, SqL.of (ok.sub _ _ h)⟩, fun F2 H2 st2 s2 => .inl ⟨rfl, SqL.of (s2.sub _ _ (s2.ext _ _ h))⟩⟩
  | bor h rs => cases e; exact ⟨_, _, true, rfl, rs, .inl ⟨rfl, SqL.of (ok.bsub _ _ h)⟩, fun F2 H2 st2 s2 => .inl ⟨rfl, SqL.of ((ok.step s2).bsub _ _ h)⟩⟩
  | _ => cases e
theorem e_idx (ho : PE X o (tM k E mo)) (ha : PA X [e] (tA k E (mCons me mNil))) (hK : k.K = X.K := by rfl) (hbase : attributeBase o "index" X.env (eval o X.env) = eval o X.env := by rfl)
    (hfew : ((backTo cpos (starEach [e] X.env)).all (fun x => !x.1) && (backToKw cpos (keywordEach [] X.env)).all (fun x => x.1.isSome) && decide ([e].length + ([] : List Keyword).length + (if ([] : List Keyword).isEmpty then 0 else 1) < 30)) = true := by rfl)
    (hline : (apos.endLine == cpos.line) = true := by rfl) (hs : starEach [e] X.env = (false, eval e X.env) :: starEach [] X.env := by rfl) (hplain : (backTo cpos (starEach [] X.env)).any (·.1) = false := by rfl) :
    PE X (.Call (.Attribute o "index" apos) [e] [] cpos) (tM k E (mIdx mo me)) :=
  PE.weak (pe_idxA ho ha hbase hfew hline hs hplain) fun σ H Q ⟨F, Γ, st, ok, w⟩ => by
    let f : D → M D := fun d => (match idxL d with
      | some xs => (do
        let e ← me Γ
        gPlace xs e)
      | none => halt)
    refine ⟨F, Γ, st, ok, (Wp.bind (f := f) ok (show Wp k E σ F H ((mo Γ st).bind f) (qD k Q) from w)).mono fun d F1 H1 st1 s1 w1 v rv => ?_⟩
    have ok1 := ok.step s1
    cases ei : idxL d with
    | none =>
      have w1 : Wp k E σ F1 H1 ((match idxL d with | some xs => (do let e ← me Γ; gPlace xs e) | none => halt : M D) st1) (qD k Q) := w1
      rw [ei] at w1
      exact w1.elim
    | some xs =>
      have w1 : Wp k E σ F1 H1 ((match idxL d with | some xs => (do let e ← me Γ; gPlace xs e) | none => halt : M D) st1) (qD k Q) := w1
      rw [ei] at w1
      obtain ⟨a, vs, b, ev, rs, on1, later⟩ := idx_use (X := X) hK ok1 rv ei
      refine ⟨a, vs, b, ev, on1, ?_⟩
      have w3 : Wp k E σ F1 H1 ((mCons me mNil Γ >>= fun ds => (match ds with | [e] => gPlace xs e | _ => halt : M D)) st1) (qD k Q) := by
        have e0 : (mCons me mNil Γ >>= fun ds => (match ds with | [e] => gPlace xs e | _ => halt : M D)) st1 = (me Γ st1).bind fun e s => gPlace xs e s := by
          show ((me Γ st1).bind fun e s => .ok [e] s).bind _ = _
          cases me Γ st1 <;> rfl
        rw [e0]
        exact w1
      refine tA.then_ ok1 w3 fun vs2 ds F2 H2 st2 s2 ok2 r2 w4 => ?_
      have on2 := later F2 H2 st2 s2
      have tags : (b = true → ∃ ws, SqL X.K H2 a ws) ∧ (b = false → ∃ ws, SqT X.K H2 a ws) := by
        rcases on2 with ⟨e1, e2⟩ | ⟨e1, e2, _⟩
        · exact ⟨fun _ => ⟨_, e2⟩, fun z => by rw [e1] at z; cases z⟩
        · exact ⟨fun z => (by rw [e1] at z; cases z), fun _ => ⟨_, e2⟩⟩
      match ds, vs2, r2, w4 with
      | [e], [y], .cons ry .nil, w4 =>
        have w4 : Wp k E σ F2 H2 (gPlace xs e st2) (qD k Q) := w4
        unfold gPlace at w4
        split at w4
        · rename_i x
          split at w4
          · rename_i ys ey
            split at w4
            · rename_i hm
              cases ry
              have ew := rs.strs ey
              subst ew
              rcases on2 with ⟨e1, e2⟩ | ⟨e1, e2, e3⟩
              · exact ⟨_, _, rfl, .ls e2 hm, tags, w4 F2 H2 ok2.refl _ (.int _)⟩
              · exact ⟨_, _, rfl, .ts e2 e3 hm, tags, w4 F2 H2 ok2.refl _ (.int _)⟩
            · exact w4.elim
          · exact w4.elim
        · rename_i x
          split at w4
          · rename_i ys ey
            split at w4
            · rename_i hm
              cases ry
              have ew := rs.ints ey
              subst ew
              rcases on2 with ⟨e1, e2⟩ | ⟨e1, e2, e3⟩
              · exact ⟨_, _, rfl, .li e2 hm, tags, w4 F2 H2 ok2.refl _ (.int _)⟩
              · exact ⟨_, _, rfl, .ti e2 e3 hm, tags, w4 F2 H2 ok2.refl _ (.int _)⟩
            · exact w4.elim
          · exact w4.elim
        · exact w4.elim
      | [], _, _, w4 => exact w4.elim
      | _ :: _ :: _, _, _, w4 => exact w4.elim
end
end FL

/-! FL0e: dict(zip(a tuple, a tuple)) -/
namespace FL
open PySem PySem.W PySem.Spec PyProof.Rows RZ
section
variable {prog : Program} {w : World} {A : Around} {E : Value → Shared → Prop} {s : Shared}
theorem zipH_item {z TI TO T i1 i2 l1 l2 : Addr} {f : Bool} {oT : Obj} {k1 k2 : Nat} {xs ys : Array Value} {x y : Value} {Q : Option Value → Shared → Prop} (D : ZipApart z TI TO i1 i2 l1 l2)
    (hz : IsZipHeld s.heap z TI TO T f) (hT : s.heap.get? T = some oT) (hTI : IsPair s.heap TI (.ref i1) (.ref i2))
    (h1 : s.heap.IsTupleIter i1 l1 k1) (h2 : s.heap.IsTupleIter i2 l2 k2) (hl1 : s.heap.IsTuple l1 xs) (hl2 : s.heap.IsTuple l2 ys) (hx : xs[k1]? = some x) (hy : ys[k2]? = some y)
    (hQ : ∀ h', IsZipHeld h' z TI TO T true → h'.IsTupleIter i1 l1 (k1 + 1) → h'.IsTupleIter i2 l2 (k2 + 1) → IsPair h' s.heap.objs.size x y → h'.objs.size = s.heap.objs.size + 1 →
      (∀ c o, c ≠ z → c ≠ i1 → c ≠ i2 → s.heap.get? c = some o → h'.get? c = some o) → Q (some (.ref s.heap.objs.size)) { s with heap := h' }) :
    wpAny (model prog w) A (pyNext (.ref z)) Q E s := by
  have ty : s.TypeIs (.ref z) "zip" := ⟨_, hz, rfl⟩
  unfold pyNext
  refine wpAny_bind (wpAny_attempt (wpAny_callSpecial?_slot (name := Str.ofString "__next__") ty F.slot_zip_next (wpAny_call_entry F.slot_zip_next ty F.entry_zip_next ?_ (F.args_zip_next_1 _))))
  show wpAny _ _ (field (.ref z) 2 >>= _) _ _ _
  refine wpAny_bind (wpAny_field hz rfl (x := .bool false) rfl ?_)
  show wpAny _ _ (field (.ref z) 3 >>= _) _ _ _
  refine wpAny_bind (wpAny_field hz rfl (x := .ref TI) rfl (wpAny_bind (wpAny_seqItems hTI rfl ?_)))
  show wpAny _ _ (Builtin.SmallTypes.ownedTupleIsFree (.ref z) >>= _) _ _ _
  refine wpAny_bind (wpAny_tupleHeld_zip hz hT fun ha za sa => ?_)
  simp only [Bool.false_eq_true, if_false]
  refine wpAny_bind ?_
  rw [← Array.forIn_toList]
  simp only [List.forIn_cons, List.forIn_nil]
  refine wpAny_bind (wpAny_bind (wpAny_holding ?_))
  show wpAny _ _ (Builtin.SmallTypes.nextOf (.ref i1) >>= _) _ _ _
  refine wpAny_bind (nextOf_tuple_item (s := { s with heap := ha }) (h1.extBut sa.extBut D.i1z) (hl1.extBut sa.extBut D.l1z) hx fun hb ib sb => wpAny_pure (wpAny_pure ?_))
  refine wpAny_bind (wpAny_bind (wpAny_holding ?_))
  show wpAny _ _ (Builtin.SmallTypes.nextOf (.ref i2) >>= _) _ _ _
  refine wpAny_bind (nextOf_tuple_item (s := { s with heap := hb }) ((h2.extBut sa.extBut D.i2z).extBut sb.extBut D.i12.symm) ((hl2.extBut sa.extBut D.l2z).extBut sb.extBut D.l2i1) hy fun hc ic sc => wpAny_pure (wpAny_pure (wpAny_pure ?_)))
  show wpAny _ _ (newTuple [x, y] >>= _) _ _ _
  refine wpAny_bind (wpAny_newTuple (wpAny_pure ⟨_, rfl, wpAny_pure ?_⟩))
  have sz : hc.objs.size = s.heap.objs.size := by rw [sc.1, sb.1, sa.1]
  have zc : IsZipHeld hc z TI TO T true := sc.extBut _ _ D.i2z.symm (sb.extBut _ _ D.i1z.symm za)
  have kp : ∀ c o, c ≠ z → c ≠ i1 → c ≠ i2 → s.heap.get? c = some o → hc.get? c = some o := fun c o c1 c2 c3 e => sc.extBut _ _ c3 (sb.extBut _ _ c2 (sa.extBut _ _ c1 e))
  show Q (some (.ref hc.objs.size)) _
  have pp : IsPair (hc.push { cls := .type "tuple", data := .seq #[x, y] }) hc.objs.size x y := Heap.get?_push_size _ rfl
  have z4 : (hc.push { cls := .type "tuple", data := .seq #[x, y] }).objs.size = hc.objs.size + 1 := Heap.size_push ..
  rw [sz] at pp z4 ⊢
  exact hQ _ (Heap.get?_push_of_some _ zc) ((ib.extBut sc.extBut D.i12).at fun o e => Heap.get?_push_of_some _ e) (ic.at fun o e => Heap.get?_push_of_some _ e) pp z4 fun c o c1 c2 c3 e => Heap.get?_push_of_some _ (kp c o c1 c2 c3 e)
theorem zipH_end {z TI TO T i1 i2 l1 l2 : Addr} {f : Bool} {oT : Obj} {k1 k2 : Nat} {xs ys : Array Value} {Q : Option Value → Shared → Prop} (hh : A.handled = none) (D : ZipApart z TI TO i1 i2 l1 l2)
    (hz : IsZipHeld s.heap z TI TO T f) (hT : s.heap.get? T = some oT) (hTI : IsPair s.heap TI (.ref i1) (.ref i2))
    (h1 : s.heap.IsTupleIter i1 l1 k1) (h2 : s.heap.IsTupleIter i2 l2 k2) (hl1 : s.heap.IsTuple l1 xs) (hl2 : s.heap.IsTuple l2 ys) (hend : xs[k1]? = none ∨ ys[k2]? = none)
    (hQ : ∀ h', (∀ c o, c ≠ z → c ≠ i1 → c ≠ i2 → s.heap.get? c = some o → h'.get? c = some o) → Q none { s with heap := h' }) : wpAny (model prog w) A (pyNext (.ref z)) Q E s := by
  have ty : s.TypeIs (.ref z) "zip" := ⟨_, hz, rfl⟩
  unfold pyNext
  refine wpAny_bind (wpAny_attempt (wpAny_callSpecial?_slot (name := Str.ofString "__next__") ty F.slot_zip_next (wpAny_call_entry F.slot_zip_next ty F.entry_zip_next ?_ (F.args_zip_next_1 _))))
  have stop : ∀ h' e, (∀ c o, c ≠ z → c ≠ i1 → c ≠ i2 → s.heap.get? c = some o → h'.get? c = some o) → (∃ o, h'.get? e = some o ∧ o.cls = .type "StopIteration") →
      wpAny (model prog w) A (do if ← isInstance (.ref e) (.type "StopIteration") then pure none else throw (.ref e)) Q E { s with heap := h' } := fun h' e kp ⟨o, ho, hc⟩ => by
    refine wpAny_bind (wpAny_isInstance (T := "StopIteration") (b := true) ⟨o, ho, hc⟩ isSubtype_stop ?_)
    exact wpAny_pure (hQ _ kp)
  show wpAny _ _ (field (.ref z) 2 >>= _) _ _ _
  refine wpAny_bind (wpAny_field hz rfl (x := .bool false) rfl ?_)
  show wpAny _ _ (field (.ref z) 3 >>= _) _ _ _
  refine wpAny_bind (wpAny_field hz rfl (x := .ref TI) rfl (wpAny_bind (wpAny_seqItems hTI rfl ?_)))
  show wpAny _ _ (Builtin.SmallTypes.ownedTupleIsFree (.ref z) >>= _) _ _ _
  refine wpAny_bind (wpAny_tupleHeld_zip hz hT fun ha za sa => ?_)
  simp only [Bool.false_eq_true, if_false]
  refine wpAny_bind ?_
  rw [← Array.forIn_toList]
  simp only [List.forIn_cons, List.forIn_nil]
  refine wpAny_bind (wpAny_bind (wpAny_holding ?_))
  show wpAny _ _ (Builtin.SmallTypes.nextOf (.ref i1) >>= _) _ _ _
  cases hx : xs[k1]? with
  | none => exact wpAny_bind (nextOf_tuple_end (s := { s with heap := ha }) hh (h1.extBut sa.extBut D.i1z) (hl1.extBut sa.extBut D.l1z) hx fun hb e sb he => stop hb e (fun c o c1 c2 _ x => sb _ _ c2 (sa.extBut _ _ c1 x)) he)
  | some x =>
    have hy : ys[k2]? = none := hend.resolve_left (by rw [hx]; exact fun z => nomatch z)
    refine wpAny_bind (nextOf_tuple_item (s := { s with heap := ha }) (h1.extBut sa.extBut D.i1z) (hl1.extBut sa.extBut D.l1z) hx fun hb ib sb => wpAny_pure (wpAny_pure ?_))
    refine wpAny_bind (wpAny_bind (wpAny_holding ?_))
    show wpAny _ _ (Builtin.SmallTypes.nextOf (.ref i2) >>= _) _ _ _
    exact wpAny_bind (nextOf_tuple_end (s := { s with heap := hb }) hh ((h2.extBut sa.extBut D.i2z).extBut sb.extBut D.i12.symm) ((hl2.extBut sa.extBut D.l2z).extBut sb.extBut D.l2i1) hy fun hc e sc he => stop hc e (fun c o c1 c2 c3 x => sc _ _ c3 (sb.extBut _ _ c2 (sa.extBut _ _ c1 x))) he)
end
section
variable {prog : Program} {w : World}
/-- zip of two tuples as what a dict is made of -/
theorem pairs_zipT (z TI TO i1 i2 l1 l2 : Addr) (D : ZipApart z TI TO i1 i2 l1 l2) (xs ys : Array Value) :
    PairArg prog w "zip" z [z, TI, TO, i1, i2, l1, l2] [z, TO, i1, i2] (min xs.size ys.size) (fun i k v => xs[i]? = some k ∧ ys[i]? = some v)
      (fun h => IsZip h z TI TO .none ∧ IsPair h TI (.ref i1) (.ref i2) ∧ (∃ a b, IsPair h TO a b) ∧ h.IsTupleIter i1 l1 0 ∧ h.IsTupleIter i2 l2 0 ∧ h.IsTuple l1 xs ∧ h.IsTuple l2 ys) where
  type := fun s ok => ⟨_, ok.1, rfl⟩
  notDict := by decide
  keep := fun h h' ⟨a1, a2, ⟨a, b, a3⟩, a4, a5, a6, a7⟩ kp => ⟨kp _ _ a1, kp _ _ a2, ⟨a, b, kp _ _ a3⟩, a4.at fun o e => kp _ o e, a5.at fun o e => kp _ o e, at_t a6 fun o e => kp _ o e, at_t a7 fun o e => kp _ o e⟩
  there := fun h ⟨a1, a2, ⟨a, c, a3⟩, ⟨o1, a4, _⟩, ⟨o2, a5, _⟩, ⟨o3, a6, _⟩, ⟨o4, a7, _⟩⟩ b hb => by
    simp only [List.mem_cons, List.not_mem_nil, or_false] at hb
    rcases hb with rfl | rfl | rfl | rfl | rfl | rfl | rfl
    all_goals first | exact ⟨_, a1⟩ | exact ⟨_, a2⟩ | exact ⟨_, a3⟩ | exact ⟨_, a4⟩ | exact ⟨_, a5⟩ | exact ⟨_, a6⟩ | exact ⟨_, a7⟩
  sub := fun b hb => by simp at hb ⊢; rcases hb with rfl | rfl | rfl | rfl <;> simp
  noKeys := fun A s Q E hA ok h => getAttrOr_miss_zip ok.1 rfl rfl rfl zip_no_keys (by decide +kernel) hA h
  iter := fun A s d Q E hA ⟨a1, a2, ⟨a, b, a3⟩, a4, a5, a6, a7⟩ hd hdf h => by
    simp only [List.mem_cons, List.not_mem_nil, or_false, not_or] at hdf
    obtain ⟨dz, dTI, dTO, di1, di2, dl1, dl2⟩ := hdf
    refine wpAny_pyIter_zip a1 (h z [z, TO, i1, i2] (fun i h => IsPair h TI (.ref i1) (.ref i2) ∧ h.IsTupleIter i1 l1 i ∧ h.IsTupleIter i2 l2 i ∧ h.IsTuple l1 xs ∧ h.IsTuple l2 ys ∧
      ((IsZip h z TI TO .none ∧ ∃ a b, IsPair h TO a b) ∨ ∃ T f oT, IsZipHeld h z TI TO T f ∧ h.get? T = some oT ∧ T ≠ z ∧ T ≠ i1 ∧ T ≠ i2 ∧ T ≠ d)) s.heap s.toks ?_
      ⟨a2, a4, a5, a6, a7, .inl ⟨a1, a, b, a3⟩⟩ (fun _ _ e => e) fun b hb => .inl hb)
    refine ⟨fun hm => ?_, fun i g g' ⟨b2, b4, b5, b6, b7, bz⟩ kp => ?_, fun i s1 Q1 E1 hi ⟨b2, b4, b5, b6, b7, bz⟩ ds hQ => ?_, fun s1 Q1 E1 ⟨b2, b4, b5, b6, b7, bz⟩ hQ => ?_⟩
    · simp only [List.mem_cons, List.not_mem_nil, or_false] at hm
      rcases hm with e | e | e | e
      · exact dz e
      · exact dTO e
      · exact di1 e
      · exact di2 e
    · refine ⟨kp _ _ (Ne.symm dTI) b2, b4.at fun o e => kp _ o (Ne.symm di1) e, b5.at fun o e => kp _ o (Ne.symm di2) e, at_t b6 fun o e => kp _ o (Ne.symm dl1) e, at_t b7 fun o e => kp _ o (Ne.symm dl2) e, ?_⟩
      rcases bz with ⟨c1, a, b, c2⟩ | ⟨T, f, oT, c1, c2, r1, r2, r3, r4⟩
      · exact .inl ⟨kp _ _ (Ne.symm dz) c1, a, b, kp _ _ (Ne.symm dTO) c2⟩
      · exact .inr ⟨T, f, oT, kp _ _ (Ne.symm dz) c1, kp _ _ r4 c2, r1, r2, r3, r4⟩
    · have ex := Array.getElem?_eq_getElem (Nat.lt_of_lt_of_le hi (Nat.min_le_left ..))
      have ey := Array.getElem?_eq_getElem (Nat.lt_of_lt_of_le hi (Nat.min_le_right ..))
      have new : ∀ {c o}, s1.heap.get? c = some o → s1.heap.objs.size ≠ c := fun e => Nat.ne_of_gt (Heap.lt_size e)
      have n1 : s1.heap.objs.size ≠ i1 := let ⟨_, e, _⟩ := b4; new e
      have n2 : s1.heap.objs.size ≠ i2 := let ⟨_, e, _⟩ := b5; new e
      rcases bz with ⟨c1, a, b, c2⟩ | ⟨T, f, oT, c1, c2, r1, r2, r3, r4⟩
      · refine pyNext_zipT_item D c1 b2 c2 b4 b5 b6 b7 ex ey fun h' d1 d2 d3 d4 d5 d6 kp => ?_
        exact hQ s1.heap.objs.size _ _ h' s1.toks ⟨ex, ey⟩ (.inl ⟨_, d5, rfl, _, rfl⟩)
          ⟨kp _ _ D.TIz D.TITO D.TIi1 D.TIi2 b2, d3, d4, at_t b6 fun o e => kp _ o D.l1z D.l1TO D.l1i1 D.l1i2 e, at_t b7 fun o e => kp _ o D.l2z D.l2TO D.l2i1 D.l2i2 e, .inr ⟨s1.heap.objs.size, false, _, d1, d5, new c1, n1, n2, Nat.ne_of_gt ds⟩⟩
          fun c o hc e => kp c o (fun x => hc (by simp [x])) (fun x => hc (by simp [x])) (fun x => hc (by simp [x])) (fun x => hc (by simp [x])) e
      · refine zipH_item D c1 c2 b2 b4 b5 b6 b7 ex ey fun h' d1 d3 d4 d5 d6 kp => ?_
        exact hQ s1.heap.objs.size _ _ h' s1.toks ⟨ex, ey⟩ (.inl ⟨_, d5, rfl, _, rfl⟩)
          ⟨kp _ _ D.TIz D.TIi1 D.TIi2 b2, d3, d4, at_t b6 fun o e => kp _ o D.l1z D.l1i1 D.l1i2 e, at_t b7 fun o e => kp _ o D.l2z D.l2i1 D.l2i2 e, .inr ⟨T, true, oT, d1, kp _ _ r1 r2 r3 c2, r1, r2, r3, r4⟩⟩
          fun c o hc e => kp c o (fun x => hc (by simp [x])) (fun x => hc (by simp [x])) (fun x => hc (by simp [x])) e
    · have hend : xs[min xs.size ys.size]? = none ∨ ys[min xs.size ys.size]? = none := by
        rcases Nat.le_total xs.size ys.size with h | h
        · exact .inl (Array.getElem?_eq_none (by rw [Nat.min_eq_left h]; exact Nat.le_refl _))
        · exact .inr (Array.getElem?_eq_none (by rw [Nat.min_eq_right h]; exact Nat.le_refl _))
      rcases bz with ⟨c1, a, b, c2⟩ | ⟨T, f, oT, c1, c2, r1, r2, r3, r4⟩
      · exact pyNext_zipT_end hA D c1 b2 c2 b4 b5 b6 b7 hend fun h' kp => hQ h' s1.toks fun c o hc e => kp c o (fun x => hc (by simp [x])) (fun x => hc (by simp [x])) (fun x => hc (by simp [x])) (fun x => hc (by simp [x])) e
      · exact zipH_end hA D c1 c2 b2 b4 b5 b6 b7 hend fun h' kp => hQ h' s1.toks fun c o hc e => kp c o (fun x => hc (by simp [x])) (fun x => hc (by simp [x])) (fun x => hc (by simp [x])) e
where
  at_t {h h' : Heap} {a : Addr} {xs : Array Value} (x : h.IsTuple a xs) (k : ∀ o, h.get? a = some o → h'.get? a = some o) : h'.IsTuple a xs := let ⟨o, e, r⟩ := x; ⟨o, k o e, r⟩
end
end FL

/-! FL48: dict(zip(a, b)) of two tuples as one's own dict -/
namespace FL
open PySem PySem.W PySem.Spec PyProof.Rows L2 RZ
section
variable {X : Cx} {k : Kx} {E : XE} {a b : Expr} {ta : TA} {mr : Ev → M (List D)} {p1 p2 pos pos2 : Pos}
def putAll (acc : KD) (ps : List (Key × D)) : KD := ps.foldl (fun acc p => putD acc p.1 p.2) acc
def tDZip (K : PySem.W.Frag) (ta : TA) : TE := fun σ H Q => ta σ H fun vs H1 => ∃ (x y : Addr) (ks : List Key) (ws : List V), vs = [.ref x, .ref y] ∧ SqT K H1 x (ks.map kV) ∧ SqT K H1 y ws ∧ ∀ p, H1 p = none → Q (.ref p) (upd H1 p (.dK (mergeK [] (ks.zip ws))))
theorem zipT_kv : ∀ {ks : List Key} {us : List Value} {ws : List V} {us2 : List Value}, Vals (ks.map kV) us → Vals ws us2 → KV (ks.zip ws) (ks.zip us2)
  | [], _, _, _, _, _ => by simp [List.zip_nil_left]; exact .nil
  | k :: ks, _, [], _, _, .nil => by simp; exact .nil
  | k :: ks, _, w :: ws, _, .cons r t, .cons r2 t2 => .cons ⟨rfl, r2⟩ (zipT_kv t t2)
theorem merge_len : ∀ (more kvs : List (Key × V)), (mergeK kvs more).length ≤ kvs.length + more.length
  | [], kvs => Nat.le_refl _
  | p :: more, kvs => by
    have h1 := merge_len more (putK kvs p.1 p.2)
    have h2 : (putK kvs p.1 p.2).length ≤ kvs.length + 1 := by
      unfold putK
      split
      · rw [List.length_map]; exact Nat.le_succ _
      · rw [List.length_append]; exact Nat.le_refl _
    show (mergeK (putK kvs p.1 p.2) more).length ≤ _
    rw [List.length_cons]; omega
theorem call_dzip {P : Program} {w : World} {A : Around} {E : Value → Shared → Prop} {s : Shared} {x y : Addr} {its its2 : List Value} {ks : List Key} {Q : Value → Shared → Prop} (hh : A.handled = none) (px : s.heap.IsTuple x its.toArray) (py : s.heap.IsTuple y its2.toArray)
    (rv : Vals (ks.map kV) its) (line : ks.length ≤ sizeLine)
    (fin : ∀ h2 tk p, s.heap.objs.size ≤ p → h2.DictOf (mixKind P w) p (merged [] (ks.zip its2)) → (∀ b o, s.heap.get? b = some o → h2.get? b = some o) → Q (.ref p) { s with heap := h2, toks := tk }) :
    wpAny (model P w) A (call (.type "zip") [.ref x, .ref y]) (fun z s1 => wpAny (model P w) A (call (.type "dict") [z]) Q E s1) E s := by
  have lx : x < s.heap.objs.size := let ⟨_, e, _⟩ := px; Heap.lt_size e
  have ly : y < s.heap.objs.size := let ⟨_, e, _⟩ := py; Heap.lt_size e
  have lk : its.length = ks.length := by rw [← rv.length, List.length_map]
  refine call_zipT (xs := its.toArray) (ys := its2.toArray) px py fun h' c1 c2 c3 c4 c5 sz kp => ?_
  have D : ZipApart (s.heap.objs.size + 4) (s.heap.objs.size + 2) (s.heap.objs.size + 3) s.heap.objs.size (s.heap.objs.size + 1) x y := PySem.W.ktu_apart s.heap.objs.size x y lx ly
  have px' : h'.IsTuple x its.toArray := let ⟨o, e, r⟩ := px; ⟨o, kp _ _ e, r⟩
  have py' : h'.IsTuple y its2.toArray := let ⟨o, e, r⟩ := py; ⟨o, kp _ _ e, r⟩
  have hv : PairsHave (mixKind P w) (min its.toArray.size its2.toArray.size) (fun i k v => its.toArray[i]? = some k ∧ its2.toArray[i]? = some v) (ks.zip its2) := by
    refine ⟨by rw [List.length_zip, List.size_toArray, List.size_toArray, lk], fun i key v hr => ?_⟩
    obtain ⟨e1, e2⟩ := hr
    have e1 : its[i]? = some key := by simpa using e1
    have e2 : its2[i]? = some v := by simpa using e2
    have hi : i < ks.length := by rw [← lk]; exact (List.getElem?_eq_some_iff.mp e1).1
    obtain ⟨u, e3, r3⟩ := rv.get (i := i) (x := kV ks[i]) (by rw [List.getElem?_map, List.getElem?_eq_getElem hi]; rfl)
    rw [e1] at e3
    cases e3
    exact ⟨ks[i], by rw [List.getElem?_zip_eq_some]; exact ⟨List.getElem?_eq_getElem hi, e2⟩, kV_is r3⟩
  have PA := pairs_zipT (prog := P) (w := w) _ _ _ _ _ _ _ D its.toArray its2.toArray
  have ln : min its.toArray.size its2.toArray.size ≤ sizeLine := Nat.le_trans (Nat.min_le_left _ _) (by rw [List.size_toArray, lk]; exact line)
  refine call_dict_pairs (s := { s with heap := h' }) PA hh ⟨c1, c2, ⟨_, _, c3⟩, c4, c5, px', py'⟩ hv ln fun h2 tk dd kp2 => ?_
  refine fin h2 tk h'.objs.size (by rw [sz]; exact Nat.le_add_right _ _) dd fun b o e => ?_
  have lt := Heap.lt_size e
  refine kp2 b o (fun m => ?_) (kp b o e)
  have m' : b = s.heap.objs.size + 4 ∨ b = s.heap.objs.size + 3 ∨ b = s.heap.objs.size ∨ b = s.heap.objs.size + 1 := by simpa using m
  rcases m' with z | z | z | z <;> (rw [z] at lt; exact absurd lt (by simp))
theorem pe_dzip (hc : X.calm = true) (hd : Gl X "dict") (hmd : X.mg "dict" = none) (hz : Gl X "zip") (hmz : X.mg "zip" = none) (ha : PA X [a, b] ta)
    (hs : starEach [a, b] X.env = (false, eval a X.env) :: starEach [b] X.env := by rfl) (hpl : (backTo pos2 (starEach [b] X.env)).any (·.1) = false := by rfl)
    (na : starEach [.Call (.Name "zip" p2) [a, b] [] pos2] X.env = (false, eval (.Call (.Name "zip" p2) [a, b] [] pos2) X.env) :: starEach [] X.env := by rfl) :
    PE X (.Call (.Name "dict" p1) [.Call (.Name "zip" p2) [a, b] [] pos2] [] pos) (tDZip X.K ta) := by
  refine ⟨fun pins s σ H Q I h => ?_⟩
  refine Call_ (ld_blt I hd hmd PyProof.Rows.boot_dict ?_)
  refine PyProof.Rows.callWith_type1 (PyProof.Rows.args_cons ?_ na) na rfl
  refine Call_ (ld_blt I hz hmz PyProof.Rows.boot_zip (PyProof.Rows.callWith_type1 (thn (ha.run pos2 pins s σ H _ I h) fun us s1 ⟨vs, H1, I1, r1, q1⟩ => ?_) hs hpl))
  obtain ⟨x, y, ks, ws, ex, sx, sy, q⟩ := q1
  subst ex
  obtain ⟨u, v, rfl, rx, ry⟩ := Vals.two r1
  obtain rfl : u = Value.ref x := rx
  obtain rfl : v = Value.ref y := ry
  obtain ⟨its, rv, px, zx⟩ := I1.tuple sx
  obtain ⟨its2, rv2, py, zy⟩ := I1.tuple sy
  rw [List.length_map] at zx
  refine wpAny_mono (call_dzip (Q := EP X pins σ Q) (I1.ok.hd hc) px py rv zx fun h2 tk p le dd kp => ?_) (fun z s2 q => PyProof.Rows.args_nil q) fun _ _ q => q
  have len : (mergeK [] (ks.zip ws)).length ≤ sizeLine := by
    refine Nat.le_trans (merge_len _ _) ?_
    rw [List.length_nil, List.length_zip, Nat.zero_add]
    exact Nat.le_trans (Nat.min_le_left _ _) zx
  have big := I1.big
  exact ⟨.ref p, _, I1.laid (t' := tk) kp le (dk_new len (beq_eq_false_iff_ne.mpr (Nat.ne_of_gt (Nat.lt_of_lt_of_le big le))) ((zipT_kv rv rv2).merge .nil) dd), rfl, q _ (I1.hok.fresh le)⟩
def gDZip : List D → M KD := fun ds st => match ds with
  | [.tup xs, .tup ys] => (match keysD xs with
    | some ks => .ok (putAll [] (ks.zip ys)) st
    | none => .stuck)
  | _ => .stuck
def mDZip (mr : Ev → M (List D)) : Ev → M KD := fun Γ => do
  let ds ← mr Γ
  gDZip ds
theorem repK_zip {F : Hp} : ∀ {ks : List Key} {ws : List V} {ys : List D} {kvs : List (Key × V)} {kv : KD}, Reps k F ws ys → RepK k F kvs kv → RepK k F (mergeK kvs (ks.zip ws)) (putAll kv (ks.zip ys))
  | [], ws, ys, kvs, kv, _, r => by rw [List.zip_nil_left, List.zip_nil_left]; exact r
  | z :: ks, [], [], kvs, kv, .nil, r => by rw [List.zip_nil_right, List.zip_nil_right]; exact r
  | z :: ks, w :: ws, y :: ys, kvs, kv, .cons h t, r => repK_zip (ks := ks) t (r.put h)
theorem od_zip (hd : Gl X "dict") (hmd : X.mg "dict" = none) (hz : Gl X "zip") (hmz : X.mg "zip" = none) (ha : PA X [a, b] (tA k E mr)) (hc : X.calm = true := by rfl) (hK : k.K = X.K := by rfl)
    (hs : starEach [a, b] X.env = (false, eval a X.env) :: starEach [b] X.env := by rfl) (hpl : (backTo pos2 (starEach [b] X.env)).any (·.1) = false := by rfl)
    (na : starEach [.Call (.Name "zip" p2) [a, b] [] pos2] X.env = (false, eval (.Call (.Name "zip" p2) [a, b] [] pos2) X.env) :: starEach [] X.env := by rfl) :
    PE X (.Call (.Name "dict" p1) [.Call (.Name "zip" p2) [a, b] [] pos2] [] pos) (tOD k E (mDZip mr)) :=
  PE.weak (pe_dzip hc hd hmd hz hmz ha hs hpl na) fun σ H Q ⟨F, Γ, st, ok, w⟩ => tA.then_ ok w fun vs ds F1 H1 st1 s1 ok1 r1 w1 => by
    unfold gDZip at w1
    split at w1
    · split at w1
      · rename_i ks ek
        match vs, r1 with
        | [_, _], .cons (.tup h rx _) (.cons (.tup h2 ry _) .nil) =>
          have em := keysD_map ek
          subst em
          have ex := reps_kD rx
          subst ex
          rw [hK] at h h2
          refine ⟨_, _, ks, _, rfl, sqt_mono ok1.sub h, sqt_mono ok1.sub h2, fun p np => ?_⟩
          exact w1 _ _ (ok1.new' np) p _ upd_same (ok1.fnone np) (s1.back np) ((repK_zip ry .nil).mono (fun _ _ e => e))
      · exact w1.elim
    · exact w1.elim
end
end FL

/-! FL49: zip of two or three, lists and tuples mixed -/
namespace FL
open PySem PySem.Spec PyProof.Rows L2 RZ
/-- a list or a tuple to go through -/
inductive Sx where
  | l (a : Addr)
  | t (a : Addr)
def Sx.a : Sx → Addr
  | .l a => a
  | .t a => a
def SqS (K : PySem.W.Frag) (H : Hp) : Sx → List V → Prop
  | .l a, xs => SqL K H a xs
  | .t a, xs => SqT K H a xs
def SitS : Sx → Addr → Nat → Heap → Prop
  | .l a, it, i, h => h.IsListIter it a i
  | .t a, it, i, h => h.IsTupleIter it a i
def SisS : Sx → Array Value → Heap → Prop
  | .l a, xs, h => h.IsList a xs
  | .t a, xs, h => h.IsTuple a xs
def SoS : Sx → Obj
  | .l a => { cls := .type "list_iterator", data := .fields #[.ref a, .int 0 0] }
  | .t a => { cls := .type "tuple_iterator", data := .fields #[.ref a, .int 0 0] }
theorem SitS.obj {S : Sx} {it : Addr} {i : Nat} {h : Heap} (x : SitS S it i h) : ∃ o, h.get? it = some o ∧ ∀ v, o.data ≠ .cell v := by
  cases S with
  | l a => obtain ⟨o, e, _, d⟩ := x; exact ⟨o, e, fun v q => by rw [d] at q; cases q⟩
  | t a => obtain ⟨o, e, _, d⟩ := x; exact ⟨o, e, fun v q => by rw [d] at q; cases q⟩

theorem SitS.at {S : Sx} {it : Addr} {i : Nat} {h h' : Heap} (x : SitS S it i h) (k : ∀ o, h.get? it = some o → h'.get? it = some o) : SitS S it i h' := by
  cases S with
  | l a => exact Heap.IsListIter.at x k
  | t a => exact Heap.IsTupleIter.at x k
theorem Sx.draws {prog : Program} {w : World} {A : Around} (S : Sx) (hh : A.handled = none) (it : Addr) (hne : S.a ≠ it) (items : Array Value) :
    Draws prog w A.in1 it [it, S.a] items.size (fun i v => items[i]? = some v) (fun i h => SitS S it i h ∧ SisS S items h) := by
  cases S with
  | l a => exact Draws.list (A := A.in1) hh it a hne items
  | t a => exact Draws.tuple (A := A.in1) hh it a hne items
theorem Sx.draws2 {prog : Program} {w : World} {A : Around} (S : Sx) (hh : A.handled = none) (it : Addr) (hne : S.a ≠ it) (i : Nat) (items : Array Value) :
    Draws prog w A.in1 it [it, S.a] (max items.size i) (fun i v => items[i]? = some v) (fun j h => (SitS S it j h ∧ SisS S items h) ∧ (items.size ≤ i → j = i)) := by
  have D := S.draws (prog := prog) (w := w) hh it hne items
  by_cases hs : items.size ≤ i
  · have hm : max items.size i = i := Nat.max_eq_right hs
    rw [hm]
    refine ⟨fun j h st => D.live j h st.1, fun j h h' st k => ⟨D.frame j h h' st.1 k, st.2⟩, fun j s Q E hj st _ => absurd (st.2 hs) (Nat.ne_of_lt hj), fun s Q E st hE => ?_⟩
    cases S with
    | l a => exact wpAny_nextOf_list_end (A := A.in1) hh st.1.1 st.1.2 (by simpa using hs) hE
    | t a => exact wpAny_nextOf_tuple_end (A := A.in1) hh st.1.1 st.1.2 (by simpa using hs) hE
  · have hm : max items.size i = items.size := Nat.max_eq_left (by omega)
    rw [hm]
    exact ⟨fun j h st => D.live j h st.1, fun j h h' st k => ⟨D.frame j h h' st.1 k, fun q => absurd q hs⟩, fun j s Q E hj st hQ => D.item j s Q E hj st.1 fun x h' tk p st' => hQ x h' tk p ⟨st', fun q => absurd q hs⟩, fun s Q E st hE => D.done s Q E st.1 hE⟩
section
variable {X : Cx} {pins : List (Addr × Obj)} {σ : L2.St} {H : Hp} {s : Shared}
theorem SqS.is {S : Sx} {xs : List V} (q : SqS X.K H S xs) (I : Inv X pins σ H s) : ∃ its, Vals xs its ∧ SisS S its.toArray s.heap := by
  cases S with
  | l a => obtain ⟨its, rv, p, _⟩ := I.list q; exact ⟨its, rv, p.isList⟩
  | t a => obtain ⟨its, rv, p, _⟩ := I.tuple q; exact ⟨its, rv, p⟩
theorem SqS.inj {S : Sx} {xs ys : List V} (q : SqS X.K H S xs) (I : Inv X pins σ H s) (q' : SqS X.K H S ys) : xs = ys := by
  cases S with
  | l a => exact I.list_inj q q'
  | t a => exact I.tuple_inj q q'
end

/-- 2 as they stand at each turn, the items in new tuples -/
def ItzS2 (K : PySem.W.Frag) (S1 S2 : Sx) : It :=
  ⟨fun i H => ∃ (xs1 xs2 : List V) (x1 x2 : V), SqS K H S1 xs1 ∧ SqS K H S2 xs2 ∧ xs1[i]? = some x1 ∧ xs2[i]? = some x2,
    fun i H v H' => ∃ T x1 x2, v = .ref T ∧ H T = none ∧ H' = upd H T (.tup [x1, x2]) ∧ (∀ xs, SqS K H S1 xs → xs[i]? = some x1) ∧ (∀ xs, SqS K H S2 xs → xs[i]? = some x2),
    fun i H => ∃ xs1 xs2 : List V, SqS K H S1 xs1 ∧ SqS K H S2 xs2 ∧ (xs1.length ≤ i ∨ xs2.length ≤ i)⟩
theorem turn_zipS2 {P : Program} {w : World} {K : PySem.W.Frag} {elts : List Expr} {kk : Nat} {tpos : Pos} {S1 S2 : Sx} {z TI TO i1 i2 : Addr} (D : ZipSep2 z TI TO i1 i2 [i1, S1.a] [i2, S2.a]) (nn : S1.a ≠ i1 ∧ S2.a ≠ i2) :
    Turn P w K (.Tuple elts kk tpos) (ItzS2 K S1 S2) [z, TI, TO, i1, i2] z (fun i h => IsZip h z TI TO .none ∧ IsTupOf2 h TI (.ref i1) (.ref i2) ∧ (∃ x1 x2, IsTupOf2 h TO x1 x2) ∧ SitS S1 i1 i h ∧ SitS S2 i2 i h) where
  mem := by simp
  obj := fun i h st c hc => by
    obtain ⟨hz, hTI, ⟨x1, x2, hTO⟩, h1, h2⟩ := st
    have e' : c = z ∨ c = TI ∨ c = TO ∨ c = i1 ∨ c = i2 := by simpa using hc
    rcases e' with q | q | q | q | q
    · rw [q]; exact ⟨_, hz, fun v q => nomatch q⟩
    · rw [q]; exact ⟨_, hTI, fun v q => nomatch q⟩
    · rw [q]; exact ⟨_, hTO, fun v q => nomatch q⟩
    · rw [q]; exact h1.obj
    · rw [q]; exact h2.obj
  keep := fun i h h' st k => by
    obtain ⟨hz, hTI, ⟨x1, x2, hTO⟩, h1, h2⟩ := st
    exact ⟨k z (by simp) _ hz, k TI (by simp) _ hTI, ⟨x1, x2, k TO (by simp) _ hTO⟩, h1.at fun o q => k i1 (by simp) o q, h2.at fun o q => k i2 (by simp) o q⟩
  item := by
    intro X hP hw hK hc i pins s σ H E I hf st hg
    subst hP hw hK
    obtain ⟨hz, hTI, ⟨y1, y2, hTO⟩, h1, h2⟩ := st
    obtain ⟨xs1, xs2, x1, x2, q1, q2, e1, e2⟩ := hg
    obtain ⟨m1, m2⟩ := nn
    obtain ⟨its1, rv1, p1⟩ := q1.is I
    obtain ⟨u1, hu1, ru1⟩ := rv1.get e1
    have lt1 : i < its1.toArray.size := by have := (List.getElem?_eq_some_iff.mp hu1).1; simpa using this
    obtain ⟨its2, rv2, p2⟩ := q2.is I
    obtain ⟨u2, hu2, ru2⟩ := rv2.get e2
    have lt2 : i < its2.toArray.size := by have := (List.getElem?_eq_some_iff.mp hu2).1; simpa using this
    have hzl : z < s.heap.objs.size := Heap.lt_size hz
    refine wpAny_pyNext_zipD2_item D (S1.draws (I.ok.hd hc) i1 m1 its1.toArray) (S2.draws (I.ok.hd hc) i2 m2 its2.toArray) hz hTI hTO ⟨h1, p1⟩ ⟨h2, p2⟩ lt1 lt2 fun w1 w2 h' tk g1 g2 z' TO' s1' s2' hT hsz hk => ?_
    obtain rfl : w1 = u1 := by rw [List.getElem?_toArray, hu1] at g1; exact (Option.some.inj g1).symm
    obtain rfl : w2 = u2 := by rw [List.getElem?_toArray, hu2] at g2; exact (Option.some.inj g2).symm
    refine ⟨_, rfl, wpAny_letOwnedTupleGo_zip (s := { s with heap := h', toks := tk }) z' fun h'' z'' sb => ?_⟩
    have hT2 : h''.get? s.heap.objs.size = some { cls := .type "tuple", data := .seq #[w1, w2] } := (sb.2 _ (Nat.ne_of_gt hzl)).trans hT
    have new : ObjOk X.prog X.w (upd H s.heap.objs.size (.tup [x1, x2])) h'' s.heap.objs.size (.tup [x1, x2]) :=
      ⟨by show 2 ≤ sizeLine; decide, [w1, w2], .cons ru1 (.cons ru2 (.nil)), ⟨_, hT2, rfl, _, rfl⟩⟩
    have I1 : Inv X pins σ (upd H s.heap.objs.size (.tup [x1, x2])) { s with heap := h'', toks := tk } :=
      I.turnedNew (t' := tk) (ch := [z, TI, TO, i1, i2]) (fun c o hb q => (sb.2 c (fun q' => hb (by simp [q']))).trans (hk c o (fun q' => hb (by simp [q'])) (fun q' => hb (by simp [q'])) (fun q' => hb (by simp [q'])) (fun q' => hb (by simp [q'])) q)) hf (Nat.le_refl _) new
    refine ⟨.ref s.heap.objs.size, _, I1, rfl, ⟨_, x1, x2, rfl, I.hok.fresh (Nat.le_refl _), rfl, fun l hl => by rw [hl.inj I q1]; exact e1, fun l hl => by rw [hl.inj I q2]; exact e2⟩, ⟨z'', ?_, ⟨w1, w2, ?_⟩, ?_, ?_⟩, fun c hcm => ?_⟩
    · exact (sb.2 _ D.TIz).trans (hk _ _ D.TIz D.TITO D.TIi1 D.TIi2 hTI)
    · exact (sb.2 _ D.TOz).trans TO'
    · exact s1'.1.at fun o q => (sb.2 _ (Ne.symm D.zi1)).trans q
    · exact s2'.1.at fun o q => (sb.2 _ (Ne.symm D.zi2)).trans q
    · have hlt : c < s.heap.objs.size := by
        have e' : c = z ∨ c = TI ∨ c = TO ∨ c = i1 ∨ c = i2 := by simpa using hcm
        rcases e' with q | q | q | q | q
        · rw [q]; exact hzl
        · rw [q]; exact Heap.lt_size hTI
        · rw [q]; exact Heap.lt_size hTO
        · rw [q]; obtain ⟨_, e1, _⟩ := h1.obj; exact Heap.lt_size e1
        · rw [q]; obtain ⟨_, e1, _⟩ := h2.obj; exact Heap.lt_size e1
      rw [upd_ne (Nat.ne_of_lt hlt)]
      exact (hf c hcm).1
  done := by
    intro X hP hw hK hc i pins s σ H E I hf st hg
    subst hP hw hK
    obtain ⟨hz, hTI, ⟨y1, y2, hTO⟩, h1, h2⟩ := st
    obtain ⟨xs1, xs2, q1, q2, hend⟩ := hg
    obtain ⟨m1, m2⟩ := nn
    obtain ⟨its1, rv1, p1⟩ := q1.is I
    have l1 := rv1.length
    obtain ⟨its2, rv2, p2⟩ := q2.is I
    have l2 := rv2.length
    refine wpAny_pyNext_zipD2_end D (S1.draws2 (I.ok.hd hc) i1 m1 i its1.toArray) (S2.draws2 (I.ok.hd hc) i2 m2 i its2.toArray) hz hTI hTO ⟨⟨h1, p1⟩, fun _ => rfl⟩ ⟨⟨h2, p2⟩, fun _ => rfl⟩ (Nat.le_max_right _ _) (Nat.le_max_right _ _) ?_ fun h' tk hk => ⟨rfl, I.turnedL (t' := tk) (ch := [z, TI, TO, i1, i2]) (fun c o hb q => hk c o (fun q' => hb (by simp [q'])) (fun q' => hb (by simp [q'])) (fun q' => hb (by simp [q'])) (fun q' => hb (by simp [q'])) q) hf⟩
    simp only [List.size_toArray]
    omega
  self := fun A i s Q E st h => wpAny_pyIter_zip st.1 h

/-- 3 as they stand at each turn, the items in new tuples -/
def ItzS3 (K : PySem.W.Frag) (S1 S2 S3 : Sx) : It :=
  ⟨fun i H => ∃ (xs1 xs2 xs3 : List V) (x1 x2 x3 : V), SqS K H S1 xs1 ∧ SqS K H S2 xs2 ∧ SqS K H S3 xs3 ∧ xs1[i]? = some x1 ∧ xs2[i]? = some x2 ∧ xs3[i]? = some x3,
    fun i H v H' => ∃ T x1 x2 x3, v = .ref T ∧ H T = none ∧ H' = upd H T (.tup [x1, x2, x3]) ∧ (∀ xs, SqS K H S1 xs → xs[i]? = some x1) ∧ (∀ xs, SqS K H S2 xs → xs[i]? = some x2) ∧ (∀ xs, SqS K H S3 xs → xs[i]? = some x3),
    fun i H => ∃ xs1 xs2 xs3 : List V, SqS K H S1 xs1 ∧ SqS K H S2 xs2 ∧ SqS K H S3 xs3 ∧ (xs1.length ≤ i ∨ xs2.length ≤ i ∨ xs3.length ≤ i)⟩
theorem turn_zipS3 {P : Program} {w : World} {K : PySem.W.Frag} {elts : List Expr} {kk : Nat} {tpos : Pos} {S1 S2 S3 : Sx} {z TI TO i1 i2 i3 : Addr} (D : ZipSep3 z TI TO i1 i2 i3 [i1, S1.a] [i2, S2.a] [i3, S3.a]) (nn : S1.a ≠ i1 ∧ S2.a ≠ i2 ∧ S3.a ≠ i3) :
    Turn P w K (.Tuple elts kk tpos) (ItzS3 K S1 S2 S3) [z, TI, TO, i1, i2, i3] z (fun i h => IsZip h z TI TO .none ∧ IsTupOf3 h TI (.ref i1) (.ref i2) (.ref i3) ∧ (∃ x1 x2 x3, IsTupOf3 h TO x1 x2 x3) ∧ SitS S1 i1 i h ∧ SitS S2 i2 i h ∧ SitS S3 i3 i h) where
  mem := by simp
  obj := fun i h st c hc => by
    obtain ⟨hz, hTI, ⟨x1, x2, x3, hTO⟩, h1, h2, h3⟩ := st
    have e' : c = z ∨ c = TI ∨ c = TO ∨ c = i1 ∨ c = i2 ∨ c = i3 := by simpa using hc
    rcases e' with q | q | q | q | q | q
    · rw [q]; exact ⟨_, hz, fun v q => nomatch q⟩
    · rw [q]; exact ⟨_, hTI, fun v q => nomatch q⟩
    · rw [q]; exact ⟨_, hTO, fun v q => nomatch q⟩
    · rw [q]; exact h1.obj
    · rw [q]; exact h2.obj
    · rw [q]; exact h3.obj
  keep := fun i h h' st k => by
    obtain ⟨hz, hTI, ⟨x1, x2, x3, hTO⟩, h1, h2, h3⟩ := st
    exact ⟨k z (by simp) _ hz, k TI (by simp) _ hTI, ⟨x1, x2, x3, k TO (by simp) _ hTO⟩, h1.at fun o q => k i1 (by simp) o q, h2.at fun o q => k i2 (by simp) o q, h3.at fun o q => k i3 (by simp) o q⟩
  item := by
    intro X hP hw hK hc i pins s σ H E I hf st hg
    subst hP hw hK
    obtain ⟨hz, hTI, ⟨y1, y2, y3, hTO⟩, h1, h2, h3⟩ := st
    obtain ⟨xs1, xs2, xs3, x1, x2, x3, q1, q2, q3, e1, e2, e3⟩ := hg
    obtain ⟨m1, m2, m3⟩ := nn
    obtain ⟨its1, rv1, p1⟩ := q1.is I
    obtain ⟨u1, hu1, ru1⟩ := rv1.get e1
    have lt1 : i < its1.toArray.size := by have := (List.getElem?_eq_some_iff.mp hu1).1; simpa using this
    obtain ⟨its2, rv2, p2⟩ := q2.is I
    obtain ⟨u2, hu2, ru2⟩ := rv2.get e2
    have lt2 : i < its2.toArray.size := by have := (List.getElem?_eq_some_iff.mp hu2).1; simpa using this
    obtain ⟨its3, rv3, p3⟩ := q3.is I
    obtain ⟨u3, hu3, ru3⟩ := rv3.get e3
    have lt3 : i < its3.toArray.size := by have := (List.getElem?_eq_some_iff.mp hu3).1; simpa using this
    have hzl : z < s.heap.objs.size := Heap.lt_size hz
    refine wpAny_pyNext_zipD3_item D (S1.draws (I.ok.hd hc) i1 m1 its1.toArray) (S2.draws (I.ok.hd hc) i2 m2 its2.toArray) (S3.draws (I.ok.hd hc) i3 m3 its3.toArray) hz hTI hTO ⟨h1, p1⟩ ⟨h2, p2⟩ ⟨h3, p3⟩ lt1 lt2 lt3 fun w1 w2 w3 h' tk g1 g2 g3 z' TO' s1' s2' s3' hT hsz hk => ?_
    obtain rfl : w1 = u1 := by rw [List.getElem?_toArray, hu1] at g1; exact (Option.some.inj g1).symm
    obtain rfl : w2 = u2 := by rw [List.getElem?_toArray, hu2] at g2; exact (Option.some.inj g2).symm
    obtain rfl : w3 = u3 := by rw [List.getElem?_toArray, hu3] at g3; exact (Option.some.inj g3).symm
    refine ⟨_, rfl, wpAny_letOwnedTupleGo_zip (s := { s with heap := h', toks := tk }) z' fun h'' z'' sb => ?_⟩
    have hT2 : h''.get? s.heap.objs.size = some { cls := .type "tuple", data := .seq #[w1, w2, w3] } := (sb.2 _ (Nat.ne_of_gt hzl)).trans hT
    have new : ObjOk X.prog X.w (upd H s.heap.objs.size (.tup [x1, x2, x3])) h'' s.heap.objs.size (.tup [x1, x2, x3]) :=
      ⟨by show 3 ≤ sizeLine; decide, [w1, w2, w3], .cons ru1 (.cons ru2 (.cons ru3 (.nil))), ⟨_, hT2, rfl, _, rfl⟩⟩
    have I1 : Inv X pins σ (upd H s.heap.objs.size (.tup [x1, x2, x3])) { s with heap := h'', toks := tk } :=
      I.turnedNew (t' := tk) (ch := [z, TI, TO, i1, i2, i3]) (fun c o hb q => (sb.2 c (fun q' => hb (by simp [q']))).trans (hk c o (fun q' => hb (by simp [q'])) (fun q' => hb (by simp [q'])) (fun q' => hb (by simp [q'])) (fun q' => hb (by simp [q'])) (fun q' => hb (by simp [q'])) q)) hf (Nat.le_refl _) new
    refine ⟨.ref s.heap.objs.size, _, I1, rfl, ⟨_, x1, x2, x3, rfl, I.hok.fresh (Nat.le_refl _), rfl, fun l hl => by rw [hl.inj I q1]; exact e1, fun l hl => by rw [hl.inj I q2]; exact e2, fun l hl => by rw [hl.inj I q3]; exact e3⟩, ⟨z'', ?_, ⟨w1, w2, w3, ?_⟩, ?_, ?_, ?_⟩, fun c hcm => ?_⟩
    · exact (sb.2 _ D.TIz).trans (hk _ _ D.TIz D.TITO D.TIi1 D.TIi2 D.TIi3 hTI)
    · exact (sb.2 _ D.TOz).trans TO'
    · exact s1'.1.at fun o q => (sb.2 _ (Ne.symm D.zi1)).trans q
    · exact s2'.1.at fun o q => (sb.2 _ (Ne.symm D.zi2)).trans q
    · exact s3'.1.at fun o q => (sb.2 _ (Ne.symm D.zi3)).trans q
    · have hlt : c < s.heap.objs.size := by
        have e' : c = z ∨ c = TI ∨ c = TO ∨ c = i1 ∨ c = i2 ∨ c = i3 := by simpa using hcm
        rcases e' with q | q | q | q | q | q
        · rw [q]; exact hzl
        · rw [q]; exact Heap.lt_size hTI
        · rw [q]; exact Heap.lt_size hTO
        · rw [q]; obtain ⟨_, e1, _⟩ := h1.obj; exact Heap.lt_size e1
        · rw [q]; obtain ⟨_, e1, _⟩ := h2.obj; exact Heap.lt_size e1
        · rw [q]; obtain ⟨_, e1, _⟩ := h3.obj; exact Heap.lt_size e1
      rw [upd_ne (Nat.ne_of_lt hlt)]
      exact (hf c hcm).1
  done := by
    intro X hP hw hK hc i pins s σ H E I hf st hg
    subst hP hw hK
    obtain ⟨hz, hTI, ⟨y1, y2, y3, hTO⟩, h1, h2, h3⟩ := st
    obtain ⟨xs1, xs2, xs3, q1, q2, q3, hend⟩ := hg
    obtain ⟨m1, m2, m3⟩ := nn
    obtain ⟨its1, rv1, p1⟩ := q1.is I
    have l1 := rv1.length
    obtain ⟨its2, rv2, p2⟩ := q2.is I
    have l2 := rv2.length
    obtain ⟨its3, rv3, p3⟩ := q3.is I
    have l3 := rv3.length
    refine wpAny_pyNext_zipD3_end D (S1.draws2 (I.ok.hd hc) i1 m1 i its1.toArray) (S2.draws2 (I.ok.hd hc) i2 m2 i its2.toArray) (S3.draws2 (I.ok.hd hc) i3 m3 i its3.toArray) hz hTI hTO ⟨⟨h1, p1⟩, fun _ => rfl⟩ ⟨⟨h2, p2⟩, fun _ => rfl⟩ ⟨⟨h3, p3⟩, fun _ => rfl⟩ (Nat.le_max_right _ _) (Nat.le_max_right _ _) (Nat.le_max_right _ _) ?_ fun h' tk hk => ⟨rfl, I.turnedL (t' := tk) (ch := [z, TI, TO, i1, i2, i3]) (fun c o hb q => hk c o (fun q' => hb (by simp [q'])) (fun q' => hb (by simp [q'])) (fun q' => hb (by simp [q'])) (fun q' => hb (by simp [q'])) (fun q' => hb (by simp [q'])) q) hf⟩
    simp only [List.size_toArray]
    omega
  self := fun A i s Q E st h => wpAny_pyIter_zip st.1 h
theorem Sx.begins (S : Sx) (items : Array Value) : Begins (.ref S.a) (SoS S) (SisS S items) := by
  cases S with
  | l a => exact begins_list a items
  | t a => exact begins_tuple a items
theorem SitS.first {S : Sx} {it : Addr} {h : Heap} (e : h.get? it = some (SoS S)) : SitS S it 0 h := by
  cases S with
  | l a => exact ⟨_, e, rfl, rfl⟩
  | t a => exact ⟨_, e, rfl, rfl⟩
theorem SisS.lt {S : Sx} {items : Array Value} {h : Heap} (x : SisS S items h) : S.a < h.objs.size := by
  cases S with
  | l a => obtain ⟨o, e, _⟩ := x; exact Heap.lt_size e
  | t a => obtain ⟨o, e, _⟩ := x; exact Heap.lt_size e
def asS : D → Option (List D)
  | .lst xs => some xs
  | .bor xs => some xs
  | .tup xs => some xs
  | .ltp xs => some xs
  | _ => none
def StS (k : Kx) (F : Hp) : Sx → List V → Prop
  | .l a, vs => Stands k F a vs
  | .t a, vs => SqT k.K F a vs
section
variable {k : Kx}
theorem asS_use {F : Hp} {v : V} {d : D} {xs : List D} (r : Rep k F v d) (e : asS d = some xs) : ∃ S vs, v = .ref S.a ∧ Reps k F vs xs ∧ StS k F S vs := by
  cases r with
  | lst h rs => cases e; exact ⟨.l _, _, rfl, rs, fun F1 H1 s1 s2 _ => s2 _ _ (s1 _ _ h)⟩
  | bor h rs => cases e; exact ⟨.l _, _, rfl, rs, fun F1 H1 _ _ sb => sb _ _ h⟩
  | tup h rs _ => cases e; exact ⟨.t _, _, rfl, rs, h⟩
  | ltp h rs => cases e; exact ⟨.t _, _, rfl, rs, h⟩
  | _ => cases e
theorem StS.get {F F1 H1 : Hp} {S : Sx} {vs : List V} (h : StS k F S vs) (s1 : Same F F1) (s2 : Same F1 H1) (sb : Same k.B H1) : SqS k.K H1 S vs := by
  cases S with
  | l a => exact SqL.of (h _ _ s1 s2 sb)
  | t a => exact sqt_mono (s1.trans s2) h
theorem StS.at {F F1 H1 : Hp} {σ : L2.St} {Γ : Ev} {st : DS} {S : Sx} {vs : List V} (h : StS k F S vs) (s1 : Same F F1) (ok : Ok k F1 H1 σ Γ st) : SqS k.K H1 S vs := h.get s1 ok.sub ok.bsub
end
def zip3D : List D → List D → List D → List D
  | a :: as, b :: bs, c :: cs => .ltp [a, b, c] :: zip3D as bs cs
  | _, _, _ => []
theorem zip3D_length : ∀ as bs cs : List D, (zip3D as bs cs).length = min (min as.length bs.length) cs.length
  | a :: as, b :: bs, c :: cs => by simp only [zip3D, List.length_cons, zip3D_length as bs cs]; omega
  | [], _, _ => by simp [zip3D]
  | _ :: _, [], _ => by simp [zip3D]
  | _ :: _, _ :: _, [] => by simp [zip3D]
theorem zip3D_get : ∀ {as bs cs : List D} {i : Nat} {a b c : D}, as[i]? = some a → bs[i]? = some b → cs[i]? = some c → (zip3D as bs cs)[i]? = some (.ltp [a, b, c])
  | x :: as, y :: bs, z :: cs, 0, a, b, c, e1, e2, e3 => by cases e1; cases e2; cases e3; rfl
  | x :: as, y :: bs, z :: cs, i + 1, a, b, c, e1, e2, e3 => by
    simp only [zip3D, List.getElem?_cons_succ] at e1 e2 e3 ⊢
    exact zip3D_get e1 e2 e3
theorem zipD_get {as bs : List D} {i : Nat} {a b : D} (e1 : as[i]? = some a) (e2 : bs[i]? = some b) : (zipD as bs)[i]? = some (.ltp [a, b]) := by simp [zipD, List.getElem?_zipWith, e1, e2]
theorem vals_refs2 {a b : Addr} {us : List Value} (r : Vals [.ref a, .ref b] us) : us = [.ref a, .ref b] := by
  cases r with
  | cons r1 r => cases r with
    | cons r2 r => cases r; cases r1; cases r2; rfl
theorem vals_refs3 {a b c : Addr} {us : List Value} (r : Vals [.ref a, .ref b, .ref c] us) : us = [.ref a, .ref b, .ref c] := by
  cases r with
  | cons r1 r => cases r with
    | cons r2 r => cases r with
      | cons r3 r => cases r; cases r1; cases r2; cases r3; rfl
theorem reps2 {k : Kx} {F : Hp} {vs : List V} {a b : D} (r : Reps k F vs [a, b]) : ∃ u v, vs = [u, v] ∧ Rep k F u a ∧ Rep k F v b := by
  cases r with
  | cons r1 r => cases r with
    | cons r2 r => cases r; exact ⟨_, _, rfl, r1, r2⟩
theorem reps3 {k : Kx} {F : Hp} {vs : List V} {a b c : D} (r : Reps k F vs [a, b, c]) : ∃ u v w, vs = [u, v, w] ∧ Rep k F u a ∧ Rep k F v b ∧ Rep k F w c := by
  cases r with
  | cons r1 r => cases r with
    | cons r2 r => cases r with
      | cons r3 r => cases r; exact ⟨_, _, _, rfl, r1, r2, r3⟩
section
variable {X : Cx}
def iZips2 (K : PySem.W.Frag) (ta : TA) : TI := fun σ H R => ta σ H fun vs H1 => ∃ (S1 S2 : Sx) (xs1 xs2 : List V), vs = [.ref S1.a, .ref S2.a] ∧ SqS K H1 S1 xs1 ∧ SqS K H1 S2 xs2 ∧ R (ItzS2 K S1 S2) H1
theorem pi_zipS2 {e1 e2 : Expr} {ta : TA} {p pos tpos : Pos} {elts : List Expr} {kk : Nat} (hg : Gl X "zip") (hm : X.mg "zip" = none) (ha : PA X [e1, e2] ta)
    (hs : starEach [e1, e2] X.env = (false, eval e1 X.env) :: starEach [e2] X.env := by rfl) (hpl : (backTo pos (starEach [e2] X.env)).any (·.1) = false := by rfl) :
    PI X (.Tuple elts kk tpos) (.Call (.Name "zip" p) [e1, e2] [] pos) (iZips2 X.K ta) := by
  refine ⟨fun pins s σ H R I h => ?_⟩
  refine Call_ (ld_blt I hg hm PyProof.Rows.boot_zip (PyProof.Rows.callWith_type1 (thn (ha.run pos pins s σ H _ I h) fun us s1 ⟨vs, H1, I1, r1, q1⟩ => ?_) hs hpl))
  obtain ⟨S1, S2, xs1, xs2, rfl, q1, q2, q⟩ := q1
  obtain rfl : us = [Value.ref S1.a, Value.ref S2.a] := by
    exact vals_refs2 r1
  obtain ⟨its1, rv1, p1⟩ := q1.is I1
  obtain ⟨its2, rv2, p2⟩ := q2.is I1
  refine zip_begins2 (S1.begins its1.toArray) (S2.begins its2.toArray) p1 p2 fun h' hz hTI hTO g1 g2 hsz hk => wpAny_pyIter_zip hz ?_
  have I2 : Inv X pins σ H1 { s1 with heap := h' } := I1.kept (t' := s1.toks) hk
  have nn : ∀ c, s1.heap.objs.size ≤ c → FpOk X pins H1 c := fun c hle => I1.fpOk hle (I1.hok.fresh hle)
  have D := zip_sep2 (N := s1.heap.objs.size) (fp1 := [S1.a]) (fp2 := [S2.a]) (fun b hb => by rw [List.mem_singleton.mp hb]; exact p1.lt) (fun b hb => by rw [List.mem_singleton.mp hb]; exact p2.lt)
  refine ⟨_, [s1.heap.objs.size + 4, s1.heap.objs.size + 2, s1.heap.objs.size + 3, s1.heap.objs.size, s1.heap.objs.size + 1], _, _, H1, rfl, I2, turn_zipS2 D ⟨Nat.ne_of_lt p1.lt, Nat.ne_of_lt (Nat.lt_of_lt_of_le p2.lt (Nat.le_add_right _ _))⟩, ⟨hz, hTI, ⟨_, _, hTO⟩, .first g1, .first g2⟩, fun c hc => ?_, q⟩
  refine nn c ?_
  simp only [List.mem_cons, List.not_mem_nil, or_false] at hc
  rcases hc with z | z | z | z | z <;> rw [z] <;> first | exact Nat.le_refl _ | exact Nat.le_add_right _ _
end
section
variable {k : Kx}
theorem it_zipS2 {F : Hp} {S1 S2 : Sx} {vs1 vs2 : List V} {xs1 xs2 : List D} (h1 : StS k F S1 vs1) (h2 : StS k F S2 vs2) (r1 : Reps k F vs1 xs1) (r2 : Reps k F vs2 xs2) : ItOk k (ItzS2 k.K S1 S2) F (zipD xs1 xs2) where
  go := fun i F1 H1 s1 s2 sb hi => by
    have hi' : i < vs1.length ∧ i < vs2.length := by
      have l1 := r1.length
      have l2 := r2.length
      simp only [zipD, List.length_zipWith] at hi
      omega
    exact ⟨vs1, vs2, vs1[i]'(hi'.1), vs2[i]'(hi'.2), h1.get s1 s2 sb, h2.get s1 s2 sb, List.getElem?_eq_getElem (hi'.1), List.getElem?_eq_getElem (hi'.2)⟩
  stop := fun i F1 H1 s1 s2 sb hi => by
    have hi' : vs1.length ≤ i ∨ vs2.length ≤ i := by
      have l1 := r1.length
      have l2 := r2.length
      simp only [zipD, List.length_zipWith] at hi
      omega
    exact ⟨vs1, vs2, h1.get s1 s2 sb, h2.get s1 s2 sb, hi'⟩
  yld := fun i x F1 H1 H2 σ Γ st s1 ok hi y => by
    obtain ⟨T, u1, u2, e1, nT, e2, f1, f2⟩ := y
    subst e1 e2
    obtain ⟨d1, g1, q1⟩ := r1.get (f1 vs1 (h1.at s1 ok))
    obtain ⟨d2, g2, q2⟩ := r2.get (f2 vs2 (h2.at s1 ok))
    exact ⟨.ltp [d1, d2], _, zipD_get g1 g2, ok.new nT, .ltp (SqT.of upd_same) (Reps.mono (ok.new nT).ext (.cons (q1.mono s1) (.cons (q2.mono s1) (.nil))))⟩
def gZips2 : List D → M (List D) := fun ds st => match ds with
  | [d1, d2] => (match asS d1, asS d2 with | some xs1, some xs2 => .ok (zipD xs1 xs2) st | _, _ => .stuck)
  | _ => .stuck
variable {X : Cx} {E : XE} {mr : Ev → M (List D)} {p pos : Pos}
theorem i_zipS2 {e1 e2 : Expr} {elts : List Expr} {kk : Nat} {tpos : Pos} (hg : Gl X "zip") (hm : X.mg "zip" = none) (ha : PA X [e1, e2] (tA k E mr)) (hk : k.K = X.K := by rfl)
    (hs : starEach [e1, e2] X.env = (false, eval e1 X.env) :: starEach [e2] X.env := by rfl) (hpl : (backTo pos (starEach [e2] X.env)).any (·.1) = false := by rfl) :
    PI X (.Tuple elts kk tpos) (.Call (.Name "zip" p) [e1, e2] [] pos) (tI k E (mSrc gZips2 mr)) :=
  PI.weak (pi_zipS2 hg hm ha hs hpl) fun σ H R ⟨F, Γ, st, ok, w⟩ => tA.then_ ok w fun vs ds F1 H1 st1 s1 ok1 r w1 => by
    unfold gZips2 at w1
    split at w1
    · split at w1
      · rename_i xs1 xs2 a1 a2
        obtain ⟨v1, v2, rfl, z1, z2⟩ := reps2 r
        obtain ⟨S1, vs1, rfl, r1, h1⟩ := asS_use z1 a1
        obtain ⟨S2, vs2, rfl, r2, h2⟩ := asS_use z2 a2
        refine ⟨S1, S2, vs1, vs2, rfl, ?_⟩
        rw [← hk]
        exact ⟨h1.get (Same.refl _) ok1.sub ok1.bsub, h2.get (Same.refl _) ok1.sub ok1.bsub, w1 F1 H1 ok1.refl _ (it_zipS2 h1 h2 r1 r2)⟩
      · exact w1.elim
    · exact w1.elim
end
section
variable {X : Cx}
def iZips3 (K : PySem.W.Frag) (ta : TA) : TI := fun σ H R => ta σ H fun vs H1 => ∃ (S1 S2 S3 : Sx) (xs1 xs2 xs3 : List V), vs = [.ref S1.a, .ref S2.a, .ref S3.a] ∧ SqS K H1 S1 xs1 ∧ SqS K H1 S2 xs2 ∧ SqS K H1 S3 xs3 ∧ R (ItzS3 K S1 S2 S3) H1
theorem pi_zipS3 {e1 e2 e3 : Expr} {ta : TA} {p pos tpos : Pos} {elts : List Expr} {kk : Nat} (hg : Gl X "zip") (hm : X.mg "zip" = none) (ha : PA X [e1, e2, e3] ta)
    (hs : starEach [e1, e2, e3] X.env = (false, eval e1 X.env) :: starEach [e2, e3] X.env := by rfl) (hpl : (backTo pos (starEach [e2, e3] X.env)).any (·.1) = false := by rfl) :
    PI X (.Tuple elts kk tpos) (.Call (.Name "zip" p) [e1, e2, e3] [] pos) (iZips3 X.K ta) := by
  refine ⟨fun pins s σ H R I h => ?_⟩
  refine Call_ (ld_blt I hg hm PyProof.Rows.boot_zip (PyProof.Rows.callWith_type1 (thn (ha.run pos pins s σ H _ I h) fun us s1 ⟨vs, H1, I1, r1, q1⟩ => ?_) hs hpl))
  obtain ⟨S1, S2, S3, xs1, xs2, xs3, rfl, q1, q2, q3, q⟩ := q1
  obtain rfl : us = [Value.ref S1.a, Value.ref S2.a, Value.ref S3.a] := by
    exact vals_refs3 r1
  obtain ⟨its1, rv1, p1⟩ := q1.is I1
  obtain ⟨its2, rv2, p2⟩ := q2.is I1
  obtain ⟨its3, rv3, p3⟩ := q3.is I1
  refine zip_begins3 (S1.begins its1.toArray) (S2.begins its2.toArray) (S3.begins its3.toArray) p1 p2 p3 fun h' hz hTI hTO g1 g2 g3 hsz hk => wpAny_pyIter_zip hz ?_
  have I2 : Inv X pins σ H1 { s1 with heap := h' } := I1.kept (t' := s1.toks) hk
  have nn : ∀ c, s1.heap.objs.size ≤ c → FpOk X pins H1 c := fun c hle => I1.fpOk hle (I1.hok.fresh hle)
  have D := zip_sep3 (N := s1.heap.objs.size) (fp1 := [S1.a]) (fp2 := [S2.a]) (fp3 := [S3.a]) (fun b hb => by rw [List.mem_singleton.mp hb]; exact p1.lt) (fun b hb => by rw [List.mem_singleton.mp hb]; exact p2.lt) (fun b hb => by rw [List.mem_singleton.mp hb]; exact p3.lt)
  refine ⟨_, [s1.heap.objs.size + 5, s1.heap.objs.size + 3, s1.heap.objs.size + 4, s1.heap.objs.size, s1.heap.objs.size + 1, s1.heap.objs.size + 2], _, _, H1, rfl, I2, turn_zipS3 D ⟨Nat.ne_of_lt p1.lt, Nat.ne_of_lt (Nat.lt_of_lt_of_le p2.lt (Nat.le_add_right _ _)), Nat.ne_of_lt (Nat.lt_of_lt_of_le p3.lt (Nat.le_add_right _ _))⟩, ⟨hz, hTI, ⟨_, _, _, hTO⟩, .first g1, .first g2, .first g3⟩, fun c hc => ?_, q⟩
  refine nn c ?_
  simp only [List.mem_cons, List.not_mem_nil, or_false] at hc
  rcases hc with z | z | z | z | z | z <;> rw [z] <;> first | exact Nat.le_refl _ | exact Nat.le_add_right _ _
end
section
variable {k : Kx}
theorem it_zipS3 {F : Hp} {S1 S2 S3 : Sx} {vs1 vs2 vs3 : List V} {xs1 xs2 xs3 : List D} (h1 : StS k F S1 vs1) (h2 : StS k F S2 vs2) (h3 : StS k F S3 vs3) (r1 : Reps k F vs1 xs1) (r2 : Reps k F vs2 xs2) (r3 : Reps k F vs3 xs3) : ItOk k (ItzS3 k.K S1 S2 S3) F (zip3D xs1 xs2 xs3) where
  go := fun i F1 H1 s1 s2 sb hi => by
    have hi' : i < vs1.length ∧ i < vs2.length ∧ i < vs3.length := by
      have l1 := r1.length
      have l2 := r2.length
      have l3 := r3.length
      rw [zip3D_length] at hi
      omega
    exact ⟨vs1, vs2, vs3, vs1[i]'(hi'.1), vs2[i]'(hi'.2.1), vs3[i]'(hi'.2.2), h1.get s1 s2 sb, h2.get s1 s2 sb, h3.get s1 s2 sb, List.getElem?_eq_getElem (hi'.1), List.getElem?_eq_getElem (hi'.2.1), List.getElem?_eq_getElem (hi'.2.2)⟩
  stop := fun i F1 H1 s1 s2 sb hi => by
    have hi' : vs1.length ≤ i ∨ vs2.length ≤ i ∨ vs3.length ≤ i := by
      have l1 := r1.length
      have l2 := r2.length
      have l3 := r3.length
      rw [zip3D_length] at hi
      omega
    exact ⟨vs1, vs2, vs3, h1.get s1 s2 sb, h2.get s1 s2 sb, h3.get s1 s2 sb, hi'⟩
  yld := fun i x F1 H1 H2 σ Γ st s1 ok hi y => by
    obtain ⟨T, u1, u2, u3, e1, nT, e2, f1, f2, f3⟩ := y
    subst e1 e2
    obtain ⟨d1, g1, q1⟩ := r1.get (f1 vs1 (h1.at s1 ok))
    obtain ⟨d2, g2, q2⟩ := r2.get (f2 vs2 (h2.at s1 ok))
    obtain ⟨d3, g3, q3⟩ := r3.get (f3 vs3 (h3.at s1 ok))
    exact ⟨.ltp [d1, d2, d3], _, zip3D_get g1 g2 g3, ok.new nT, .ltp (SqT.of upd_same) (Reps.mono (ok.new nT).ext (.cons (q1.mono s1) (.cons (q2.mono s1) (.cons (q3.mono s1) (.nil)))))⟩
def gZips3 : List D → M (List D) := fun ds st => match ds with
  | [d1, d2, d3] => (match asS d1, asS d2, asS d3 with | some xs1, some xs2, some xs3 => .ok (zip3D xs1 xs2 xs3) st | _, _, _ => .stuck)
  | _ => .stuck
variable {X : Cx} {E : XE} {mr : Ev → M (List D)} {p pos : Pos}
theorem i_zipS3 {e1 e2 e3 : Expr} {elts : List Expr} {kk : Nat} {tpos : Pos} (hg : Gl X "zip") (hm : X.mg "zip" = none) (ha : PA X [e1, e2, e3] (tA k E mr)) (hk : k.K = X.K := by rfl)
    (hs : starEach [e1, e2, e3] X.env = (false, eval e1 X.env) :: starEach [e2, e3] X.env := by rfl) (hpl : (backTo pos (starEach [e2, e3] X.env)).any (·.1) = false := by rfl) :
    PI X (.Tuple elts kk tpos) (.Call (.Name "zip" p) [e1, e2, e3] [] pos) (tI k E (mSrc gZips3 mr)) :=
  PI.weak (pi_zipS3 hg hm ha hs hpl) fun σ H R ⟨F, Γ, st, ok, w⟩ => tA.then_ ok w fun vs ds F1 H1 st1 s1 ok1 r w1 => by
    unfold gZips3 at w1
    split at w1
    · split at w1
      · rename_i xs1 xs2 xs3 a1 a2 a3
        obtain ⟨v1, v2, v3, rfl, z1, z2, z3⟩ := reps3 r
        obtain ⟨S1, vs1, rfl, r1, h1⟩ := asS_use z1 a1
        obtain ⟨S2, vs2, rfl, r2, h2⟩ := asS_use z2 a2
        obtain ⟨S3, vs3, rfl, r3, h3⟩ := asS_use z3 a3
        refine ⟨S1, S2, S3, vs1, vs2, vs3, rfl, ?_⟩
        rw [← hk]
        exact ⟨h1.get (Same.refl _) ok1.sub ok1.bsub, h2.get (Same.refl _) ok1.sub ok1.bsub, h3.get (Same.refl _) ok1.sub ok1.bsub, w1 F1 H1 ok1.refl _ (it_zipS3 h1 h2 h3 r1 r2 r3)⟩
      · exact w1.elim
    · exact w1.elim
end
end FL

/-! FL50: repr of data with many wide ints -/
namespace FL
open PySem L2
theorem Wid.reprB {d w : Nat} {x : D} (h : Wid d w x) (hd : d ≤ 60) (hb : x.py.bulk ≤ 2 ^ 14) : reprOk x = true := by
  have f := h.facts
  have hs : x.py.shown.length ≤ sizeLine := by
    have h1 := PyData.shown_le_bulk 601 (by decide) x.py f.short
    have h2 : (601 + 2) * x.py.bulk ≤ 603 * 16384 := Nat.mul_le_mul (by omega) (by omega)
    rw [sizeLine_eq]
    omega
  unfold reprOk
  simp only [f.plain, f.show_, f.noDict, Bool.not_false, Bool.and_true, Bool.true_and, Bool.and_eq_true, decide_eq_true_eq]
  exact ⟨Nat.le_trans f.depth hd, hs⟩
theorem bulkAll_map {α : Type} {f : α → D} {n : Nat} (h : ∀ a, (f a).py.bulk ≤ n) : ∀ us : List α, PyData.bulkAll (D.pys (us.map f)) ≤ us.length * (n + 1)
  | [] => by simp [D.pys, PyData.bulkAll]
  | u :: us => by
    have ih := bulkAll_map h us
    have h1 := h u
    rw [List.map_cons, D.pys, PyData.bulkAll, List.length_cons, Nat.succ_mul]
    omega
end FL

/-! FL51: own dicts whose keys are tuples, written out at each use (d[a, b]) -/
namespace FL
open PySem PySem.W PySem.Spec PyProof.Rows L2 RZ
abbrev KT := List (List Key × D)
def valT (kv : KT) (k : List Key) : Option D := (kv.find? fun p => decide (p.1 = k)).map (·.2)
def putT (kv : KT) (k : List Key) (d : D) : KT := if (kv.any fun p => decide (p.1 = k)) = true then kv.map (fun p => if p.1 = k then (p.1, d) else p) else kv ++ [(k, d)]
def RepT (k : Kx) (F : Hp) (kvs : List (List Key × V)) (kv : KT) : Prop := kvs.map (·.1) = kv.map (·.1) ∧ Reps k F (kvs.map (·.2)) (kv.map (·.2))
section
variable {k : Kx} {F F' H : Hp}
theorem RepT.nil : RepT k F [] [] := ⟨rfl, .nil⟩
theorem RepT.len {kvs : List (List Key × V)} {kv : KT} (r : RepT k F kvs kv) : kvs.length = kv.length := by
  have := congrArg List.length r.1
  simpa using this
theorem RepT.mono (s : Same F F') {kvs : List (List Key × V)} {kv : KT} (r : RepT k F kvs kv) : RepT k F' kvs kv := ⟨r.1, r.2.mono s⟩
theorem RepT.cons_inv {p : List Key × V} {kvs : List (List Key × V)} {kv : KT} (r : RepT k F (p :: kvs) kv) : ∃ d kv', kv = (p.1, d) :: kv' ∧ Rep k F p.2 d ∧ RepT k F kvs kv' := by
  obtain ⟨e, r⟩ := r
  match kv, e, r with
  | (k', d) :: kv', e, .cons h t =>
    rw [List.map_cons, List.map_cons] at e
    injection e with e1 e2
    exact ⟨d, kv', by rw [e1], h, e2, t⟩
  | [], e, _ => cases e
theorem RepT.cons {p : List Key × V} {d : D} {kvs : List (List Key × V)} {kv : KT} (h : Rep k F p.2 d) (t : RepT k F kvs kv) : RepT k F (p :: kvs) ((p.1, d) :: kv) := ⟨by rw [List.map_cons, List.map_cons, t.1], .cons h t.2⟩
theorem RepT.append {kvs kws : List (List Key × V)} {kv kw : KT} (h : RepT k F kvs kv) (t : RepT k F kws kw) : RepT k F (kvs ++ kws) (kv ++ kw) := ⟨by rw [List.map_append, List.map_append, h.1, t.1], by rw [List.map_append, List.map_append]; exact h.2.append t.2⟩
theorem RepT.any {y : List Key} : ∀ {kvs : List (List Key × V)} {kv : KT}, RepT k F kvs kv → (kvs.any fun p => decide (p.1 = y)) = (kv.any fun p => decide (p.1 = y))
  | [], [], _ => rfl
  | p :: kvs, kv, r => by
    obtain ⟨d, kv', rfl, h, t⟩ := r.cons_inv
    rw [List.any_cons, List.any_cons, RepT.any t]
  | [], _ :: _, r => by cases r.1
theorem RepT.val {y : List Key} : ∀ {kvs : List (List Key × V)} {kv : KT} {d : D}, RepT k F kvs kv → valT kv y = some d → ∃ v, valV kvs y = some v ∧ Rep k F v d
  | [], [], _, _, h => by cases h
  | p :: kvs, kv, d, r, h => by
    obtain ⟨d', kv', rfl, hh, t⟩ := r.cons_inv
    by_cases e : p.1 = y
    · rw [valV_pos e]
      unfold valT at h
      rw [List.find?_cons, decide_eq_true e] at h
      cases h
      exact ⟨_, rfl, hh⟩
    · rw [valV_neg e]
      unfold valT at h
      rw [List.find?_cons, decide_eq_false e] at h
      exact RepT.val t h
  | [], _ :: _, _, r, _ => by cases r.1
theorem RepT.val0 {y : List Key} {kvs : List (List Key × V)} {kv : KT} (r : RepT k F kvs kv) : (valV kvs y).isSome = (valT kv y).isSome := by
  have e := r.any (y := y)
  rw [valV_any] at e
  rw [e]
  unfold valT
  rw [Option.isSome_map, List.isSome_find?]
theorem RepT.repl {y : List Key} {v : V} {d : D} (hv : Rep k F v d) : ∀ {kvs : List (List Key × V)} {kv : KT}, RepT k F kvs kv → RepT k F (kvs.map fun p => if p.1 = y then (p.1, v) else p) (kv.map fun p => if p.1 = y then (p.1, d) else p)
  | [], [], _ => .nil
  | p :: kvs, kv, r => by
    obtain ⟨d', kv', rfl, h, t⟩ := r.cons_inv
    rw [List.map_cons, List.map_cons]
    by_cases e : p.1 = y
    · rw [if_pos e, if_pos (show ((p.1, d').1 = y) from e)]
      exact RepT.cons (p := (p.1, v)) hv (RepT.repl hv t)
    · rw [if_neg e, if_neg (show ¬ ((p.1, d').1 = y) from e)]
      exact RepT.cons h (RepT.repl hv t)
  | [], _ :: _, r => by cases r.1
theorem RepT.put {y : List Key} {v : V} {d : D} (hv : Rep k F v d) {kvs : List (List Key × V)} {kv : KT} (r : RepT k F kvs kv) : RepT k F (putK kvs y v) (putT kv y d) := by
  unfold putK putT
  rw [r.any]
  split
  · exact r.repl hv
  · exact r.append (RepT.cons (p := (y, v)) hv .nil)
theorem RepT.own {kvs : List (List Key × V)} {kv : KT} (r : RepT k F kvs kv) : RepO k F (.dT kvs) (.dt kv) := ⟨kvs, rfl, r.1, r.2⟩
end
def gOwnT (i : Nat) (Γ : Ev) : Option KT := match Γ[i]? with
  | some (some (.own (.dt kv))) => some kv
  | _ => none
theorem gOwnT_use {i : Nat} {Γ : Ev} {kv : KT} (h : gOwnT i Γ = some kv) : Γ[i]? = some (some (.own (.dt kv))) := by
  unfold gOwnT at h
  split at h
  · rename_i ys e
    cases h
    exact e
  · cases h
theorem keysD_rep {k : Kx} {F : Hp} : ∀ {vs : List V} {ds : List D} {ys : List Key}, Reps k F vs ds → keysD ds = some ys → vs = ys.map kV
  | [], [], _, .nil, h => by cases h; rfl
  | v :: vs, d :: ds, ys, .cons r t, h => by
    unfold keysD at h
    cases e1 : keyD d with
    | none => rw [e1] at h; cases h
    | some y =>
      cases e2 : keysD ds with
      | none => rw [e1, e2] at h; cases h
      | some zs =>
        rw [e1, e2] at h
        cases h
        rw [List.map_cons, ← keyD_rep r e1, ← keysD_rep t e2]
section
variable {X : Cx} {k : Kx} {E : XE} {e : Expr} {es : List Expr} {me : EM} {mr : Ev → M (List D)} {pos p p2 tp : Pos} {kk : Nat}
theorem own_dt {F H : Hp} {σ : L2.St} {Γ : Ev} {st : DS} (ok : Ok k F H σ Γ st) {i : Nat} {kv : KT} (h : gOwnT i Γ = some kv) : ∃ a kvs, σ[i]? = some (some (.ref a)) ∧ H a = some (.dT kvs) ∧ RepT k F kvs kv := by
  obtain ⟨v, e2, a, _, rfl, ha, fa, n1, n3, kvs, rfl, r1, r2⟩ := ok.slot i _ (gOwnT_use h)
  exact ⟨a, kvs, e2, ha, r1, r2⟩
def mTGet (i : Nat) (mr : Ev → M (List D)) : EM := fun Γ => match gOwnT i Γ with
  | some kv => (do
    let y ← mr Γ
    match (keysD y).bind (valT kv) with
    | some d => if decide (y.length ≤ sizeLine) then pure d else halt
    | none => halt)
  | none => halt
theorem e_tget (i : Nat) {x : Str} (hu : X.A.units + 80 < cLine) (hi : PA X es (tA k E mr)) (hs : NoSl (.Tuple es kk tp) := by intro _ _; rfl) (hN : X.N[i]? = some x := by rfl) (hv : Vis X.env.scope x := by first | exact Or.inl rfl | exact Or.inr (Or.inl rfl) | exact Or.inr (Or.inr rfl)) (hd : (x == ("__debug__" : Str)) = false := by decide) (hcd : (x == ("__classdict__" : Str)) = false := by decide) :
    PE X (.Subscript (.Name x p) (.Tuple es kk tp) pos) (tM k E (mTGet i mr)) :=
  PE.weak (pe_dget (Nat.lt_of_le_of_lt (Nat.add_le_add_left (by decide) _) hu) (pv i hN hv hd hcd) (pe_tup hi) hs) fun σ H Q ⟨F, Γ, st, ok, w⟩ => by
    unfold mTGet at w
    cases eg : gOwnT i Γ with
    | none => rw [eg] at w; exact w.elim
    | some kv =>
      rw [eg] at w
      obtain ⟨a, kvs, e2, ha, r⟩ := own_dt ok eg
      refine ⟨.ref a, e2, tA.then_ ok w fun vs ds F1 H1 st1 s1 ok1 r1 w1 => ?_⟩
      cases ek : keysD ds with
      | none => rw [ek] at w1; exact w1.elim
      | some z =>
        rw [ek] at w1
        have w1 : Wp k E σ F1 H1 ((match valT kv z with | some d => (if decide (ds.length ≤ sizeLine) then pure d else halt : M D) | none => halt) st1) (qD k Q) := w1
        cases ev : valT kv z with
        | none => rw [ev] at w1; exact w1.elim
        | some dd =>
          rw [ev] at w1
          have w1 : Wp k E σ F1 H1 ((if decide (ds.length ≤ sizeLine) then pure dd else halt : M D) st1) (qD k Q) := w1
          split at w1
          · rename_i hz
            refine ⟨by rw [r1.length]; exact of_decide_eq_true hz, fun q nq => ?_⟩
            have s2 := ok1.new' (ob := .tup vs) nq
            have ok2 := ok1.step s2
            obtain ⟨a', kvs', e2', ha', r'⟩ := own_dt ok2 eg
            rw [e2] at e2'
            cases e2'
            obtain ⟨v, l, rv⟩ := r'.val ev
            have ey := keysD_rep r1 ek
            refine ⟨a, v, rfl, l ▸ DGet.t ha' (by rw [upd_same, ey]), w1 F1 _ s2 _ rv⟩
          · exact w1.elim
/-! ### written -/
def mTPut (i : Nat) (me : EM) (mr : Ev → M (List D)) : SM := fun Γ => match gOwnT i Γ with
  | some kv => sE (me Γ) Γ fun d => sE (mr Γ) Γ fun y => match keysD y with
    | some z => if decide (kv.length < sizeLine ∧ y.length ≤ sizeLine) then pure (.nx (Γ.set i (some (.own (.dt (putT kv z d)))))) else halt
    | none => halt
  | none => halt
theorem s_tput (i : Nat) {x : Str} {px : Pos} (hu : X.A.units + 80 < cLine) (he : PE X e (tM k E me)) (hi : PA X es (tA k E mr)) (hN : X.N[i]? = some x := by rfl) (hv : Vis X.env.scope x := by first | exact Or.inl rfl | exact Or.inr (Or.inl rfl) | exact Or.inr (Or.inr rfl)) (hd : (x == ("__debug__" : Str)) = false := by decide) (hcd : (x == ("__classdict__" : Str)) = false := by decide)
    (hs : swapsWith e (some (.Subscript (.Name x px) (.Tuple es kk tp) p2)) pos.line X.env = pure false := by rfl) : PS X (.Assign [.Subscript (.Name x px) (.Tuple es kk tp) p2] e pos) (tS k E (mTPut i me mr)) :=
  PS.weak (ps_dput (Nat.lt_of_le_of_lt (Nat.add_le_add_left (by decide) _) hu) (pv i hN hv hd hcd) (pe_tup hi) he hs) fun D σ H ⟨G, H0, P, F, Γ, st, ok, w⟩ => by
    unfold mTPut at w
    cases eg : gOwnT i Γ with
    | none => rw [eg] at w; exact w.elim
    | some kv =>
      rw [eg] at w
      refine tM.inS ok w fun v d F1 H1 st1 s1 ok1 r1 w1 => ?_
      obtain ⟨a, kvs, e2, ha, r⟩ := own_dt ok1.ok eg
      refine ⟨.ref a, e2, tA.inS ok1 w1 fun vs dy F2 H2 st2 s2 ok2 r2 w2 => ?_⟩
      cases ek : keysD dy with
      | none => rw [ek] at w2; exact w2.elim
      | some z =>
        rw [ek] at w2
        have w2 : WpS k E G H0 P ((if decide (kv.length < sizeLine ∧ dy.length ≤ sizeLine) then pure (.nx (Γ.set i (some (.own (.dt (putT kv z d)))))) else halt : M Fl) st2) D := w2
        split at w2
        · rename_i hz
          have hz := of_decide_eq_true hz
          refine ⟨by rw [r2.length]; exact hz.2, fun q nq => ?_⟩
          have s3 := ok2.ok.new' (ob := .tup vs) nq
          have ok3 := ok2.step s3
          obtain ⟨a', kvs', e2', ha', r'⟩ := own_dt ok3.ok eg
          rw [e2] at e2'
          cases e2'
          have ey := keysD_rep r2 ek
          refine ⟨a, _, rfl, DPut.t ha' (by rw [upd_same, ey]) (by rw [r'.len]; exact hz.1), ?_⟩
          exact w2 σ F2 _ (ok3.mut (gOwnT_use eg) e2 (r'.put (r1.mono (s2.ext.trans s3.ext))).own)
        · exact w2.elim
/-! ### made -/
def tOT (k : Kx) (E : XE) (m : Ev → M KT) : TE := fun σ H Q => ∃ F Γ st, Ok k F H σ Γ st ∧ Wp k E σ F H (m Γ st) fun kv F' H' _ => ∀ a kvs, H' a = some (.dT kvs) → F' a = none → H a = none → RepT k F' kvs kv → Q (.ref a) H'
def mTNew : Ev → M KT := fun _ => pure []
theorem ot_new : PE X (.Dict [] [] pos) (tOT k E mTNew) := PE.weak pe_dnewT fun σ H Q ⟨F, Γ, st, ok, w⟩ p np => by
  have s := ok.new' (ob := .dT []) np
  exact w F _ s p [] upd_same (ok.fnone np) np .nil
def mSetT (i : Nat) (m : Ev → M KT) : SM := fun Γ => sE (m Γ) Γ fun kv => pure (.nx (Γ.set i (some (.own (.dt kv)))))
theorem s_setT {i : Nat} {x : Str} {pos' : Pos} {m : Ev → M KT} (hN : X.N.Nodup) (he : PE X e (tOT k E m)) (hi : X.N[i]? = some x := by rfl) (hx : Loc X.env.scope x := by first | exact Or.inl rfl | exact Or.inr rfl) (hs : swapsWith e (some (.Name x pos')) pos.line X.env = pure false := by rfl) (hf : X.fn x = true ∨ X.env.scope.names.lookup x = some .local := by first | exact .inl rfl | exact .inr rfl | assumption) :
    PS X (.Assign [.Name x pos'] e pos) (tS k E (mSetT i m)) := PS.weak (ps_set hN hi hx he hs hf) fun D σ H ⟨G, H0, P, F, Γ, st, ok, w⟩ => by
  refine ⟨F, Γ, st, ok.ok, (Wp.inS (o := m Γ st) ok w).mono fun kv F1 H1 st1 s w1 a kvs h1 f1 h0 r => ?_⟩
  exact w1 _ F1 H1 (ok.setO s i h0 h1 f1 r.own)
end
end FL

/-! FL52: own dicts become data; data dicts keyed by tuples, read -/
namespace FL
open PySem PySem.W PySem.Spec PyProof.Rows L2 RZ
section
variable {k : Kx} {G H0 P F H : Hp} {σ : L2.St} {Γ : Ev} {st : DS}
theorem OkS.frzT (o : OkS k G H0 P F H σ Γ st) {i : Nat} {kv : KT} (e1 : Γ[i]? = some (some (.own (.dt kv)))) : ∃ F', OkS k G H0 P F' H σ (Γ.set i (some (.dat (.dct (kv.map (·.1)) (kv.map (·.2)))))) st := by
  obtain ⟨v, e2, a, _, rfl, ha, fa, nd, nb, kvs, rfl, r1, r⟩ := o.ok.slot i _ e1
  have hi : i < Γ.length := (List.getElem?_eq_some_iff.mp e1).1
  have h0 := o.own0 i _ _ e1 e2
  have ext : Same F (L2.upd F a (.dT kvs)) := fun b u e => by rw [upd_ne (fun z => by rw [z, fa] at e; cases e)]; exact e
  have at_i : ∀ (j : Nat) x, (Γ.set i (some (.dat (.dct (kv.map (·.1)) (kv.map (·.2))))))[j]? = some (some x) → (j = i ∧ x = .dat (.dct (kv.map (·.1)) (kv.map (·.2)))) ∨ (j ≠ i ∧ Γ[j]? = some (some x)) := by
    intro j x e
    by_cases hj : i = j
    · subst hj
      rw [List.getElem?_set_self hi] at e
      cases e
      exact .inl ⟨rfl, rfl⟩
    · rw [List.getElem?_set_ne hj] at e
      exact .inr ⟨fun z => hj z.symm, e⟩
  have un : ∀ (j : Nat) us, (Γ.set i (some (.dat (.dct (kv.map (·.1)) (kv.map (·.2))))))[j]? = some (some (.own us)) → Γ[j]? = some (some (.own us)) ∧ j ≠ i := fun j us e => by
    rcases at_i j _ e with ⟨_, z⟩ | ⟨hj, z⟩
    · cases z
    · exact ⟨z, hj⟩
  refine ⟨L2.upd F a (.dT kvs), ⟨fun b u e => ?_, o.ok.at_, fun h => ⟨by rw [upd_ne (fun z => nd ⟨h, .inl z.symm⟩)]; exact (o.ok.hid h).fdl, by rw [upd_ne (fun z => nd ⟨h, .inr z.symm⟩)]; exact (o.ok.hid h).fcl, (o.ok.hid h).ne, (o.ok.hid h).bdl, (o.ok.hid h).bcl⟩, o.ok.bsub, o.ok.blst, o.ok.tabs, fun b x h => by
      by_cases hb : b = a
      · subst hb; rw [upd_same] at h; cases h; exact fun ps z => by cases z
      · rw [upd_ne hb] at h; exact o.ok.ftbl _ _ h
    , by simp [o.ok.len], fun j x e => ?_, fun j l us zs b q1 q2 => o.ok.apart j l us zs b (un j us q1).1 (un l zs q2).1⟩, o.per.trans ext, o.ext0.trans ext, o.stay0, o.kept0, fun b u e g => ?_, fun j us b q => o.own0 j us b (un j us q).1, o.base⟩
  · by_cases hb : b = a
    · subst hb
      rw [upd_same] at e
      rw [ha]
      exact e
    · rw [upd_ne hb] at e
      exact o.ok.sub b u e
  · rcases at_i j x e with ⟨rfl, rfl⟩ | ⟨hj, e'⟩
    · exact ⟨_, e2, .dct upd_same r1 (r.mono ext)⟩
    · obtain ⟨v, q1, q2⟩ := o.ok.slot j x e'
      refine ⟨v, q1, ?_⟩
      cases x with
      | dat d => exact Rep.mono ext q2
      | own us =>
        obtain ⟨c, ls, rfl, hc, fc, n1, n3, rr⟩ := q2
        have hca : c ≠ a := fun z => by
          subst z
          exact hj (o.ok.apart j i _ _ _ e' e1 q1 e2)
        exact ⟨c, ls, rfl, hc, by rw [upd_ne hca]; exact fc, n1, n3, rr.mono ext⟩
  · rw [upd_ne (fun z => by rw [z, h0] at e; cases e)]
    exact o.nof0 b u e g
theorem OkS.frzD (o : OkS k G H0 P F H σ Γ st) {i : Nat} {kv : KD} (e1 : Γ[i]? = some (some (.own (.dk kv)))) : ∃ F', OkS k G H0 P F' H σ (Γ.set i (some (.dat (.dic (kv.map (·.1)) (kv.map (·.2)))))) st := by
  obtain ⟨v, e2, a, _, rfl, ha, fa, nd, nb, kvs, rfl, r1, r⟩ := o.ok.slot i _ e1
  have hi : i < Γ.length := (List.getElem?_eq_some_iff.mp e1).1
  have h0 := o.own0 i _ _ e1 e2
  have ext : Same F (L2.upd F a (.dK kvs)) := fun b u e => by rw [upd_ne (fun z => by rw [z, fa] at e; cases e)]; exact e
  have at_i : ∀ (j : Nat) x, (Γ.set i (some (.dat (.dic (kv.map (·.1)) (kv.map (·.2))))))[j]? = some (some x) → (j = i ∧ x = .dat (.dic (kv.map (·.1)) (kv.map (·.2)))) ∨ (j ≠ i ∧ Γ[j]? = some (some x)) := by
    intro j x e
    by_cases hj : i = j
    · subst hj
      rw [List.getElem?_set_self hi] at e
      cases e
      exact .inl ⟨rfl, rfl⟩
    · rw [List.getElem?_set_ne hj] at e
      exact .inr ⟨fun z => hj z.symm, e⟩
  have un : ∀ (j : Nat) us, (Γ.set i (some (.dat (.dic (kv.map (·.1)) (kv.map (·.2))))))[j]? = some (some (.own us)) → Γ[j]? = some (some (.own us)) ∧ j ≠ i := fun j us e => by
    rcases at_i j _ e with ⟨_, z⟩ | ⟨hj, z⟩
    · cases z
    · exact ⟨z, hj⟩
  refine ⟨L2.upd F a (.dK kvs), ⟨fun b u e => ?_, o.ok.at_, fun h => ⟨by rw [upd_ne (fun z => nd ⟨h, .inl z.symm⟩)]; exact (o.ok.hid h).fdl, by rw [upd_ne (fun z => nd ⟨h, .inr z.symm⟩)]; exact (o.ok.hid h).fcl, (o.ok.hid h).ne, (o.ok.hid h).bdl, (o.ok.hid h).bcl⟩, o.ok.bsub, o.ok.blst, o.ok.tabs, fun b x h => by
      by_cases hb : b = a
      · subst hb; rw [upd_same] at h; cases h; exact fun ps z => by cases z
      · rw [upd_ne hb] at h; exact o.ok.ftbl _ _ h
    , by simp [o.ok.len], fun j x e => ?_, fun j l us zs b q1 q2 => o.ok.apart j l us zs b (un j us q1).1 (un l zs q2).1⟩, o.per.trans ext, o.ext0.trans ext, o.stay0, o.kept0, fun b u e g => ?_, fun j us b q => o.own0 j us b (un j us q).1, o.base⟩
  · by_cases hb : b = a
    · subst hb
      rw [upd_same] at e
      rw [ha]
      exact e
    · rw [upd_ne hb] at e
      exact o.ok.sub b u e
  · rcases at_i j x e with ⟨rfl, rfl⟩ | ⟨hj, e'⟩
    · exact ⟨_, e2, .dic upd_same r1 (r.mono ext)⟩
    · obtain ⟨v, q1, q2⟩ := o.ok.slot j x e'
      refine ⟨v, q1, ?_⟩
      cases x with
      | dat d => exact Rep.mono ext q2
      | own us =>
        obtain ⟨c, ls, rfl, hc, fc, n1, n3, rr⟩ := q2
        have hca : c ≠ a := fun z => by
          subst z
          exact hj (o.ok.apart j i _ _ _ e' e1 q1 e2)
        exact ⟨c, ls, rfl, hc, by rw [upd_ne hca]; exact fc, n1, n3, rr.mono ext⟩
  · rw [upd_ne (fun z => by rw [z, h0] at e; cases e)]
    exact o.nof0 b u e g
end
section
variable {X : Cx} {k : Kx} {E : XE} {e : Expr} {es : List Expr} {me : EM} {mr : Ev → M (List D)} {pos tp : Pos} {kk : Nat} {st : Stmt} {sm : SM}
def mFrzT (i : Nat) (sm : SM) : SM := fun Γ => match gOwnT i Γ with
  | some kv => sm (Γ.set i (some (.dat (.dct (kv.map (·.1)) (kv.map (·.2))))))
  | none => sm Γ
theorem s_frzT (i : Nat) (h : PS X st (tS k E sm)) : PS X st (tS k E (mFrzT i sm)) := PS.weak h fun D σ H ⟨G, H0, P, F, Γ, s, ok, w⟩ => by
  unfold mFrzT at w
  cases eg : gOwnT i Γ with
  | some xs =>
    rw [eg] at w
    obtain ⟨F', ok'⟩ := ok.frzT (gOwnT_use eg)
    exact ⟨G, H0, P, F', _, s, ok', w⟩
  | none =>
    rw [eg] at w
    exact ⟨G, H0, P, F, Γ, s, ok, w⟩
def mFrzD (i : Nat) (sm : SM) : SM := fun Γ => match gOwnD i Γ with
  | some kv => sm (Γ.set i (some (.dat (.dic (kv.map (·.1)) (kv.map (·.2))))))
  | none => sm Γ
theorem s_frzD (i : Nat) (h : PS X st (tS k E sm)) : PS X st (tS k E (mFrzD i sm)) := PS.weak h fun D σ H ⟨G, H0, P, F, Γ, s, ok, w⟩ => by
  unfold mFrzD at w
  cases eg : gOwnD i Γ with
  | some xs =>
    rw [eg] at w
    obtain ⟨F', ok'⟩ := ok.frzD (gOwnD_use eg)
    exact ⟨G, H0, P, F', _, s, ok', w⟩
  | none =>
    rw [eg] at w
    exact ⟨G, H0, P, F, Γ, s, ok, w⟩
theorem map_zip_eq {α β : Type} : ∀ (ks : List α) (xs : List β), ks.length = xs.length → (ks.zip xs).map (·.1) = ks ∧ (ks.zip xs).map (·.2) = xs
  | [], [], _ => ⟨rfl, rfl⟩
  | a :: ks, b :: xs, h => by
    obtain ⟨h1, h2⟩ := map_zip_eq ks xs (by simpa using h)
    exact ⟨by rw [List.zip_cons_cons, List.map_cons, h1], by rw [List.zip_cons_cons, List.map_cons, h2]⟩
  | [], _ :: _, h => by simp at h
  | _ :: _, [], h => by simp at h
/-- d[a, b], d as data -/
def mTIx (me : EM) (mr : Ev → M (List D)) : EM := fun Γ => do
  let d ← me Γ
  match d with
  | .dct ks xs => (do
    let y ← mr Γ
    match (keysD y).bind (valT (ks.zip xs)) with
    | some d => if decide (y.length ≤ sizeLine) then pure d else halt
    | none => halt)
  | _ => halt
theorem e_tix (hu : X.A.units + 80 < cLine) (he : PE X e (tM k E me)) (hi : PA X es (tA k E mr)) (hs : NoSl (.Tuple es kk tp) := by intro _ _; rfl) :
    PE X (.Subscript e (.Tuple es kk tp) pos) (tM k E (mTIx me mr)) :=
  PE.weak (pe_dget (Nat.lt_of_le_of_lt (Nat.add_le_add_left (by decide) _) hu) he (pe_tup hi) hs) fun σ H Q ⟨F, Γ, st, ok, w⟩ => by
    refine tM.then_ ok w fun u d F1 H1 st1 s1 ok1 r1 w1 => ?_
    cases r1 with
    | @dct a kvs ks xs ha ek0 rs =>
      refine tA.then_ ok1 w1 fun vs ds F2 H2 st2 s2 ok2 r2 w2 => ?_
      cases ek : keysD ds with
      | none => rw [ek] at w2; exact w2.elim
      | some z =>
        rw [ek] at w2
        have w2 : Wp k E σ F2 H2 ((match valT (ks.zip xs) z with | some d => (if decide (ds.length ≤ sizeLine) then pure d else halt : M D) | none => halt) st2) (qD k Q) := w2
        cases ev : valT (ks.zip xs) z with
        | none => rw [ev] at w2; exact w2.elim
        | some dd =>
          rw [ev] at w2
          have w2 : Wp k E σ F2 H2 ((if decide (ds.length ≤ sizeLine) then pure dd else halt : M D) st2) (qD k Q) := w2
          split at w2
          · rename_i hz
            refine ⟨by rw [r2.length]; exact of_decide_eq_true hz, fun q nq => ?_⟩
            have s3 := ok2.new' (ob := .tup vs) nq
            have hl : ks.length = xs.length := by
              have h1 := congrArg List.length ek0
              have h2 := rs.length
              rw [List.length_map] at h1 h2
              omega
            have hm := map_zip_eq ks xs hl
            have r' : RepT k F2 kvs (ks.zip xs) := ⟨by rw [ek0, hm.1], by rw [hm.2]; exact rs.mono s2.ext⟩
            obtain ⟨v, l, rv⟩ := r'.val ev
            have ha2 : L2.upd H2 q (.tup vs) a = some (.dT kvs) := (ok2.step s3).sub _ _ (s3.ext _ _ (s2.ext _ _ ha))
            have ey := keysD_rep r2 ek
            refine ⟨a, v, rfl, l ▸ DGet.t ha2 (by rw [upd_same, ey]), w2 F2 _ s3 _ rv⟩
          · exact w2.elim
    | _ => exact w1.elim
end
end FL

/-! FL53: a fresh dict as data; data dicts of plain keys, read -/
namespace FL
open PySem PySem.W PySem.Spec PyProof.Rows L2 RZ
section
variable {X : Cx} {k : Kx} {E : XE} {e ie : Expr} {me mk : EM} {pos : Pos} {m : Ev → M KD}
def mFrzOD (m : Ev → M KD) : EM := fun Γ => do
  let kv ← m Γ
  pure (.dic (kv.map (·.1)) (kv.map (·.2)))
theorem frzOD_imp {σ : L2.St} {H : Hp} {Q : VK} (h : tM k E (mFrzOD m) σ H Q) : tOD k E m σ H Q := by
  obtain ⟨F, Γ, st, ok, w⟩ := h
  refine ⟨F, Γ, st, ok, ?_⟩
  have w : Wp k E σ F H ((m Γ st).bind fun kv => (pure (.dic (kv.map (·.1)) (kv.map (·.2))) : M D)) (qD k Q) := w
  revert w
  cases m Γ st with
  | ok xs st' =>
    intro w F' H' s a kvs h1 f1 h0 r
    have o2 : Same F' (L2.upd F' a (.dK kvs)) := fun b o e => by rw [upd_ne (fun z => by rw [z, f1] at e; cases e)]; exact e
    exact w _ _ (s.frz h0 h1 f1 ok.sub) _ (.dic upd_same r.1 (r.2.mono o2))
  | err C fs st' => exact fun w => w
  | stuck => exact fun w => w
/-- dict(..), {..: .. for ..} as a value -/
theorem e_frzOD (h : PE X e (tOD k E m)) : PE X e (tM k E (mFrzOD m)) := PE.weak h fun σ H Q => frzOD_imp
/-- d[y], d as data -/
def mDIx (me mk : EM) : EM := fun Γ => do
  let d ← me Γ
  match d with
  | .dic ks xs => (do
    let y ← mk Γ
    match (keyD y).bind (valD (ks.zip xs)) with
    | some d => pure d
    | none => halt)
  | _ => halt
theorem e_dix (hu : X.A.units + 80 < cLine) (he : PE X e (tM k E me)) (hi : PE X ie (tM k E mk)) (hs : NoSl ie := by intro _ _; rfl) : PE X (.Subscript e ie pos) (tM k E (mDIx me mk)) :=
  PE.weak (pe_dget (Nat.lt_of_le_of_lt (Nat.add_le_add_left (by decide) _) hu) he hi hs) fun σ H Q ⟨F, Γ, st, ok, w⟩ => by
    refine tM.then_ ok w fun u d F1 H1 st1 s1 ok1 r1 w1 => ?_
    cases r1 with
    | @dic a kvs ks xs ha ek0 rs =>
      refine tM.then_ ok1 w1 fun y dy F2 H2 st2 s2 ok2 r2 w2 => ?_
      cases ek : keyD dy with
      | none => rw [ek] at w2; exact w2.elim
      | some z =>
        rw [ek] at w2
        have w2 : Wp k E σ F2 H2 ((match valD (ks.zip xs) z with | some d => (pure d : M D) | none => halt) st2) (qD k Q) := w2
        cases ev : valD (ks.zip xs) z with
        | none => rw [ev] at w2; exact w2.elim
        | some dd =>
          rw [ev] at w2
          have hl : ks.length = xs.length := by
            have h1 := congrArg List.length ek0
            have h2 := rs.length
            rw [List.length_map] at h1 h2
            omega
          have hm := map_zip_eq ks xs hl
          have r' : RepK k F2 kvs (ks.zip xs) := ⟨by rw [ek0, hm.1], by rw [hm.2]; exact rs.mono s2.ext⟩
          obtain ⟨v, l, rv⟩ := r'.val ev
          have ha2 : H2 a = some (.dK kvs) := ok2.sub _ _ (s2.ext _ _ ha)
          have ey := keyD_rep r2 ek
          subst ey
          exact ⟨a, v, rfl, l ▸ DGet.k ha2, w2 F2 H2 ok2.refl _ rv⟩
    | _ => exact w1.elim
end
end FL

/-! FL54: {k: v} as one's own dict -/
namespace FL
open PySem PySem.W PySem.Spec PyProof.Rows L2 RZ
section
variable {X : Cx} {k : Kx} {E : XE} {ke ve : Expr} {mk mv : EM} {pos : Pos}
def mDOne (mk mv : EM) : Ev → M KD := fun Γ => do
  let y ← nxM (mk Γ)
  let z ← nxM (mv Γ)
  match keyD y with
  | some kk => pure [(kk, z)]
  | none => halt
theorem od_one (hk : PE X ke (tM k E mk)) (hv : PE X ve (tM k E mv)) : PE X (.Dict [some ke] [ve] pos) (tOD k E (mDOne mk mv)) :=
  PE.weak (pe_disp (pps_cons hk hv pps_nil) rfl rfl (by simp) (show 1 ≤ 15 by decide)) fun σ H Q ⟨F, Γ, st, ok, w⟩ p np => by
    have n1 := ok.cold np
    have fp := ok.fnone np
    have s0 : Step k F H F (L2.upd H p (.dK [])) st := Step.mutD (ob := .dK []) ok.refl np fp n1 (.inl np)
    have ok0 := ok.step s0
    have ndk : ∀ {kvs : List (Key × V)} (ps), HO.dK kvs ≠ .tbl ps := fun ps z => by cases z
    have w : Wp k E σ F H ((nxM (mk Γ) st).bind fun y st => ((nxM (mv Γ)) st).bind fun z st => (match keyD y with | some kk => pure [(kk, z)] | none => halt : M KD) st) _ := w
    obtain ⟨y, st1, ey, w1⟩ := Wp.nx_ok w
    refine ⟨F, Γ, st, ok0, ?_⟩
    rw [ey]
    intro F1 H1 s1 vy ry
    obtain ⟨z, st2, ez, w2⟩ := Wp.nx_ok w1
    refine ⟨F1, Γ, st1, ok0.step s1, ?_⟩
    rw [ez]
    intro F2 H2 s2 vz rz
    cases ek : keyD y with
    | none => rw [ek] at w2; exact w2.elim
    | some kk =>
      rw [ek] at w2
      have h1 := s1.stay p _ upd_same n1 ndk
      have h2 := s2.stay p _ h1 n1 ndk
      have f1 := s1.nof _ _ upd_same fp
      have f2 := s2.nof _ _ h1 f1
      have sB := ok.trans (ok.trans s0 s1) s2
      have ev := keyD_rep ry ek
      subst ev
      refine ⟨h2, [(kk, vz)], rfl, by simp, ?_⟩
      have em : mergeK [] [(kk, vz)] = [(kk, vz)] := rfl
      rw [em]
      exact w2 F2 _ (Step.mutD sB np f2 n1 (.inr ⟨_, h2, .inr ⟨_, rfl⟩⟩)) p _ upd_same f2 np (RepK.cons (p := (kk, vz)) rz .nil)
end
end FL

/-! FL55: is it in the dict, as a test -/
namespace FL
open PySem PySem.W PySem.Spec PyProof.Rows L2 RZ
section
variable {X : Cx} {k : Kx} {E : XE} {ie : Expr} {mk : EM} {pos p : Pos}
theorem t_din (i : Nat) {x : Str} (hu : X.A.units + 80 < cLine) (hi : PE X ie (tM k E mk)) (hN : X.N[i]? = some x := by rfl) (hv : Vis X.env.scope x := by first | exact Or.inl rfl | exact Or.inr (Or.inl rfl) | exact Or.inr (Or.inr rfl)) (hd : (x == ("__debug__" : Str)) = false := by decide) (hcd : (x == ("__classdict__" : Str)) = false := by decide)
    (hb : behindInMarks .In (.Name x p) = false := by first | exact nobehind _ (by decide) (by decide) | rfl) : PT X (.Compare ie [.In] [.Name x p] pos) (tT k E (mB (mDIn false mk i))) :=
  PT.weak (pt_cmp (pc_din (Nat.lt_of_le_of_lt (Nat.add_le_add_left (by decide) _) hu) hi (pv i hN hv hd hcd)) hb) fun σ H Q ⟨F, Γ, st, ok, w⟩ => by
    have h : tM k E (mDIn false mk i) σ H (fun v H1 => ∃ d, v = .bl d ∧ Q d H1) := ⟨F, Γ, st, ok, (Wp.bind (f := gB) ok w).mono fun d F1 H1 st1 s w1 v r => gB_use (ok.step s) r w1⟩
    exact din_imp h
theorem t_dnotin (i : Nat) {x : Str} (hu : X.A.units + 80 < cLine) (hi : PE X ie (tM k E mk)) (hN : X.N[i]? = some x := by rfl) (hv : Vis X.env.scope x := by first | exact Or.inl rfl | exact Or.inr (Or.inl rfl) | exact Or.inr (Or.inr rfl)) (hd : (x == ("__debug__" : Str)) = false := by decide) (hcd : (x == ("__classdict__" : Str)) = false := by decide)
    (hb : behindInMarks .NotIn (.Name x p) = false := by first | exact nobehind _ (by decide) (by decide) | rfl) : PT X (.Compare ie [.NotIn] [.Name x p] pos) (tT k E (mB (mDIn true mk i))) :=
  PT.weak (pt_cmp (pc_dnotin (Nat.lt_of_le_of_lt (Nat.add_le_add_left (by decide) _) hu) hi (pv i hN hv hd hcd)) hb) fun σ H Q ⟨F, Γ, st, ok, w⟩ => by
    have h : tM k E (mDIn true mk i) σ H (fun v H1 => ∃ d, v = .bl d ∧ Q d H1) := ⟨F, Γ, st, ok, (Wp.bind (f := gB) ok w).mono fun d F1 H1 st1 s w1 v r => gB_use (ok.step s) r w1⟩
    exact din_imp h
end
end FL

/-! FL56: list(a text) -/
namespace FL
open PySem PySem.W PySem.Spec PyProof.Rows L2 RZ
theorem vals_idx : ∀ (xs : List V) (us : List Value), us.length = xs.length → (∀ (j : Nat) (u : Value), us[j]? = some u → ∃ x, xs[j]? = some x ∧ RelV x u) → Vals xs us
  | [], [], _, _ => .nil
  | [], _ :: _, h, _ => by simp at h
  | _ :: _, [], h, _ => by simp at h
  | x :: xs, u :: us, h, k => by
    obtain ⟨y, e, r⟩ := k 0 u rfl
    have e' : x = y := by simpa using e
    subst e'
    refine .cons r (vals_idx xs us (by simpa using h) fun j v hj => ?_)
    have := k (j + 1) v (by simpa using hj)
    simpa using this
def signs (z : Str) : List Str := z.cps.toList.map fun c => ⟨#[c]⟩
section
variable {X : Cx} {k : Kx}
def rListT : List V → Hp → VK → Prop := fun xs H Q => ∃ z, xs = [.str z] ∧ z.length ≤ sizeLine ∧ ∀ l, H l = none → Q (.ref l) (L2.upd H l (.lst ((signs z).map V.str)))
theorem call_list_text (hc : X.calm = true) : CallR X (.type "list") rListT := by
  intro pins s σ H xs us Q I r h
  obtain ⟨z, rfl, hz, q⟩ := h
  obtain ⟨u, rfl, t, rfl⟩ := vals1 r
  refine call_list_str (I.ok.hd hc) z t (fun h' tk acc' c' kp e it => ?_) hz
  have hl : ((signs z).map V.str).length = z.cps.size := by simp [signs]
  have hv : Vals ((signs z).map V.str) acc'.toList := vals_idx _ _ (by rw [hl]; simpa using it.1) fun j v hj => by
    obtain ⟨c, t, e1, e2⟩ := it.2 j v (by simpa using hj)
    subst e2
    refine ⟨.str ⟨#[c]⟩, ?_, t, rfl⟩
    have : z.cps.toList[j]? = some c := by simpa using e1
    simp [signs, this]
  exact ⟨.ref _, _, I.laid (t' := tk) kp (Nat.le_refl _) (show ObjOk X.prog X.w _ h' _ (.lst ((signs z).map V.str)) from ⟨by rw [hl]; exact hz, acc'.toList, c', hv, e⟩), rfl, q _ (I.hok.fresh (Nat.le_refl _))⟩
theorem reps_strs {F : Hp} : ∀ xs : List Str, Reps k F (xs.map V.str) (xs.map D.str)
  | [] => .nil
  | x :: xs => .cons (.str x) (reps_strs xs)
/-- list(x): a list, a tuple, a text -/
def gListOfA : List D → M (List D) := fun ds st => match ds with
  | [.str z] => if z.length ≤ sizeLine then .ok ((signs z).map D.str) st else .stuck
  | _ => gListOf ds st
theorem c_listA (hc : X.calm = true := by rfl) (hk : k.K = X.K := by rfl) : CallO X k (.type "list") gListOfA := by
  obtain ⟨r, h1, h2⟩ := c_list (X := X) (k := k) hk
  refine ⟨fun vs H Q => r vs H Q ∨ rListT vs H Q, fun pins s σ H xs us Q I rr h => h.elim (h1 pins s σ H xs us Q I rr) (call_list_text hc pins s σ H xs us Q I rr), fun {E σ F H Γ st vs ds Q} ok rr w => ?_⟩
  unfold gListOfA at w
  split at w
  · rename_i z
    split at w
    · rename_i hz
      match vs, rr with
      | [_], .cons (.str _) .nil =>
        exact .inr ⟨z, rfl, hz, fun l np => w _ _ (ok.new' np) l _ upd_same (ok.fnone np) np (reps_strs _)⟩
    · exact w.elim
  · exact .inl (h2 ok rr w)
end
end FL

/-! FL57: min, max of two texts -/
namespace FL
open PySem PySem.W PySem.Spec PyProof.Rows L2 RZ
section
variable {prog : Program} {w : World} {A : Around} {E : Value → Shared → Prop} {s : Shared}
def txtAt (x y : Str) (i : Nat) : Str := if i = 0 then x else y
theorem txt_at {x y : Str} {t u : Tok} {i : Nat} {v : Value} (h : #[Value.str x t, Value.str y u][i]? = some v) : ∃ t', v = .str (txtAt x y i) t' := by
  match i, h with
  | 0, h => cases h; exact ⟨_, rfl⟩
  | 1, h => cases h; exact ⟨_, rfl⟩
  | i + 2, h => simp at h
theorem cmpOf_lt_txt {x y : Str} {t u : Tok} (hu : A.units + 2 < cLine) : CmpOf prog w A .Lt (fun i v => #[Value.str x t, Value.str y u][i]? = some v) (fun i j => dataLt (.str (txtAt x y i)) (.str (txtAt x y j))) := fun i j vi vj s' Q E hi hj hq => by
  obtain ⟨a, rfl⟩ := txt_at hi
  obtain ⟨b, rfl⟩ := txt_at hj
  exact rcLt_alike _ _ A s' _ _ _ _ (.str _ _) (.str _ _) rfl (by simp) (by simp only [PyData.depth]; omega) prog w E Q hq
theorem cmpOf_gt_txt {x y : Str} {t u : Tok} (hu : A.units + 2 < cLine) : CmpOf prog w A .Gt (fun i v => #[Value.str x t, Value.str y u][i]? = some v) (fun i j => dataLt (.str (txtAt x y j)) (.str (txtAt x y i))) := fun i j vi vj s' Q E hi hj hq => by
  obtain ⟨a, rfl⟩ := txt_at hi
  obtain ⟨b, rfl⟩ := txt_at hj
  exact rcGt_alike _ _ A s' _ _ _ _ (.str _ _) (.str _ _) rfl (by simp) (by simp only [PyData.depth]; omega) prog w E Q hq
theorem min_two_txt {Q : Value → Shared → Prop} {x y : Str} {t u : Tok} (hh : A.handled = none) (hu : A.units + 5 < cLine)
    (h : ∀ h' tk t', (∀ c o, s.heap.get? c = some o → h'.get? c = some o) → Q (.str (if dataLt (.str y) (.str x) = true then y else x) t') { s with heap := h', toks := tk }) :
    wpAny (model prog w) A (call (.builtin "min") [.str x t, .str y u]) Q E s := by
  have hT : (s.heap.push { cls := .type "tuple", data := .seq #[.str x t, .str y u] }).IsTuple s.heap.objs.size #[.str x t, .str y u] := ⟨_, Heap.get?_push_size _ rfl, rfl, 0, rfl⟩
  refine call_min_two (wpAny_pyIter_tuple hT ?_)
  have hsz : (s.heap.push { cls := .type "tuple", data := .seq #[.str x t, .str y u] }).objs.size = s.heap.objs.size + 1 := Heap.size_push ..
  refine ⟨_, [_, s.heap.objs.size], [_], _, _, _, _, rfl, Walks.tuple (A := A.in1) hh _ s.heap.objs.size (by rw [hsz]; exact Nat.ne_of_lt (Nat.lt_succ_self _)) #[.str x t, .str y u],
    ⟨⟨_, Heap.get?_push_size _ rfl, rfl, rfl⟩, hT.push _⟩, fun c hc => ?_, by simp, cmpOf_lt_txt (A := A.in1) (by show A.units + 1 + 2 < cLine; omega), fun v h' tk hP hk => ?_⟩
  · show c < ((s.heap.push _).push _).objs.size
    rw [Heap.size_push, hsz]
    rcases List.mem_cons.mp hc with rfl | hc
    · rw [hsz]; exact Nat.lt_succ_self _
    · rcases List.mem_cons.mp hc with rfl | hc
      · exact Nat.lt_succ_of_lt (Nat.lt_succ_self _)
      · cases hc
  · have hold : ∀ c o, s.heap.get? c = some o → h'.get? c = some o := fun c o e => by
      refine hk c o (fun hm => ?_) (Heap.get?_push_of_some _ (Heap.get?_push_of_some _ e))
      rcases List.mem_cons.mp hm with e1 | hm
      · have := Heap.lt_size e; rw [e1, hsz] at this; exact Nat.lt_irrefl _ (Nat.lt_of_succ_lt this)
      · cases hm
    have hv : ∃ t', v = .str (if dataLt (.str y) (.str x) = true then y else x) t' := by
      cases hc : dataLt (.str y) (.str x) <;> simp [argBest, txtAt, hc] at hP <;> exact ⟨_, hP.symm⟩
    obtain ⟨t', rfl⟩ := hv
    exact h h' tk t' hold
theorem max_two_txt {Q : Value → Shared → Prop} {x y : Str} {t u : Tok} (hh : A.handled = none) (hu : A.units + 5 < cLine)
    (h : ∀ h' tk t', (∀ c o, s.heap.get? c = some o → h'.get? c = some o) → Q (.str (if dataLt (.str x) (.str y) = true then y else x) t') { s with heap := h', toks := tk }) :
    wpAny (model prog w) A (call (.builtin "max") [.str x t, .str y u]) Q E s := by
  have hT : (s.heap.push { cls := .type "tuple", data := .seq #[.str x t, .str y u] }).IsTuple s.heap.objs.size #[.str x t, .str y u] := ⟨_, Heap.get?_push_size _ rfl, rfl, 0, rfl⟩
  refine call_max_two (wpAny_pyIter_tuple hT ?_)
  have hsz : (s.heap.push { cls := .type "tuple", data := .seq #[.str x t, .str y u] }).objs.size = s.heap.objs.size + 1 := Heap.size_push ..
  refine ⟨_, [_, s.heap.objs.size], [_], _, _, _, _, rfl, Walks.tuple (A := A.in1) hh _ s.heap.objs.size (by rw [hsz]; exact Nat.ne_of_lt (Nat.lt_succ_self _)) #[.str x t, .str y u],
    ⟨⟨_, Heap.get?_push_size _ rfl, rfl, rfl⟩, hT.push _⟩, fun c hc => ?_, by simp, cmpOf_gt_txt (A := A.in1) (by show A.units + 1 + 2 < cLine; omega), fun v h' tk hP hk => ?_⟩
  · show c < ((s.heap.push _).push _).objs.size
    rw [Heap.size_push, hsz]
    rcases List.mem_cons.mp hc with rfl | hc
    · rw [hsz]; exact Nat.lt_succ_self _
    · rcases List.mem_cons.mp hc with rfl | hc
      · exact Nat.lt_succ_of_lt (Nat.lt_succ_self _)
      · cases hc
  · have hold : ∀ c o, s.heap.get? c = some o → h'.get? c = some o := fun c o e => by
      refine hk c o (fun hm => ?_) (Heap.get?_push_of_some _ (Heap.get?_push_of_some _ e))
      rcases List.mem_cons.mp hm with e1 | hm
      · have := Heap.lt_size e; rw [e1, hsz] at this; exact Nat.lt_irrefl _ (Nat.lt_of_succ_lt this)
      · cases hm
    have hv : ∃ t', v = .str (if dataLt (.str x) (.str y) = true then y else x) t' := by
      cases hc : dataLt (.str x) (.str y) <;> simp [argBest, txtAt, hc] at hP <;> exact ⟨_, hP.symm⟩
    obtain ⟨t', rfl⟩ := hv
    exact h h' tk t' hold
end
section
variable {X : Cx} {k : Kx}
def rTxt2 (f : Str → Str → Str) : List V → Hp → VK → Prop := fun xs H Q => ∃ x y, xs = [.str x, .str y] ∧ Q (.str (f x y)) H
def minT (x y : Str) : Str := if dataLt (.str y) (.str x) = true then y else x
def maxT (x y : Str) : Str := if dataLt (.str x) (.str y) = true then y else x
theorem call_min_txt (hc : X.calm = true) (hu : X.A.units + 80 < cLine) : CallR X (.builtin "min") (rTxt2 minT) := by
  intro pins s σ H xs us Q I r h
  obtain ⟨x, y, rfl, q⟩ := h
  obtain ⟨u, w', rfl, ⟨t, rfl⟩, ⟨t', rfl⟩⟩ := vals2 r
  exact min_two_txt (I.ok.hd hc) (by omega) fun h' tk t' kp => ⟨_, H, I.kept (t' := tk) kp, (show RelV (.str _) (.str _ _) from ⟨_, rfl⟩), q⟩
theorem call_max_txt (hc : X.calm = true) (hu : X.A.units + 80 < cLine) : CallR X (.builtin "max") (rTxt2 maxT) := by
  intro pins s σ H xs us Q I r h
  obtain ⟨x, y, rfl, q⟩ := h
  obtain ⟨u, w', rfl, ⟨t, rfl⟩, ⟨t', rfl⟩⟩ := vals2 r
  exact max_two_txt (I.ok.hd hc) (by omega) fun h' tk t' kp => ⟨_, H, I.kept (t' := tk) kp, (show RelV (.str _) (.str _ _) from ⟨_, rfl⟩), q⟩
/-- min, max: of ints, or of two texts -/
def gMinA : List D → M D := fun ds st => match ds with
  | [.str x, .str y] => .ok (.str (minT x y)) st
  | _ => gMin ds st
def gMaxA : List D → M D := fun ds st => match ds with
  | [.str x, .str y] => .ok (.str (maxT x y)) st
  | _ => gMax ds st
theorem c_minA (hu : X.A.units + 80 < cLine) (hc : X.calm = true := by rfl) : CallS X k (.builtin "min") gMinA := by
  obtain ⟨r, h1, h2⟩ := c_min (X := X) (k := k) hc
  refine ⟨fun vs H Q => r vs H Q ∨ rTxt2 minT vs H Q, h1.or (call_min_txt hc hu), fun {E σ F H Γ st vs ds Q} ok rr w => ?_⟩
  unfold gMinA at w
  split at w
  · match vs, rr with
    | [_, _], .cons (.str _) (.cons (.str _) .nil) => exact .inr ⟨_, _, rfl, w F H ok.refl _ (.str _)⟩
  · exact .inl (h2 ok rr w)
theorem c_maxA (hu : X.A.units + 80 < cLine) (hc : X.calm = true := by rfl) : CallS X k (.builtin "max") gMaxA := by
  obtain ⟨r, h1, h2⟩ := c_max (X := X) (k := k) hc
  refine ⟨fun vs H Q => r vs H Q ∨ rTxt2 maxT vs H Q, h1.or (call_max_txt hc hu), fun {E σ F H Γ st vs ds Q} ok rr w => ?_⟩
  unfold gMaxA at w
  split at w
  · match vs, rr with
    | [_, _], .cons (.str _) (.cons (.str _) .nil) => exact .inr ⟨_, _, rfl, w F H ok.refl _ (.str _)⟩
  · exact .inl (h2 ok rr w)
end
end FL

/-! FL58: dict(a list of pairs) -/
namespace FL
open PySem PySem.W PySem.Spec PyProof.Rows L2 RZ
def pairD (d : D) : Option (Key × D) := match tupL d with
  | some [a, b] => (keyD a).map fun z => (z, b)
  | _ => none
def pairsD : List D → Option KD
  | [] => some []
  | d :: ds => match pairD d, pairsD ds with
    | some p, some ps => some (p :: ps)
    | _, _ => none
section
variable {X : Cx} {k : Kx} {E : XE} {F : Hp}
theorem tupL_use {v : V} {d : D} {xs : List D} (r : Rep k F v d) (e : tupL d = some xs) : ∃ a vs, v = .ref a ∧ SqT k.K F a vs ∧ Reps k F vs xs := by
  cases r with
  | tup h rs q => cases e; exact ⟨_, _, rfl, h, rs⟩
  | ltp h rs => cases e; exact ⟨_, _, rfl, h, rs⟩
  | _ => cases e
theorem pairD_is {d : D} {p : Key × D} (e : pairD d = some p) : ∃ a b, tupL d = some [a, b] ∧ keyD a = some p.1 ∧ b = p.2 := by
  unfold pairD at e
  split at e
  · rename_i a b h
    cases ek : keyD a with
    | none => rw [ek] at e; cases e
    | some z => rw [ek] at e; cases e; exact ⟨a, b, h, ek, rfl⟩
  · cases e
theorem pair_use {v : V} {d : D} {p : Key × D} (r : Rep k F v d) (e : pairD d = some p) : ∃ a x, v = .ref a ∧ SqT k.K F a [kV p.1, x] ∧ Rep k F x p.2 := by
  obtain ⟨a, b, h, ek, rfl⟩ := pairD_is e
  obtain ⟨q, vs, rfl, h2, rs⟩ := tupL_use r h
  cases rs with
  | cons r1 t =>
    cases t with
    | cons r2 t =>
      cases t
      have ev := keyD_rep r1 ek
      subst ev
      exact ⟨q, _, rfl, h2, r2⟩
theorem pairs_use : ∀ {vs : List V} {ds : List D} {kv : KD}, Reps k F vs ds → pairsD ds = some kv → ∃ (ps : List Addr) (kvs : List (Key × V)), vs = ps.map V.ref ∧ Paired (fun p kv => SqT k.K F p [kV kv.1, kv.2]) ps kvs ∧ RepK k F kvs kv
  | _, [], kv, .nil, e => by cases e; exact ⟨[], [], rfl, .nil, .nil⟩
  | _, d :: ds, kv, .cons r t, e => by
    unfold pairsD at e
    split at e
    · rename_i p ps e1 e2
      cases e
      obtain ⟨a, x, rfl, h1, h2⟩ := pair_use r e1
      obtain ⟨as, kvs, rfl, h3, h4⟩ := pairs_use t e2
      exact ⟨a :: as, (p.1, x) :: kvs, rfl, .cons h1 h3, RepK.cons (p := (p.1, x)) h2 h4⟩
    · cases e
theorem paired_mono {F F' : Hp} {K K' : PySem.W.Frag} (hK : K = K') (s : Same F F') {ps : List Addr} {kvs : List (Key × V)} (h : Paired (fun p kv => SqT K F p [kV kv.1, kv.2]) ps kvs) : Paired (fun p kv => SqT K' F' p [kV kv.1, kv.2]) ps kvs := by
  subst hK
  induction h with
  | nil => exact .nil
  | cons h _ ih => exact .cons (sqt_mono s h) ih
theorem repK_all : ∀ {more : List (Key × V)} {mk : KD} {kvs : List (Key × V)} {kv : KD}, RepK k F more mk → RepK k F kvs kv → RepK k F (mergeK kvs more) (putAll kv mk)
  | [], [], kvs, kv, _, r => r
  | [], _ :: _, _, _, h, _ => by cases h.1
  | p :: more, _, kvs, kv, h, r => by
    obtain ⟨d, mk', e, h1, h2⟩ := h.cons_inv
    rw [e]
    exact repK_all (more := more) (mk := mk') (kvs := putK kvs p.1 p.2) (kv := putD kv p.1 d) h2 (r.put h1)
/-- dict(xs), xs a list of pairs -/
def gDPairs : List D → M KD := fun ds st => match ds with
  | [d] => (match asL d with
    | some xs => (match pairsD xs with
      | some kv => .ok (putAll [] kv) st
      | none => .stuck)
    | none => .stuck)
  | _ => .stuck
def mDPairs (mr : Ev → M (List D)) : Ev → M KD := fun Γ => do
  let ds ← mr Γ
  gDPairs ds
variable {e : Expr} {es : List Expr} {mr : Ev → M (List D)} {pos p : Pos}
theorem od_pairs (hd : Gl X "dict") (hmd : X.mg "dict" = none) (ha : PA X (e :: es) (tA k E mr)) (hc : X.calm = true := by rfl) (hK : k.K = X.K := by rfl)
    (he : starEach (e :: es) X.env = (false, eval e X.env) :: starEach es X.env := by rfl) (hpl : (backTo pos (starEach es X.env)).any (·.1) = false := by rfl) : PE X (.Call (.Name "dict" p) (e :: es) [] pos) (tOD k E (mDPairs mr)) :=
  PE.weak (pe_callTy (call_dictP hc) hd hmd bt_dict ha (he := he) (hpl := hpl)) fun σ H Q ⟨F, Γ, st, ok, w⟩ => tA.then_ ok w fun vs ds F1 H1 st1 s1 ok1 r1 w1 => by
    unfold gDPairs at w1
    split at w1
    · split at w1
      · rename_i d xs ex
        split at w1
        · rename_i kv ek
          match vs, r1 with
          | [_], .cons rh .nil =>
            obtain ⟨a, ws, rfl, rs, sd⟩ := asL_use rh ex
            obtain ⟨ps, kvs, rfl, h1, h2⟩ := pairs_use rs ek
            refine ⟨a, ps, kvs, rfl, SqL.of (sd.now ok1), paired_mono hK ok1.sub h1, fun p np => ?_⟩
            have s := ok1.new' (ob := .dK (mergeK [] kvs)) np
            exact w1 F1 _ s p _ upd_same (ok1.fnone np) (s1.back np) (repK_all (h2.mono s.ext) .nil)
        · exact w1.elim
      · exact w1.elim
    · exact w1.elim
end
end FL

/-! FS1: mirrors evaluated by rewriting -/
namespace FL
open PySem L2
section
variable {α β : Type} {Γ Γ' : Ev} {st s0 : DS} {a : α} {C : Addr} {fs : List (Str × D)}
@[simp] theorem ob_ok (f : α → DS → Out β) : (Out.ok a st).bind f = f a st := rfl
@[simp] theorem ob_err (f : α → DS → Out β) : (Out.err C fs st : Out α).bind f = .err C fs st := rfl
@[simp] theorem ob_stuck (f : α → DS → Out β) : (Out.stuck : Out α).bind f = .stuck := rfl
@[simp] theorem ob_ite {c : Prop} [Decidable c] (x y : Out α) (f : α → DS → Out β) : (if c then x else y).bind f = if c then x.bind f else y.bind f := by split <;> rfl
def Out.nx {α : Type} : Out α → Out α
  | .ok a s => .ok a s
  | _ => .stuck
@[simp] theorem on_ok : (Out.ok a st).nx = .ok a st := rfl
@[simp] theorem on_err : (Out.err C fs st : Out α).nx = .stuck := rfl
@[simp] theorem on_stuck : (Out.stuck : Out α).nx = .stuck := rfl
@[simp] theorem on_ite {c : Prop} [Decidable c] (x y : Out α) : (if c then x else y).nx = if c then x.nx else y.nx := by split <;> rfl
@[simp] theorem ev_nx (m : M α) : nxM m st = (m st).nx := by unfold nxM Out.nx; cases m st <;> rfl
def Out.sE {α : Type} (o : Out α) (Γ : Ev) (f : α → M Fl) : Out Fl := match o with
  | .ok a s => f a s
  | .err C fs s => .ok (.xc C fs Γ) s
  | .stuck => .stuck
@[simp] theorem os_ok (f : α → M Fl) : (Out.ok a st).sE Γ f = f a st := rfl
@[simp] theorem os_err (f : α → M Fl) : (Out.err C fs st : Out α).sE Γ f = .ok (.xc C fs Γ) st := rfl
@[simp] theorem os_stuck (f : α → M Fl) : (Out.stuck : Out α).sE Γ f = .stuck := rfl
@[simp] theorem os_ite {c : Prop} [Decidable c] (x y : Out α) (f : α → M Fl) : (if c then x else y).sE Γ f = if c then x.sE Γ f else y.sE Γ f := by split <;> rfl
@[simp] theorem ev_sE (m : M α) (f : α → M Fl) : sE m Γ f st = (m st).sE Γ f := by unfold sE Out.sE; cases m st <;> rfl
@[simp] theorem ev_pure : (pure a : M α) st = .ok a st := rfl
@[simp] theorem ev_halt : (halt : M α) st = .stuck := rfl
@[simp] theorem ev_bind (m : M α) (f : α → M β) : (m >>= f) st = (m st).bind fun a s => f a s := rfl
@[simp] theorem ev_ite {c : Prop} [Decidable c] (x y : M α) : (if c then x else y) st = if c then x st else y st := by split <;> rfl
@[simp] theorem merge_D {c : Prop} [Decidable c] (x y : D) : (if c then Out.ok x st else Out.ok y st) = Out.ok (if c then x else y) st := by split <;> rfl
@[simp] theorem merge_B {c : Prop} [Decidable c] (x y : Bool) : (if c then Out.ok x st else Out.ok y st) = Out.ok (if c then x else y) st := by split <;> rfl
@[simp] theorem ite_same {c : Prop} [Decidable c] (x : α) : (if c then x else x) = x := by split <;> rfl
end
section
variable {Γ : Ev} {st : DS} {ma mb mc : EM} {mr : Ev → M (List D)} {t t2 : Ev → M Bool} {g : M2} {i j : Nat} {d e : D}
@[simp] theorem ev_c : mC d Γ st = .ok d st := rfl
@[simp] theorem ev_var : mVar i Γ st = match Γ[i]? with | some (some (.dat d)) => .ok d st | _ => .stuck := rfl
@[simp] theorem ev_op : mOp g ma mb Γ st = (ma Γ st).bind fun a s => (mb Γ s).bind fun b s' => g a b s' := rfl
@[simp] theorem ev_un {g : D → M D} : mUn g ma Γ st = (ma Γ st).bind fun a s => g a s := rfl
@[simp] theorem ev_b : mB ma Γ st = (ma Γ st).bind fun a s => gB a s := rfl
@[simp] theorem ev_gB {b : Bool} : gB (.bl b) st = .ok b st := rfl
@[simp] theorem ev_nil : mNil Γ st = .ok [] st := rfl
@[simp] theorem ev_cons : mCons ma mr Γ st = (ma Γ st).bind fun a s => (mr Γ s).bind fun r s' => .ok (a :: r) s' := rfl
@[simp] theorem ev_call {g : List D → M D} : mCall g mr Γ st = (mr Γ st).bind fun a s => g a s := rfl
@[simp] theorem ev_andT : mAndT t t2 Γ st = (t Γ st).bind fun c s => if c = true then t2 Γ s else .ok false s := by show (t Γ st).bind _ = _; congr; funext c s; cases c <;> rfl
@[simp] theorem ev_orT : mOrT t t2 Γ st = (t Γ st).bind fun c s => if c = true then .ok true s else t2 Γ s := by show (t Γ st).bind _ = _; congr; funext c s; cases c <;> rfl
@[simp] theorem ev_notT : mNotT t Γ st = (t Γ st).bind fun c s => .ok (!c) s := rfl
@[simp] theorem ev_and : mAnd ma mb Γ st = (ma Γ st).bind fun d s => (gB d s).bind fun c s => if c = true then mb Γ s else .ok (.bl false) s := by
  show (ma Γ st).bind _ = _; congr; funext d s; show (gB d s).bind _ = _; congr; funext c s; cases c <;> rfl
@[simp] theorem ev_or : mOr ma mb Γ st = (ma Γ st).bind fun d s => (gB d s).bind fun c s => if c = true then .ok (.bl true) s else mb Γ s := by
  show (ma Γ st).bind _ = _; congr; funext d s; show (gB d s).bind _ = _; congr; funext c s; cases c <;> rfl
@[simp] theorem ev_not {b : Bool} : gNot (.bl b) st = .ok (.bl (!b)) st := rfl
@[simp] theorem ev_if : mIf t ma mb Γ st = (t Γ st).bind fun c s => if c = true then ma Γ s else mb Γ s := by show (t Γ st).bind _ = _; congr; funext c s; cases c <;> rfl
@[simp] theorem ev_tup : mTup mr Γ st = (mr Γ st).bind fun r s => if r.length ≤ sizeLine then .ok (.tup r) s else .stuck := by
  show (mr Γ st).bind _ = _; congr; funext r s; by_cases h : r.length ≤ sizeLine <;> simp [h]
@[simp] theorem ev_lst : mLst mr Γ st = (mr Γ st).bind fun r s => if r.length ≤ sizeLine then .ok (.lst r) s else .stuck := by
  show (mr Γ st).bind _ = _; congr; funext r s; by_cases h : r.length ≤ sizeLine <;> simp [h]
@[simp] theorem ev_frz : mFrz mr Γ st = (mr Γ st).bind fun r s => .ok (.lst r) s := rfl
@[simp] theorem ev_disp : mDisp mr Γ st = (mr Γ st).bind fun r s => if r.length ≤ sizeLine then .ok r s else .stuck := by
  show (mr Γ st).bind _ = _; congr; funext r s; by_cases h : r.length ≤ sizeLine <;> simp [h]
@[simp] theorem ev_src {g : List D → M (List D)} : mSrc g mr Γ st = (mr Γ st).bind fun a s => g a s := rfl
@[simp] theorem ev_seqOf : mSeqOf ma Γ st = (ma Γ st).bind fun a s => gSeq a s := rfl
@[simp] theorem ev_callO {g : List D → M (List D)} : mCallO g mr Γ st = (mr Γ st).bind fun a s => g a s := rfl
@[simp] theorem ev_yes : mYes Γ st = .ok true st := rfl
/-! statements -/
variable {m m2 : SM} {gm : GM}
@[simp] theorem ev_next : mNext Γ st = .ok (.nx Γ) st := rfl
@[simp] theorem ev_seq : mSeq m m2 Γ st = (m Γ st).bind fun r s => kSeq m2 r s := rfl
@[simp] theorem ks_nx : kSeq m2 (.nx Γ) st = m2 Γ st := rfl
@[simp] theorem ks_rt : kSeq m2 (.rt d) st = .ok (.rt d) st := rfl
@[simp] theorem ks_bk : kSeq m2 (.bk Γ) st = .ok (.bk Γ) st := rfl
@[simp] theorem ks_ct : kSeq m2 (.ct Γ) st = .ok (.ct Γ) st := rfl
@[simp] theorem ks_xc {C : Addr} {fs : List (Str × D)} : kSeq m2 (.xc C fs Γ) st = .ok (.xc C fs Γ) st := rfl
@[simp] theorem ev_ret : mRet ma Γ st = (ma Γ st).sE Γ fun d => pure (.rt d) := by unfold mRet; exact ev_sE _ _
@[simp] theorem ev_retN : mRetN Γ st = .ok (.rt .non) st := rfl
@[simp] theorem ev_break : mBreak Γ st = .ok (.bk Γ) st := rfl
@[simp] theorem ev_cont : mCont Γ st = .ok (.ct Γ) st := rfl
@[simp] theorem ev_ifS : mIfS t m m2 Γ st = (t Γ st).sE Γ fun c => if c = true then m Γ else m2 Γ := by
  unfold mIfS; rw [ev_sE]
@[simp] theorem ev_drop : mDrop ma Γ st = (ma Γ st).sE Γ fun _ => pure (.nx Γ) := by unfold mDrop; exact ev_sE _ _
@[simp] theorem ev_asg : mAsg ma gm Γ st = (ma Γ st).sE Γ fun d => match gm d Γ with | some Γ' => pure (.nx Γ') | none => halt := by unfold mAsg; exact ev_sE _ _
@[simp] theorem ev_gName : mgName i d Γ = some (Γ.set i (some (.dat d))) := rfl
@[simp] theorem ev_gNil : mgNil [] Γ = some Γ := rfl
@[simp] theorem ev_gCons {g : GM} {gs : List D → Ev → Option Ev} {r : List D} : mgCons g gs (d :: r) Γ = (g d Γ).bind (gs r) := rfl
@[simp] theorem ev_gTup {n : Nat} {gs : List D → Ev → Option Ev} {r : List D} : mgTup n gs (.tup r) Γ = if r.length = n then gs r Γ else none := rfl
@[simp] theorem ev_for {mi : Ev → M (List D)} : mFor mi gm m Γ st = (mi Γ st).sE Γ fun xs => loopS gm m xs Γ := by unfold mFor; exact ev_sE _ _
@[simp] theorem kr_nx : kRet (.nx Γ) st = .ok .non st := rfl
@[simp] theorem kr_rt : kRet (.rt d) st = .ok d st := rfl
@[simp] theorem ev_fn {np n : Nat} {ds : List D} : fnM np n m ds st = if ds.length = np then ((m (startE n ds) st).nx).bind fun r s => kRet r s else .stuck := by
  unfold fnM; by_cases h : ds.length = np
  · rw [if_pos h, if_pos h]; show (nxM _ st).bind _ = _; rw [ev_nx]
  · rw [if_neg h, if_neg h]; rfl
@[simp] theorem ev_start {n : Nat} {ds : List D} : startE n ds = ds.map (fun d => some (.dat d)) ++ List.replicate (n - ds.length) none := rfl
/-! operators -/
variable {x y : Str} {a b : Int} {xs ys : List D}
@[simp] theorem add_i : gAdd (.int a) (.int b) st = .ok (.int (a + b)) st := rfl
@[simp] theorem add_s : gAdd (.str x) (.str y) st = if x.length + y.length ≤ sizeLine then .ok (.str (x ++ y)) st else .stuck := by show (if decide _ = true then _ else _) = _; simp
@[simp] theorem add_t : gAdd (.tup xs) (.tup ys) st = if xs.length + ys.length ≤ sizeLine then .ok (.tup (xs ++ ys)) st else .stuck := by show (if decide _ = true then _ else _) = _; simp
@[simp] theorem add_l : gAdd (.lst xs) (.lst ys) st = if xs.length + ys.length ≤ sizeLine then .ok (.lst (xs ++ ys)) st else .stuck := by show (if decide _ = true then _ else _) = _; simp
@[simp] theorem sub_i : gSub (.int a) (.int b) st = .ok (.int (a - b)) st := rfl
@[simp] theorem mod_i : gMod (.int a) (.int b) st = if 0 < b then .ok (.int (a % b)) st else .stuck := by show (if decide _ = true then _ else _) = _; simp
@[simp] theorem div_i : gDiv (.int a) (.int b) st = if 0 < b ∧ b < 1073741824 then .ok (.int (a / b)) st else .stuck := by show (if decide _ = true then _ else _) = _; simp
@[simp] theorem mulW_i : gMulW (.int a) (.int b) st = if a.natAbs.log2 + b.natAbs.log2 < 1000000 then .ok (.int (a * b)) st else .stuck := by show (if decide _ = true then _ else _) = _; simp
@[simp] theorem divW_i : gDivW (.int a) (.int b) st = if 0 < b ∧ b.natAbs.log2 < 9000 then .ok (.int (a / b)) st else .stuck := by show (if decide _ = true then _ else _) = _; simp
@[simp] theorem lt_i : gLt (.int a) (.int b) st = .ok (.bl (decide (a < b))) st := rfl
@[simp] theorem le_i : gLe (.int a) (.int b) st = .ok (.bl (decide (a ≤ b))) st := rfl
@[simp] theorem gt_i : gGt (.int a) (.int b) st = .ok (.bl (decide (b < a))) st := rfl
@[simp] theorem ge_i : gGe (.int a) (.int b) st = .ok (.bl (decide (b ≤ a))) st := rfl
@[simp] theorem neg_i : gNeg (.int a) st = .ok (.int (-a)) st := rfl
@[simp] theorem seq_t : gSeq (.tup xs) st = .ok xs st := rfl
@[simp] theorem seq_l : gSeq (.lst xs) st = .ok xs st := rfl
@[simp] theorem seq_b : gSeq (.bor xs) st = .ok xs st := rfl
@[simp] theorem len_t : gLen [.tup xs] st = .ok (.int xs.length) st := rfl
@[simp] theorem len_l : gLen [.lst xs] st = .ok (.int xs.length) st := rfl
@[simp] theorem len_b : gLen [.bor xs] st = .ok (.int xs.length) st := rfl
@[simp] theorem tuple_l : gTuple [.lst xs] st = .ok (.tup xs) st := rfl
@[simp] theorem tuple_b : gTuple [.bor xs] st = .ok (.tup xs) st := rfl
@[simp] theorem tuple_t : gTuple [.tup xs] st = .ok (.tup xs) st := rfl
@[simp] theorem listOf_l : gListOf [.lst xs] st = .ok xs st := rfl
@[simp] theorem listOf_b : gListOf [.bor xs] st = .ok xs st := rfl
@[simp] theorem listOf_t : gListOf [.tup xs] st = .ok xs st := rfl
@[simp] theorem zip_t : gZip [.tup xs, .tup ys] st = .ok (zipD xs ys) st := rfl
@[simp] theorem sum_l {r : List Int} : gSum [.lst (r.map D.int)] st = .ok (.int r.sum) st := gSum_lst
@[simp] theorem sum_t {r : List Int} : gSum [.tup (r.map D.int)] st = .ok (.int r.sum) st := gSum_tup
@[simp] theorem ixn_t {n : Nat} : gIx (.tup xs) (.int (n : Int)) st = match xs[n]? with | some x => .ok x st | none => .stuck := by
  cases h : xs[n]? with
  | some x => exact gIx_tup h
  | none =>
    show (match atI xs (n : Int) with | some z => Out.ok z st | none => .stuck) = _
    have : atI xs (n : Int) = none := by
      unfold atI ixN
      have := List.getElem?_eq_none_iff.mp h
      rw [if_pos (by omega), if_neg (by omega)]
      rfl
    rw [this]
end
/-! ### eq of texts -/
section
variable {st : DS} {x y : Str}
@[simp] theorem eq_s : gEq (.str x) (.str y) st = .ok (.bl (decide (x = y))) st := by
  unfold gEq
  rw [if_pos (show eqOk (.str x) (.str y) = true from rfl), eqD_str]
  simp
@[simp] theorem ne_s : gNe (.str x) (.str y) st = .ok (.bl (!decide (x = y))) st := by
  unfold gNe
  rw [if_pos (show eqOk (.str x) (.str y) = true from rfl), eqD_str]
  simp
@[simp] theorem eq_i {a b : Int} : gEq (.int a) (.int b) st = .ok (.bl (decide (a = b))) st := by rw [eq_int]; congr 2
@[simp] theorem ne_i {a b : Int} : gNe (.int a) (.int b) st = .ok (.bl (!decide (a = b))) st := by rw [ne_int]; congr 2
end
/-! ### comprehensions -/
/-- an item is left out, or answered -/
def compF {α : Type} (b : α → DS → Out (Option D)) : List α → DS → Out (List D)
  | [], st => .ok [] st
  | u :: us, st => (b u st).bind fun o s => (compF b us s).bind fun r s' => .ok (o.toList ++ r) s'
def stepF (g : GM) (t : Ev → M Bool) (e : EM) (Γ : Ev) (d : D) (st : DS) : Out (Option D) := match g d Γ with
  | none => .stuck
  | some Γ1 => ((t Γ1 st).nx).bind fun c s => if c = true then ((e Γ1 s).nx).bind fun y s' => .ok (some y) s' else .ok none s
theorem compL_F {α : Type} (f : α → D) (g : GM) (t : Ev → M Bool) (e : EM) (Γ : Ev) : ∀ (us : List α) (st : DS), compL g t e Γ (us.map f) st = compF (fun u s => stepF g t e Γ (f u) s) us st
  | [], st => rfl
  | u :: us, st => by
    have ih := compL_F f g t e Γ us
    rw [List.map_cons, compL, compF]
    unfold stepF
    cases g (f u) Γ with
    | none => rfl
    | some Γ1 =>
      show (nxM (t Γ1) st).bind _ = (((t Γ1 st).nx).bind _).bind _
      rw [ev_nx]
      cases t Γ1 st with
      | ok c s =>
        cases c with
        | true =>
          show (nxM (e Γ1) s).bind _ = (((e Γ1 s).nx).bind _).bind _
          rw [ev_nx]
          cases e Γ1 s with
          | ok y s1 =>
            show (compL g t e Γ (us.map f) s1).bind _ = (compF _ us s1).bind _
            rw [ih]
            rfl
          | err _ _ _ => rfl
          | stuck => rfl
        | false =>
          show compL g t e Γ (us.map f) s = (compF _ us s).bind _
          rw [ih]
          have z : ∀ o : Out (List D), o = o.bind (fun r s' => .ok (([] : List D) ++ r) s') := fun o => by cases o <;> rfl
          exact z _
      | err _ _ _ => rfl
      | stuck => rfl
@[simp] theorem compL_map {α : Type} (f : α → D) (g : GM) (t : Ev → M Bool) (e : EM) (Γ : Ev) (us : List α) (st : DS) : compL g t e Γ (us.map f) st = compF (fun u s => stepF g t e Γ (f u) s) us st := compL_F f g t e Γ us st
theorem compL_id (g : GM) (t : Ev → M Bool) (e : EM) (Γ : Ev) (us : List D) (st : DS) : compL g t e Γ us st = compF (fun u s => stepF g t e Γ u s) us st := by
  have := compL_F id g t e Γ us st
  rwa [List.map_id] at this
@[simp] theorem ev_stepF {g : GM} {t : Ev → M Bool} {e : EM} {Γ : Ev} {d : D} {st : DS} : stepF g t e Γ d st = match g d Γ with
  | none => .stuck
  | some Γ1 => ((t Γ1 st).nx).bind fun c s => if c = true then ((e Γ1 s).nx).bind fun y s' => .ok (some y) s' else .ok none s := rfl
theorem compF_congr {α : Type} {b b' : α → DS → Out (Option D)} : ∀ {us : List α}, (∀ u ∈ us, ∀ s, b u s = b' u s) → ∀ st, compF b us st = compF b' us st
  | [], _, _ => rfl
  | u :: us, h, st => by
    have ih := compF_congr (us := us) fun x hx => h x (List.mem_cons_of_mem _ hx)
    rw [compF, compF, h u List.mem_cons_self]
    congr
    funext o s
    rw [ih]
@[simp] theorem compF_all {α : Type} {f : α → D} : ∀ {us : List α} {st : DS}, compF (fun u s => .ok (some (f u)) s) us st = .ok (us.map f) st
  | [], _ => rfl
  | u :: us, st => by rw [compF, ob_ok, compF_all (us := us)]; rfl
@[simp] theorem compF_if {α : Type} {p : α → Prop} [DecidablePred p] {f : α → D} : ∀ {us : List α} {st : DS}, compF (fun u s => if p u then .ok (some (f u)) s else .ok none s) us st = .ok ((us.filter fun u => decide (p u)).map f) st
  | [], _ => rfl
  | u :: us, st => by
    rw [compF]
    by_cases h : p u
    · rw [if_pos h, ob_ok, compF_if (us := us), ob_ok, List.filter_cons_of_pos (by simpa using h)]; rfl
    · rw [if_neg h, ob_ok, compF_if (us := us), ob_ok, List.filter_cons_of_neg (by simpa using h)]; rfl
@[simp] theorem compF_if' {α : Type} {p : α → Prop} [DecidablePred p] {f : α → D} {us : List α} {st : DS} : compF (fun u s => if p u then .ok none s else .ok (some (f u)) s) us st = .ok ((us.filter fun u => !decide (p u)).map f) st := by
  have := compF_if (p := fun u => ¬ p u) (f := f) (us := us) (st := st)
  rw [show (fun u => !decide (p u)) = fun u => decide (¬ p u) from funext fun u => by simp, ← this]
  apply compF_congr
  intro u _ s
  by_cases h : p u
  · rw [if_pos h, if_neg (by simpa using h)]
  · rw [if_neg h, if_pos h]
@[simp] theorem ev_comp {mi : Ev → M (List D)} {g : GM} {t : Ev → M Bool} {e : EM} {vs : List Nat} {Γ : Ev} {st : DS} : mComp mi g t e vs Γ st = (mi Γ st).bind fun xs s => if xs.length ≤ sizeLine then compL g t e (wipeE Γ vs) xs s else .stuck := by
  show (mi Γ st).bind _ = _; congr; funext r s; by_cases h : r.length ≤ sizeLine <;> simp [h]
@[simp] theorem ev_wipe0 {Γ : Ev} : wipeE Γ [] = Γ := rfl
@[simp] theorem ev_wipe {Γ : Ev} {v : Nat} {vs : List Nat} : wipeE Γ (v :: vs) = (wipeE Γ vs).set v none := rfl
/-! ### members -/
theorem pys_any_str (x : Str) : ∀ ys : List Str, ((D.pys (ys.map D.str)).any fun z => PyData.eqv z (D.py (.str x))) = decide (x ∈ ys)
  | [] => rfl
  | y :: ys => by
    have ih := pys_any_str x ys
    rw [List.map_cons, D.pys, List.any_cons, ih]
    have : PyData.eqv (D.py (.str y)) (D.py (.str x)) = decide (y = x) := by
      have := eqD_str (x := y) (y := x)
      unfold eqD at this
      rw [this]; simp
    rw [this]
    by_cases h : x = y <;> simp [h, eq_comm]
theorem pys_plain_str : ∀ ys : List Str, D.plains (ys.map D.str) = true
  | [] => rfl
  | y :: ys => by rw [List.map_cons, D.plains, pys_plain_str ys]; rfl
end FL

/-! FS2: names, and what is asked of them -/
namespace FL
open PySem L2
/-- a short text -/
def Nm : Type := {x : Str // PyData.strOk x = true ∧ x.length ≤ 100}
instance : DecidableEq Nm := inferInstanceAs (DecidableEq {x : Str // PyData.strOk x = true ∧ x.length ≤ 100})
def nm (x : Nm) : D := .str x.1
def pr (p : Nm × Nm) : D := .tup [nm p.1, nm p.2]
@[simp] theorem ev_pr {p : Nm × Nm} : pr p = .tup [nm p.1, nm p.2] := rfl
theorem nm_lay (x : Nm) : (nm x).py.canLay0 = true := by
  show PyData.canLay0 (D.py (.str x.1)) = true
  rw [D.py, PyData.canLay0]; exact x.2.1
theorem shaped_of {d : PyData} (h : d.canLay0 = true) (h2 : d.depth ≤ 64) : SeqAt.shaped d = true := by
  unfold SeqAt.shaped; rw [h, decide_eq_true h2]; rfl
theorem nm_depth (x : Nm) : (nm x).py.depth ≤ 1 := by
  show PyData.depth (D.py (.str x.1)) ≤ 1
  rw [D.py, PyData.depth]; decide
/-- the equality of an encoding -/
structure EqE {α : Type} [DecidableEq α] (f : α → D) (n : Nat) : Prop where
  plain : ∀ a, (f a).plain = true
  lay : ∀ a, (f a).py.canLay0 = true
  depth : ∀ a, (f a).py.depth ≤ n
  eqv : ∀ a b, PyData.eqv (f a).py (f b).py = decide (a = b)
section
variable {α β : Type} [DecidableEq α] [DecidableEq β] {f : α → D} {g : β → D} {n m : Nat} {st : DS}
theorem EqE.shaped (h : EqE f n) (hn : n ≤ 64) (a : α) : SeqAt.shaped (f a).py = true := shaped_of (h.lay a) (Nat.le_trans (h.depth a) hn)
theorem EqE.eq (h : EqE f n) (hn : n ≤ 64) (a b : α) : gEq (f a) (f b) st = .ok (.bl (decide (a = b))) st := by
  unfold gEq eqOk
  rw [h.plain, h.plain, h.shaped hn, h.shaped hn]
  simp only [Bool.and_self, Bool.or_true, if_true]
  unfold eqD
  rw [h.eqv]
theorem EqE.ne (h : EqE f n) (hn : n ≤ 64) (a b : α) : gNe (f a) (f b) st = .ok (.bl (!decide (a = b))) st := by
  unfold gNe eqOk
  rw [h.plain, h.plain, h.shaped hn, h.shaped hn]
  simp only [Bool.and_self, Bool.or_true, if_true]
  unfold eqD
  rw [h.eqv]
theorem EqE.plains (h : EqE f n) : ∀ xs : List α, D.plains (xs.map f) = true
  | [] => rfl
  | x :: xs => by rw [List.map_cons, D.plains, h.plain, h.plains xs]; rfl
theorem EqE.lays (h : EqE f n) : ∀ xs : List α, PyData.canLayAll0 (D.pys (xs.map f)) = true
  | [] => rfl
  | x :: xs => by rw [List.map_cons, D.pys, PyData.canLayAll0, h.lay, h.lays xs]; rfl
theorem EqE.depths (h : EqE f n) : ∀ xs : List α, PyData.depthAll (D.pys (xs.map f)) ≤ n
  | [] => by rw [List.map_nil, D.pys, PyData.depthAll]; exact Nat.zero_le _
  | x :: xs => by
    rw [List.map_cons, D.pys, PyData.depthAll]
    have := h.depth x
    have := h.depths xs
    omega
theorem EqE.eqvs (h : EqE f n) : ∀ xs ys : List α, PyData.eqvAll (D.pys (xs.map f)) (D.pys (ys.map f)) = decide (xs = ys)
  | [], [] => by simp [D.pys, PyData.eqvAll]
  | [], y :: ys => by simp [D.pys, PyData.eqvAll]
  | x :: xs, [] => by simp [D.pys, PyData.eqvAll]
  | x :: xs, y :: ys => by
    rw [List.map_cons, List.map_cons, D.pys, D.pys, PyData.eqvAll, h.eqv, h.eqvs xs ys]
    by_cases h1 : x = y <;> by_cases h2 : xs = ys <;> simp [h1, h2]
theorem EqE.tup (h : EqE f n) : EqE (fun xs : List α => D.tup (xs.map f)) (n + 1) where
  plain xs := by rw [D.plain]; exact h.plains xs
  lay xs := by rw [D.py, PyData.canLay0]; exact h.lays xs
  depth xs := by rw [D.py, PyData.depth]; have := h.depths xs; omega
  eqv xs ys := by rw [D.py, D.py, PyData.eqv]; exact h.eqvs xs ys
theorem EqE.lst (h : EqE f n) : EqE (fun xs : List α => D.lst (xs.map f)) (n + 1) where
  plain xs := by rw [D.plain]; exact h.plains xs
  lay xs := by rw [D.py, PyData.canLay0]; exact h.lays xs
  depth xs := by rw [D.py, PyData.depth]; have := h.depths xs; omega
  eqv xs ys := by rw [D.py, D.py, PyData.eqv]; exact h.eqvs xs ys
theorem EqE.pair (h : EqE f n) (h2 : EqE g m) : EqE (fun p : α × β => D.tup [f p.1, g p.2]) (max n m + 1) where
  plain p := by rw [D.plain, D.plains, D.plains, D.plains, h.plain, h2.plain]; rfl
  lay p := by rw [D.py, PyData.canLay0, D.pys, D.pys, D.pys, PyData.canLayAll0, PyData.canLayAll0, PyData.canLayAll0, h.lay, h2.lay]; rfl
  depth p := by
    rw [D.py, PyData.depth, D.pys, D.pys, D.pys, PyData.depthAll, PyData.depthAll, PyData.depthAll]
    have := h.depth p.1
    have := h2.depth p.2
    omega
  eqv p q := by
    rw [D.py, D.py, PyData.eqv, D.pys, D.pys, D.pys, D.pys, D.pys, D.pys, PyData.eqvAll, PyData.eqvAll, PyData.eqvAll, h.eqv, h2.eqv]
    obtain ⟨a, b⟩ := p
    obtain ⟨c, d⟩ := q
    by_cases h1 : a = c <;> by_cases h2 : b = d <;> simp [h1, h2]
theorem EqE.any (h : EqE f n) (a : α) : ∀ xs : List α, ((D.pys (xs.map f)).any fun z => PyData.eqv z (f a).py) = decide (a ∈ xs)
  | [] => rfl
  | x :: xs => by
    rw [List.map_cons, D.pys, List.any_cons, h.any a xs, h.eqv]
    by_cases h1 : a = x <;> simp [h1, eq_comm]
theorem EqE.in_ (h : EqE f n) (hn : n ≤ 63) (neg : Bool) (a : α) (e : D) (xs : List α) (he : asL e = some (xs.map f)) : gIn_ neg (f a) e st = .ok (.bl (neg != decide (a ∈ xs))) st := by
  unfold gIn_
  rw [he]
  dsimp only
  have s2 : SeqAt.shaped (.list (D.pys (xs.map f))) = true := shaped_of (by rw [PyData.canLay0]; exact h.lays xs) (by rw [PyData.depth]; have := h.depths xs; omega)
  rw [h.plain, h.plains, h.shaped (by omega), s2, h.any]
  rfl
theorem EqE.inL (h : EqE f n) (hn : n ≤ 63) (neg : Bool) (a : α) (e : D) (xs : List α) (he : asL e = some (xs.map f)) : gInA_ neg (f a) e st = .ok (.bl (neg != decide (a ∈ xs))) st := by
  unfold gInA_
  rw [he]
  exact h.in_ hn neg a e xs he
theorem EqE.inT (h : EqE f n) (hn : n ≤ 63) (neg : Bool) (a : α) (e : D) (xs : List α) (ha : asL e = none) (he : tupL e = some (xs.map f)) : gInA_ neg (f a) e st = .ok (.bl (neg != decide (a ∈ xs))) st := by
  unfold gInA_
  rw [ha, he]
  dsimp only
  have s2 : SeqAt.shaped (.tuple (D.pys (xs.map f))) = true := shaped_of (by rw [PyData.canLay0]; exact h.lays xs) (by rw [PyData.depth]; have := h.depths xs; omega)
  rw [h.plain, h.plains, h.shaped (by omega), s2, h.any]
  rfl
end
theorem eqE_nm : EqE nm 1 where
  plain x := rfl
  lay := nm_lay
  depth := nm_depth
  eqv a b := by
    have := eqD_str (x := a.1) (y := b.1)
    unfold eqD at this
    show PyData.eqv (D.py (.str a.1)) (D.py (.str b.1)) = _
    rw [this]
    by_cases h : a = b
    · simp [h]
    · have : a.1 ≠ b.1 := fun e => h (Subtype.ext e)
      simp [h, this]
theorem eqE_int : EqE D.int 1 where
  plain x := rfl
  lay x := rfl
  depth x := by rw [D.py, PyData.depth]; decide
  eqv a b := by
    show PyData.eqv (.int a) (.int b) = _
    rw [PyData.eqv]
    rfl
theorem eqE_pr : EqE pr 2 := eqE_nm.pair eqE_nm
section
variable {st : DS} {a b : Nm} {xs ys : List Nm} {p q : Nm × Nm} {ps qs : List (Nm × Nm)} {neg : Bool}
@[simp] theorem eq_nm : gEq (nm a) (nm b) st = .ok (.bl (decide (a = b))) st := eqE_nm.eq (by decide) _ _
@[simp] theorem ne_nm : gNe (nm a) (nm b) st = .ok (.bl (!decide (a = b))) st := eqE_nm.ne (by decide) _ _
@[simp] theorem in_nmT : gInA_ neg (nm a) (.tup (xs.map nm)) st = .ok (.bl (neg != decide (a ∈ xs))) st := eqE_nm.inT (by decide) _ _ _ _ rfl rfl
@[simp] theorem in_nmL : gInA_ neg (nm a) (.lst (xs.map nm)) st = .ok (.bl (neg != decide (a ∈ xs))) st := eqE_nm.inL (by decide) _ _ _ _ rfl
@[simp] theorem in_nmB : gInA_ neg (nm a) (.bor (xs.map nm)) st = .ok (.bl (neg != decide (a ∈ xs))) st := eqE_nm.inL (by decide) _ _ _ _ rfl
@[simp] theorem zip_map {α β : Type} (f : α → D) (g : β → D) (xs : List α) (ys : List β) : zipD (xs.map f) (ys.map g) = (xs.zip ys).map fun p => .ltp [f p.1, g p.2] := zipD_map f g xs ys
@[simp] theorem enum_map {α : Type} (f : α → D) (xs : List α) : enumD (xs.map f) = (xs.zipIdx).map fun p => .ltp [.int (p.2 : Nat), f p.1] := enumD_map f xs
end
theorem big_line {n : Nat} (h : n ≤ 1000000) : n ≤ sizeLine := small_le h
end FL

/-! FS3: what holds of an outcome; draws, loops, one's own lists -/
namespace FL
open PySem L2
section
variable {α β : Type} {Γ Γ' : Ev} {st : DS} {o : Out α} {P Q : α → DS → Prop}
/-- it answers, and so -/
inductive Gd {α : Type} : Out α → (α → DS → Prop) → Prop
  | mk {a : α} {s : DS} {P : α → DS → Prop} (h : P a s) : Gd (.ok a s) P
@[simp] theorem gd_ok {a : α} : Gd (.ok a st) P = P a st := propext ⟨fun h => by cases h; assumption, .mk⟩
@[simp] theorem gd_err {C : Addr} {fs : List (Str × D)} : Gd (.err C fs st : Out α) P = False := propext ⟨fun h => (nomatch h), False.elim⟩
@[simp] theorem gd_stuck : Gd (.stuck : Out α) P = False := propext ⟨fun h => (nomatch h), False.elim⟩
theorem gd_out (h : Gd o P) : ∃ a s, o = .ok a s ∧ P a s := by cases h; exact ⟨_, _, rfl, by assumption⟩
@[simp] theorem gd_bind {f : α → DS → Out β} {R : β → DS → Prop} : Gd (o.bind f) R = Gd o fun a s => Gd (f a s) R := by cases o <;> simp
@[simp] theorem gd_nx : Gd o.nx P = Gd o P := by cases o <;> simp
theorem gd_sE {f : α → M Fl} {R : Fl → DS → Prop} (h : Gd o fun a s => Gd (f a s) R) : Gd (o.sE Γ f) R := by
  obtain ⟨a, s, rfl, h2⟩ := gd_out h
  rw [os_ok]
  exact h2
theorem gd_congr {o o' : Out α} (h : o = o') : Gd o P = Gd o' P := by rw [h]
theorem Gd.mono (h : Gd o P) (q : ∀ a s, P a s → Q a s) : Gd o Q := by cases h with | mk h => exact .mk (q _ _ h)
theorem W.gd {m : M α} {R : α → Prop} (w : W m R) (h : ∀ a s, R a → P a s) : Gd (m st) P := by
  obtain ⟨a, s, e, r⟩ := w st
  rw [e]; exact .mk (h a s r)
theorem gd_eq {a : α} {s : DS} (h : o = .ok a s) (p : P a s) : Gd o P := by rw [h]; exact .mk p
theorem w_gd {m : M α} {R : α → Prop} (h : ∀ st, Gd (m st) fun a _ => R a) : W m R := fun st => by
  obtain ⟨a, s, e, r⟩ := gd_out (h st)
  exact ⟨a, s, e, r⟩
theorem eq_gd {v : α} (h : Gd o fun a s => a = v ∧ s = st) : o = .ok v st := by
  obtain ⟨a, s, e, rfl, rfl⟩ := gd_out h
  exact e
theorem gd_if {c : Prop} [Decidable c] {x y : Out α} (h1 : c → Gd x P) (h2 : ¬ c → Gd y P) : Gd (if c then x else y) P := by
  split
  · exact h1 ‹_›
  · exact h2 ‹_›
/-- a loop over items told by f -/
theorem gd_loop {f : α → D} {g : GM} {mb : SM} (I : List α → Ev → DS → Prop) {R : Fl → DS → Prop} : ∀ {us : List α} {Γ : Ev} {st : DS}, I us Γ st → (∀ u r Γ st, I (u :: r) Γ st → ∃ Γ1, g (f u) Γ = some Γ1 ∧ Gd (mb Γ1 st) fun fl s => ∃ Γ2, (fl = .nx Γ2 ∨ fl = .ct Γ2) ∧ I r Γ2 s) →
    (∀ Γ s, I [] Γ s → R (.nx Γ) s) → Gd (loopS g mb (us.map f) Γ st) R
  | [], Γ, st, h0, _, hR => .mk (hR Γ st h0)
  | u :: us, Γ, st, h0, hs, hR => by
    obtain ⟨Γ1, e1, h1⟩ := hs u us Γ st h0
    rw [List.map_cons, loopS, e1]
    refine (gd_bind (o := mb Γ1 st) (f := fun r s => kLoop (loopS g mb (us.map f)) r s)).symm ▸ ?_
    refine h1.mono fun fl s ⟨Γ2, e2, h2⟩ => ?_
    rcases e2 with rfl | rfl
    · exact gd_loop I h2 hs hR
    · exact gd_loop I h2 hs hR
/-- a comprehension whose items are drawn -/
theorem gd_comp {f : α → D} {g : GM} {e : EM} {us : List α} {Γ : Ev} {R : α → D → Prop} (h : ∀ u ∈ us, ∃ Γ1, g (f u) Γ = some Γ1 ∧ W (e Γ1) (R u)) :
    ∀ {P : List D → DS → Prop}, (∀ ys s, ys.length = us.length → (∀ (i : Nat) u y, us[i]? = some u → ys[i]? = some y → R u y) → P ys s) → Gd (compL g mYes e Γ (us.map f) st) P := by
  induction us generalizing st with
  | nil => exact fun hP => .mk (hP [] st rfl fun i u y e => by cases e)
  | cons u us ih =>
    intro P hP
    obtain ⟨Γ1, e1, h1⟩ := h u List.mem_cons_self
    rw [compL_map, compF, ev_stepF, e1]
    simp only [ev_yes, on_ok, ob_ok, if_true, gd_bind, gd_nx]
    refine W.gd h1 fun a s ra => ?_
    simp only [gd_ok]
    have := ih (st := s) (fun x hx => h x (List.mem_cons_of_mem _ hx)) (P := fun ys s => P (a :: ys) s) fun ys s hl hr => hP (a :: ys) s (by simp [hl]) fun i x y ex ey => by
      cases i with
      | zero => cases ex; cases ey; exact ra
      | succ i => exact hr i x y ex ey
    rw [compL_map] at this
    refine this.mono fun ys s hy => ?_
    exact hy
end
section
variable {Γ : Ev} {st : DS} {i j : Nat} {xs ys : List D}
@[simp] theorem ev_setO {m : Ev → M (List D)} : mSetO i m Γ st = (m Γ st).sE Γ fun xs => pure (.nx (Γ.set i (some (.own xs)))) := by unfold mSetO; exact ev_sE _ _
@[simp] theorem ev_par {ma : Ev → M (List D)} : mPar i j ma Γ st = (ma Γ st).sE Γ fun ds => match ds with
  | [d, e] => pure (.nx ((Γ.set i (some (.dat d))).set j (some (.dat e))))
  | _ => halt := by unfold mPar; exact ev_sE _ _
@[simp] theorem ev_parX {ma mb : Ev → M Got} : mParX i j ma mb Γ st = (ma Γ st).sE Γ fun g => sE (mb Γ) Γ fun h => pure (.nx ((Γ.set i (some g.sl)).set j (some h.sl))) := by unfold mParX; exact ev_sE _ _
@[simp] theorem ev_gDa {m : EM} : gDa m Γ st = (m Γ st).bind fun d s => .ok (.da d) s := rfl
@[simp] theorem ev_gOw {m : Ev → M (List D)} : gOw m Γ st = (m Γ st).bind fun d s => .ok (.ow (.ls d)) s := rfl
@[simp] theorem sl_da {d : D} : (Got.da d).sl = .dat d := rfl
@[simp] theorem sl_ow {d : OD} : (Got.ow d).sl = .own d := rfl
theorem ev_app {me : EM} (h : gOwn i Γ = some xs) : mApp i me Γ st = (me Γ st).sE Γ fun d => if xs.length < sizeLine then pure (.nx (Γ.set i (some (.own (xs ++ [d]))))) else halt := by
  unfold mApp; rw [h]; simp only [decide_eq_true_eq]; exact ev_sE _ _
theorem ev_bor {m : EM} (h : gOwn i Γ = some xs) : mBor i m Γ st = ((m (Γ.set i (some (.dat (.bor xs)))) st).nx).bind fun d s => if noBor d = true then .ok d s else .stuck := by
  unfold mBor; rw [h]
  show (nxM _ st).bind _ = _
  rw [ev_nx]; congr; funext d s; cases noBor d <;> rfl
theorem ev_borT {m : Ev → M Bool} (h : gOwn i Γ = some xs) : mBorT i m Γ st = (m (Γ.set i (some (.dat (.bor xs)))) st).nx := by
  unfold mBorT; rw [h]; exact ev_nx _
theorem ev_frzS {m : SM} (h : gOwn i Γ = some xs) : mFrzS i m Γ st = m (Γ.set i (some (.dat (.lst xs)))) st := by unfold mFrzS; rw [h]
@[simp] theorem int_of {n : Int} : gIntOf [.int n] st = .ok (.int n) st := rfl
@[simp] theorem noBor_int {n : Int} : noBor (.int n) = true := by simp [noBor]
@[simp] theorem noBor_nm {x : Nm} : noBor (nm x) = true := by simp [nm, noBor]
theorem noBors_map {α : Type} {f : α → D} (h : ∀ a, noBor (f a) = true) : ∀ us : List α, noBors (us.map f) = true
  | [] => by simp [noBors]
  | u :: us => by rw [List.map_cons, noBors, h, noBors_map h us]; rfl
@[simp] theorem noBor_pr {p : Nm × Nm} : noBor (pr p) = true := by simp [pr, noBor, noBors]
theorem noBor_tupM {α : Type} {f : α → D} (h : ∀ a, noBor (f a) = true) (us : List α) : noBor (.tup (us.map f)) = true := by rw [noBor]; exact noBors_map h us
theorem noBor_lstM {α : Type} {f : α → D} (h : ∀ a, noBor (f a) = true) (us : List α) : noBor (.lst (us.map f)) = true := by rw [noBor]; exact noBors_map h us
end
/-! ### rules -/
def RtP (P : D → DS → Prop) : Fl → DS → Prop := fun r s => match r with
  | .rt d => P d s
  | .nx _ => P .non s
  | _ => False
section
variable {Γ : Ev} {st : DS} {ma mb me : EM} {m m2 : SM} {t : Ev → M Bool} {mr : Ev → M (List D)} {R : Fl → DS → Prop} {P : D → DS → Prop} {PL : List D → DS → Prop} {PB : Bool → DS → Prop}
theorem gd_fn {np n : Nat} {ds : List D} (hl : ds.length = np) (h : Gd (m (startE n ds) st) (RtP P)) : Gd (fnM np n m ds st) P := by
  rw [ev_fn, if_pos hl, gd_bind, gd_nx]
  refine h.mono fun r s q => ?_
  cases r with
  | rt d => exact .mk q
  | nx Γ => exact .mk q
  | _ => exact q.elim
theorem gd_fnX {np n : Nat} {ds : List D} (hl : ds.length = np) (h : Gd (m (startE n ds) st) (RtP P)) : Gd (fnX np n m ds st) P := by
  unfold fnX
  rw [if_pos hl]
  obtain ⟨r, s, e, h⟩ := gd_out h
  rw [e]
  cases r with
  | rt d => exact .mk h
  | nx Γ => exact .mk h
  | _ => exact h.elim
theorem gd_seq (h : Gd (m Γ st) fun r s => Gd (kSeq m2 r s) R) : Gd (mSeq m m2 Γ st) R := by rw [ev_seq, gd_bind]; exact h
theorem gd_seqN (I : Ev → DS → Prop) (h : Gd (m Γ st) fun r s => ∃ Γ', r = .nx Γ' ∧ I Γ' s) (h2 : ∀ Γ' s, I Γ' s → Gd (m2 Γ' s) R) : Gd (mSeq m m2 Γ st) R :=
  gd_seq (h.mono fun r s ⟨Γ', e, i⟩ => by subst e; exact h2 Γ' s i)
theorem gd_asg {g : GM} (h : Gd (me Γ st) fun d s => ∃ Γ', g d Γ = some Γ' ∧ R (.nx Γ') s) : Gd (mAsg me g Γ st) R := by
  rw [ev_asg]; exact gd_sE (h.mono fun d s ⟨Γ', e, r⟩ => by rw [e]; exact .mk r)
theorem gd_asgN {i : Nat} (h : Gd (me Γ st) fun d s => R (.nx (Γ.set i (some (.dat d)))) s) : Gd (mAsg me (mgName i) Γ st) R := gd_asg (h.mono fun d s r => ⟨_, rfl, r⟩)
theorem gd_ret (h : Gd (me Γ st) fun d s => R (.rt d) s) : Gd (mRet me Γ st) R := by rw [ev_ret]; exact gd_sE (h.mono fun _ _ q => .mk q)
theorem gd_setO {i : Nat} (h : Gd (mr Γ st) fun d s => R (.nx (Γ.set i (some (.own (.ls d))))) s) : Gd (mSetO i mr Γ st) R := by rw [ev_setO]; exact gd_sE (h.mono fun _ _ q => .mk q)
theorem gd_for {g : GM} (h : Gd (mr Γ st) fun xs s => Gd (loopS g m xs Γ s) R) : Gd (mFor mr g m Γ st) R := by rw [ev_for]; exact gd_sE h
theorem gd_ifS (h : Gd (t Γ st) fun c s => (c = true → Gd (m Γ s) R) ∧ (c = false → Gd (m2 Γ s) R)) : Gd (mIfS t m m2 Γ st) R := by
  rw [ev_ifS]
  refine gd_sE (h.mono fun c s ⟨h1, h2⟩ => ?_)
  cases c with
  | true => exact h1 rfl
  | false => exact h2 rfl
theorem gd_par {i j : Nat} (h : Gd (mr Γ st) fun ds s => ∃ d e, ds = [d, e] ∧ R (.nx ((Γ.set i (some (.dat d))).set j (some (.dat e)))) s) : Gd (mPar i j mr Γ st) R := by
  rw [ev_par]; exact gd_sE (h.mono fun ds s ⟨d, e, q, r⟩ => by subst q; exact .mk r)
theorem gd_parX {i j : Nat} {ma mb : Ev → M Got} (h : Gd (ma Γ st) fun g s => Gd (mb Γ s) fun q s' => R (.nx ((Γ.set i (some g.sl)).set j (some q.sl))) s') : Gd (mParX i j ma mb Γ st) R := by
  rw [ev_parX]; exact gd_sE (h.mono fun g s q => by rw [ev_sE]; exact gd_sE (q.mono fun _ _ q => .mk q))
theorem gd_gDa {PG : Got → DS → Prop} (h : Gd (me Γ st) fun d s => PG (.da d) s) : Gd (gDa me Γ st) PG := by rw [ev_gDa, gd_bind]; exact h.mono fun _ _ q => .mk q
theorem gd_gOw {PG : Got → DS → Prop} (h : Gd (mr Γ st) fun d s => PG (.ow (.ls d)) s) : Gd (gOw mr Γ st) PG := by rw [ev_gOw, gd_bind]; exact h.mono fun _ _ q => .mk q
theorem gd_disp (h : Gd (mr Γ st) fun r s => r.length ≤ 1000000 ∧ PL r s) : Gd (mDisp mr Γ st) PL := by
  rw [ev_disp, gd_bind]; exact h.mono fun r s ⟨hl, q⟩ => by rw [if_pos (big_line hl)]; exact .mk q
theorem gd_app {i : Nat} {xs : List D} (ho : gOwn i Γ = some xs) (hl : xs.length < sizeLine) (h : Gd (me Γ st) fun d s => R (.nx (Γ.set i (some (.own (.ls (xs ++ [d])))))) s) : Gd (mApp i me Γ st) R := by
  rw [ev_app ho]; refine gd_sE (h.mono fun d s r => ?_); rw [if_pos hl]; exact .mk r
theorem gd_store {i n : Nat} {mi : EM} {xs : List D} (ho : gOwn i Γ = some xs) (h : Gd (me Γ st) fun d s => Gd (mi Γ s) fun x s' => ∃ n : Nat, x = .int (n : Nat) ∧ n < xs.length ∧ R (.nx (Γ.set i (some (.own (.ls (xs.set n d)))))) s') : Gd (mStore i me mi Γ st) R := by
  unfold mStore
  rw [ho]
  show Gd (sE (me Γ) Γ _ st) R
  rw [ev_sE]
  refine gd_sE (h.mono fun d s q => ?_)
  rw [ev_sE]
  refine gd_sE (q.mono fun x s' ⟨n, e, hn, r⟩ => ?_)
  subst e
  unfold gStore
  simp only [ix_nat hn]
  exact .mk r
theorem gd_op {g : M2} (h : Gd (ma Γ st) fun a s => Gd (mb Γ s) fun b s' => Gd (g a b s') P) : Gd (mOp g ma mb Γ st) P := by rw [ev_op, gd_bind]; exact h.mono fun a s q => by rw [gd_bind]; exact q
theorem gd_un {g : D → M D} (h : Gd (ma Γ st) fun a s => Gd (g a s) P) : Gd (mUn g ma Γ st) P := by rw [ev_un, gd_bind]; exact h
theorem gd_b (h : Gd (ma Γ st) fun d s => ∃ b, d = .bl b ∧ PB b s) : Gd (mB ma Γ st) PB := by rw [ev_b, gd_bind]; exact h.mono fun d s ⟨b, e, q⟩ => by subst e; exact .mk q
theorem gd_nil (h : PL [] st) : Gd (mNil Γ st) PL := .mk h
theorem gd_cons (h : Gd (ma Γ st) fun a s => Gd (mr Γ s) fun r s' => PL (a :: r) s') : Gd (mCons ma mr Γ st) PL := by rw [ev_cons, gd_bind]; exact h.mono fun a s q => by rw [gd_bind]; exact q.mono fun _ _ q => .mk q
theorem gd_call {g : List D → M D} (h : Gd (mr Γ st) fun r s => Gd (g r s) P) : Gd (mCall g mr Γ st) P := by rw [ev_call, gd_bind]; exact h
theorem gd_callN {g : List D → M D} (h : Gd (mr Γ st) fun r s => Gd (g r s) P) : Gd (mCall (fun ds => nxM (g ds)) mr Γ st) P := gd_call (h.mono fun r s q => by rw [ev_nx, gd_nx]; exact q)
theorem gd_src {g : List D → M (List D)} (h : Gd (mr Γ st) fun r s => Gd (g r s) PL) : Gd (mSrc g mr Γ st) PL := by rw [ev_src, gd_bind]; exact h
theorem gd_callO {g : List D → M (List D)} (h : Gd (mr Γ st) fun r s => Gd (g r s) PL) : Gd (mCallO g mr Γ st) PL := by rw [ev_callO, gd_bind]; exact h
theorem gd_frz (h : Gd (mr Γ st) fun r s => P (.lst r) s) : Gd (mFrz mr Γ st) P := by rw [ev_frz, gd_bind]; exact h.mono fun _ _ q => .mk q
theorem gd_tup (h : Gd (mr Γ st) fun r s => r.length ≤ 1000000 ∧ P (.tup r) s) : Gd (mTup mr Γ st) P := by
  rw [ev_tup, gd_bind]; exact h.mono fun r s ⟨hl, q⟩ => by rw [if_pos (big_line hl)]; exact .mk q
theorem gd_lst (h : Gd (mr Γ st) fun r s => r.length ≤ 1000000 ∧ P (.lst r) s) : Gd (mLst mr Γ st) P := by
  rw [ev_lst, gd_bind]; exact h.mono fun r s ⟨hl, q⟩ => by rw [if_pos (big_line hl)]; exact .mk q
theorem gd_bor {i : Nat} {xs : List D} (ho : gOwn i Γ = some xs) (h : Gd (me (Γ.set i (some (.dat (.bor xs)))) st) fun d s => noBor d = true ∧ P d s) : Gd (mBor i me Γ st) P := by
  rw [ev_bor ho, gd_bind, gd_nx]; exact h.mono fun d s ⟨e, q⟩ => by rw [if_pos e]; exact .mk q
theorem gd_borT {i : Nat} {xs : List D} (ho : gOwn i Γ = some xs) (h : Gd (t (Γ.set i (some (.dat (.bor xs)))) st) PB) : Gd (mBorT i t Γ st) PB := by rw [ev_borT ho, gd_nx]; exact h
theorem gd_and (h : Gd (ma Γ st) fun d s => ∃ b, d = .bl b ∧ (b = true → Gd (mb Γ s) P) ∧ (b = false → P (.bl false) s)) : Gd (mAnd ma mb Γ st) P := by
  rw [ev_and, gd_bind]
  refine h.mono fun d s ⟨b, e, h1, h2⟩ => ?_
  subst e
  cases b with
  | true => exact h1 rfl
  | false => exact .mk (h2 rfl)
theorem gd_andT {t2 : Ev → M Bool} (h : Gd (t Γ st) fun b s => (b = true → Gd (t2 Γ s) PB) ∧ (b = false → PB false s)) : Gd (mAndT t t2 Γ st) PB := by
  rw [ev_andT, gd_bind]
  refine h.mono fun b s ⟨h1, h2⟩ => ?_
  cases b with
  | true => exact h1 rfl
  | false => exact .mk (h2 rfl)
theorem gd_orT {t2 : Ev → M Bool} (h : Gd (t Γ st) fun b s => (b = true → PB true s) ∧ (b = false → Gd (t2 Γ s) PB)) : Gd (mOrT t t2 Γ st) PB := by
  rw [ev_orT, gd_bind]
  refine h.mono fun b s ⟨h1, h2⟩ => ?_
  cases b with
  | true => exact .mk (h1 rfl)
  | false => exact h2 rfl
theorem gd_notT (h : Gd (t Γ st) fun b s => PB (!b) s) : Gd (mNotT t Γ st) PB := by rw [ev_notT, gd_bind]; exact h.mono fun _ _ q => .mk q
theorem gd_comp' {α : Type} {f : α → D} {us : List α} {mi : Ev → M (List D)} {g : GM} {e : EM} {vs : List Nat} {Q : α → D → Prop} (hm : mi Γ st = .ok (us.map f) st) (hl : us.length ≤ 1000000) (h : ∀ u ∈ us, ∃ Γ1, g (f u) (wipeE Γ vs) = some Γ1 ∧ W (e Γ1) (Q u))
    (hP : ∀ ys s, ys.length = us.length → (∀ (i : Nat) u y, us[i]? = some u → ys[i]? = some y → Q u y) → PL ys s) : Gd (mComp mi g mYes e vs Γ st) PL := by
  rw [ev_comp, hm, ob_ok, if_pos (by rw [List.length_map]; exact big_line hl)]
  exact gd_comp h hP
/-- what is told item by item is a table -/
theorem told {α β : Type} {f : β → D} {Q : α → D → Prop} {us : List α} {ys : List D} (hl : ys.length = us.length) (h : ∀ (i : Nat) u y, us[i]? = some u → ys[i]? = some y → ∃ b, y = f b) : ∃ bs : List β, ys = bs.map f ∧ bs.length = us.length := by
  induction ys generalizing us with
  | nil => exact ⟨[], rfl, hl⟩
  | cons y ys ih =>
    cases us with
    | nil => cases hl
    | cons u us =>
      obtain ⟨bs, e, hb⟩ := ih (us := us) (by simpa using hl) fun i v z e1 e2 => h (i + 1) v z e1 e2
      obtain ⟨b, e1⟩ := h 0 u y rfl rfl
      exact ⟨b :: bs, by rw [e, e1]; rfl, by simp [hb]⟩
theorem range1 {n : Nat} (h : n ≤ 1000000) : gRange1 [.int (n : Nat)] st = .ok ((List.range n).map fun i => D.int (i : Nat)) st := by
  have z : ∀ m : Int, m = (n : Nat) → gRange1 [.int m] st = .ok ((List.range n).map fun i => D.int (i : Nat)) st := fun m e => by
    unfold gRange1
    dsimp only
    rw [if_pos (by rw [decide_eq_true_eq]; omega), e, Int.toNat_natCast]
    congr 1
    refine List.map_congr_left fun i _ => ?_
    rw [Int.zero_add]
  exact z _ rfl
theorem EqE.eq_nil {α : Type} [DecidableEq α] {f : α → D} {n : Nat} (h : EqE f n) (hn : n ≤ 60) (xs : List α) : gEq (.lst (xs.map f)) (.lst []) st = .ok (.bl (decide (xs = []))) st := h.lst.eq (st := st) (by omega) xs []
theorem EqE.ne_nil {α : Type} [DecidableEq α] {f : α → D} {n : Nat} (h : EqE f n) (hn : n ≤ 60) (xs : List α) : gNe (.lst (xs.map f)) (.lst []) st = .ok (.bl (!decide (xs = []))) st := h.lst.ne (st := st) (by omega) xs []
theorem EqE.ne_nilT {α : Type} [DecidableEq α] {f : α → D} {n : Nat} (h : EqE f n) (hn : n ≤ 60) (xs : List α) : gNe (.tup (xs.map f)) (.tup []) st = .ok (.bl (!decide (xs = []))) st := h.tup.ne (st := st) (by omega) xs []
end
/-! ### the law's draws -/
theorem anyC_w {c b : Int} (hb : 0 < b) (hl : b ≤ 2 ^ 100) : W (gAnyD c [.deal, .int b]) fun d => ∃ v : Int, d = .int v ∧ 0 ≤ v ∧ v < b := w_any hb (Int.lt_of_le_of_lt hl (by decide +kernel))
/-! ### sorting -/
section
variable {α : Type} {f : α → D} {st : DS} {xs : List α}
theorem sortD_of (f : α → D) (xs : List α) : ∃ ys : List α, ys.Perm xs ∧ sortD (xs.map f) = ys.map f := by
  refine ⟨xs.mergeSort (fun a b => PySem.W.dataLe false D.py (f a) (f b)), List.mergeSort_perm _ _, ?_⟩
  unfold sortD
  exact (List.map_mergeSort (f := f) (r := fun a b => PySem.W.dataLe false D.py (f a) (f b)) (s := PySem.W.dataLe false D.py) fun _ _ _ _ => rfl).symm
end
theorem alike_str (x y : Str) : PySem.W.alike (.str x) (.str y) = true := rfl
theorem sortOk_nm (xs : List Nm) (h : xs.length ≤ 1000) : sortOk (xs.map nm) = true := by
  unfold sortOk
  rw [eqE_nm.plains]
  simp only [Bool.true_and, Bool.and_eq_true, Bool.or_eq_true, List.all_eq_true, List.mem_map, forall_exists_index, and_imp, forall_apply_eq_imp_iff₂, decide_eq_true_eq, List.length_map]
  refine ⟨⟨⟨fun a _ b _ => rfl, .inl (.inr fun a _ => rfl)⟩, fun a _ => Nat.le_trans (nm_depth a) (by decide)⟩, Nat.le_trans h (by decide)⟩
theorem sortOk_pr (xs : List (Nm × Nm)) (h : xs.length ≤ 1000) : sortOk (xs.map pr) = true := by
  unfold sortOk
  rw [eqE_pr.plains]
  simp only [Bool.true_and, Bool.and_eq_true, Bool.or_eq_true, List.all_eq_true, List.mem_map, forall_exists_index, and_imp, forall_apply_eq_imp_iff₂, decide_eq_true_eq, List.length_map]
  refine ⟨⟨⟨fun a _ b _ => ?_, .inl (.inl fun a _ => rfl)⟩, fun a _ => Nat.le_trans (eqE_pr.depth a) (by decide)⟩, Nat.le_trans h (by decide)⟩
  rfl
theorem sorted_nm {st : DS} {xs : List Nm} (h : xs.length ≤ 1000) : ∃ ys : List Nm, ys.Perm xs ∧ gSortedA [.bor (xs.map nm)] st = .ok (ys.map nm) st := by
  obtain ⟨ys, p, e⟩ := sortD_of nm xs
  refine ⟨ys, p, ?_⟩
  show (if sortOk (xs.map nm) then _ else _) = _
  rw [if_pos (sortOk_nm xs h), e]
theorem sorted_pr {st : DS} {xs : List (Nm × Nm)} (h : xs.length ≤ 1000) : ∃ ys : List (Nm × Nm), ys.Perm xs ∧ gSortedA [.bor (xs.map pr)] st = .ok (ys.map pr) st := by
  obtain ⟨ys, p, e⟩ := sortD_of pr xs
  refine ⟨ys, p, ?_⟩
  show (if sortOk (xs.map pr) then _ else _) = _
  rw [if_pos (sortOk_pr xs h), e]
end FL

/-! FS4: dicts keyed by names; places -/
namespace FL
open PySem L2
section
variable {Γ : Ev} {st : DS} {i : Nat} {me mk : EM} {R : Fl → DS → Prop} {P : D → DS → Prop} {kv : KD}
theorem gd_setD {m : Ev → M KD} (h : Gd (m Γ st) fun kv s => R (.nx (Γ.set i (some (.own (.dk kv))))) s) : Gd (mSetD i m Γ st) R := by
  show Gd (sE (m Γ) Γ _ st) R
  rw [ev_sE]
  exact gd_sE (h.mono fun _ _ q => .mk q)
theorem ev_dget (ho : gOwnD i Γ = some kv) : mDGet i mk Γ st = (mk Γ st).bind fun y s => match (keyD y).bind (valD kv) with | some d => .ok d s | none => .stuck := by
  unfold mDGet
  rw [ho]
  show (mk Γ st).bind _ = _
  congr
  funext y s
  cases (keyD y).bind (valD kv) <;> rfl
theorem gd_dget (ho : gOwnD i Γ = some kv) (h : Gd (mk Γ st) fun y s => ∃ z d, keyD y = some z ∧ valD kv z = some d ∧ P d s) : Gd (mDGet i mk Γ st) P := by
  rw [ev_dget ho, gd_bind]
  refine h.mono fun y s ⟨z, d, e1, e2, q⟩ => ?_
  rw [e1, Option.bind_some, e2]
  exact .mk q
theorem gd_dput (ho : gOwnD i Γ = some kv) (hl : kv.length < sizeLine) (h : Gd (me Γ st) fun d s => Gd (mk Γ s) fun y s' => ∃ z, keyD y = some z ∧ R (.nx (Γ.set i (some (.own (.dk (putD kv z d)))))) s') : Gd (mDPut i me mk Γ st) R := by
  unfold mDPut
  rw [ho]
  show Gd (sE (me Γ) Γ _ st) R
  rw [ev_sE]
  refine gd_sE (h.mono fun d s q => ?_)
  rw [ev_sE]
  refine gd_sE (q.mono fun y s' ⟨z, e, r⟩ => ?_)
  rw [e]
  dsimp only
  rw [if_pos (decide_eq_true hl)]
  exact .mk r
end
/-! ### by names -/
abbrev kn (u : Nm) : Key := .inr u.1
theorem kn_inj {u v : Nm} : kn u = kn v ↔ u = v := ⟨fun e => Subtype.ext (Sum.inr.inj e), fun e => by rw [e]⟩
def dkN (us : List Nm) (F : Nm → D) : KD := us.map fun u => (kn u, F u)
theorem keyD_nm (u : Nm) : keyD (nm u) = some (kn u) := rfl
theorem keysD_nm : ∀ us : List Nm, keysD (us.map nm) = some (us.map kn)
  | [] => rfl
  | u :: us => by rw [List.map_cons, keysD, keysD_nm us]; rfl
theorem val_dkN {F : Nm → D} {u : Nm} : ∀ {us : List Nm}, u ∈ us → valD (dkN us F) (kn u) = some (F u)
  | v :: us, h => by
    unfold valD dkN
    rw [List.map_cons, List.find?_cons]
    by_cases e : v = u
    · rw [e, decide_eq_true rfl]; rfl
    · have : ¬ (kn v = kn u) := fun q => e (kn_inj.mp q)
      rw [decide_eq_false this]
      rcases List.mem_cons.mp h with q | q
      · exact absurd q.symm e
      · exact val_dkN q
def updN (F : Nm → D) (u : Nm) (d : D) : Nm → D := fun v => if v = u then d else F v
theorem put_dkN {us : List Nm} {F : Nm → D} {u : Nm} {d : D} (h : u ∈ us) : putD (dkN us F) (kn u) d = dkN us (updN F u d) := by
  unfold putD
  have ha : ((dkN us F).any fun p => decide (p.1 = kn u)) = true := by
    rw [List.any_eq_true]
    exact ⟨(kn u, F u), List.mem_map.mpr ⟨u, h, rfl⟩, decide_eq_true rfl⟩
  rw [if_pos ha]
  unfold dkN
  rw [List.map_map]
  refine List.map_congr_left fun v _ => ?_
  show (if kn v = kn u then (kn v, d) else (kn v, F v)) = (kn v, updN F u d v)
  unfold updN
  by_cases e : v = u
  · rw [if_pos (kn_inj.mpr e), if_pos e]
  · rw [if_neg (fun q => e (kn_inj.mp q)), if_neg e]
theorem put_new {us : List Nm} {F : Nm → D} {u : Nm} {d : D} (h : u ∉ us) : putD (dkN us F) (kn u) d = dkN us F ++ [(kn u, d)] := by
  unfold putD
  have ha : ¬ ((dkN us F).any fun p => decide (p.1 = kn u)) = true := by
    rw [List.any_eq_true]
    rintro ⟨p, hp, e⟩
    obtain ⟨v, hv, rfl⟩ := List.mem_map.mp hp
    exact h (kn_inj.mp (of_decide_eq_true e) ▸ hv)
  rw [if_neg ha]
theorem putAll_dkN {F : Nm → D} : ∀ {us dn : List Nm}, (dn ++ us).Nodup → putAll (dkN dn F) ((us.map kn).zip (us.map F)) = dkN (dn ++ us) F
  | [], dn, _ => by rw [List.append_nil]; rfl
  | u :: us, dn, h => by
    have hu : u ∉ dn := fun q => (List.nodup_append.mp h).2.2 u q u List.mem_cons_self rfl
    rw [List.map_cons, List.map_cons, List.zip_cons_cons]
    show putAll (putD (dkN dn F) (kn u) (F u)) _ = _
    rw [put_new hu]
    have e : dkN dn F ++ [(kn u, F u)] = dkN (dn ++ [u]) F := by unfold dkN; rw [List.map_append]; rfl
    rw [e, putAll_dkN (us := us) (dn := dn ++ [u]) (by rw [List.append_assoc]; exact h), List.append_assoc]
    rfl
theorem dzip_nm {us : List Nm} {F : Nm → D} {st : DS} (h : us.Nodup) : gDZip [.tup (us.map nm), .tup (us.map F)] st = .ok (dkN us F) st := by
  show (match keysD (us.map nm) with | some ks => Out.ok (putAll [] (ks.zip (us.map F))) st | none => .stuck) = _
  rw [keysD_nm]
  have := putAll_dkN (F := F) (us := us) (dn := []) h
  exact congrArg (Out.ok · st) this
theorem gd_dzip {mr : Ev → M (List D)} {Γ : Ev} {st : DS} {P : KD → DS → Prop} (h : Gd (mr Γ st) fun r s => Gd (gDZip r s) P) : Gd (mDZip mr Γ st) P := by
  show Gd ((mr Γ st).bind fun a s => gDZip a s) P
  rw [gd_bind]
  exact h
/-- {u: d for u in us} -/
theorem dcomp_const {i : Nat} {d : D} {ev : EM} {Γ : Ev} {st : DS} (hv : ∀ u s, ev ((wipeE Γ [i]).set i (some (.dat (nm u)))) s = .ok d s) (hi : i < Γ.length) : ∀ {us dn : List Nm}, (dn ++ us).Nodup → dn.length + us.length ≤ 1000000 →
    compD (mgName i) mYes (mVar i) ev (wipeE Γ [i]) (us.map nm) (dkN dn fun _ => d) st = .ok (dkN (dn ++ us) fun _ => d) st
  | [], dn, _, _ => by rw [List.append_nil]; rfl
  | u :: us, dn, h, hl => by
    rw [List.length_cons] at hl
    have hl : dn.length + us.length + 1 ≤ 1000000 := hl
    have hu : u ∉ dn := fun q => (List.nodup_append.mp h).2.2 u q u List.mem_cons_self rfl
    have hg : mVar i ((wipeE Γ [i]).set i (some (.dat (nm u)))) st = .ok (nm u) st := mVar_at (by
      rw [List.getElem?_set_self]
      simp [wipeE, hi])
    have e0 : compD (mgName i) mYes (mVar i) ev (wipeE Γ [i]) (nm u :: us.map nm) (dkN dn fun _ => d) st = compD (mgName i) mYes (mVar i) ev (wipeE Γ [i]) (us.map nm) (putD (dkN dn fun _ => d) (kn u) d) st := by
      simp only [compD, ev_gName, ev_bind, ev_nx, hv, hg, ev_yes, on_ok, ob_ok, if_true, keyD_nm]
      rw [if_pos (by unfold dkN; rw [List.length_map]; exact decide_eq_true (Nat.lt_of_le_of_lt (show dn.length ≤ 1000000 by omega) (by decide)))]
    rw [List.map_cons, e0]
    rw [put_new hu]
    have e : (dkN dn fun _ => d) ++ [(kn u, d)] = dkN (dn ++ [u]) fun _ => d := by unfold dkN; rw [List.map_append]; rfl
    rw [e, dcomp_const hv hi (us := us) (dn := dn ++ [u]) (by rw [List.append_assoc]; exact h) (by simp; omega), List.append_assoc]
    rfl
theorem dcomp_nm {us : List Nm} {i : Nat} {d : D} {ev : EM} {mi : Ev → M (List D)} {Γ : Ev} {st : DS} (hm : mi Γ st = .ok (us.map nm) st) (hv : ∀ u s, ev ((wipeE Γ [i]).set i (some (.dat (nm u)))) s = .ok d s) (hi : i < Γ.length) (hn : us.Nodup) (hl : us.length ≤ 1000000) : mDComp mi (mgName i) mYes (mVar i) ev [i] Γ st = .ok (dkN us fun _ => d) st := by
  have e0 : mDComp mi (mgName i) mYes (mVar i) ev [i] Γ st = (mi Γ st).bind fun xs s => if decide (xs.length ≤ sizeLine) = true then compD (mgName i) mYes (mVar i) ev (wipeE Γ [i]) xs [] s else .stuck := by
    show (mi Γ st).bind _ = _
    congr
    funext xs s
    cases decide (xs.length ≤ sizeLine) <;> rfl
  rw [e0, hm, ob_ok, if_pos (by rw [List.length_map]; exact decide_eq_true (big_line hl))]
  exact dcomp_const (dn := []) (us := us) hv hi hn (by simpa using hl)
/-! ### places -/
theorem strsD_nm : ∀ hs : List Nm, strsD (hs.map nm) = some (hs.map (·.1))
  | [] => rfl
  | h :: hs => by rw [List.map_cons]; show (strsD (hs.map nm)).map _ = _; rw [strsD_nm hs]; rfl
theorem place_nm {hs : List Nm} {h : Nm} {st : DS} (hm : h ∈ hs) : ∃ i, ∃ hi : i < hs.length, hs[i] = h ∧ gPlace (hs.map nm) (nm h) st = .ok (.int (i : Nat)) st := by
  have hx : h.1 ∈ hs.map (·.1) := List.mem_map.mpr ⟨h, hm, rfl⟩
  have hi : (hs.map (·.1)).idxOf h.1 < (hs.map (·.1)).length := List.idxOf_lt_length_of_mem hx
  have hi2 : (hs.map (·.1)).idxOf h.1 < hs.length := by simpa using hi
  refine ⟨_, hi2, ?_, ?_⟩
  · have e := List.getElem_idxOf hi
    rw [List.getElem_map] at e
    exact Subtype.ext e
  · show (match strsD (hs.map nm) with | some ys => (if h.1 ∈ ys then Out.ok (D.int (ys.idxOf h.1 : Nat)) st else .stuck) | none => .stuck) = _
    rw [strsD_nm]
    dsimp only
    rw [if_pos hx]
theorem gd_idx {mo me : EM} {Γ : Ev} {st : DS} {P : D → DS → Prop} (h : Gd (mo Γ st) fun d s => ∃ xs, idxL d = some xs ∧ Gd (me Γ s) fun e s' => Gd (gPlace xs e s') P) : Gd (mIdx mo me Γ st) P := by
  have e0 : mIdx mo me Γ st = (mo Γ st).bind fun d s => match idxL d with | some xs => (me Γ s).bind fun e s' => gPlace xs e s' | none => .stuck := by
    show (mo Γ st).bind _ = _
    congr
    funext d s
    cases idxL d <;> rfl
  rw [e0, gd_bind]
  refine h.mono fun d s ⟨xs, e, q⟩ => ?_
  rw [e]
  dsimp only
  rw [gd_bind]
  exact q
end FL

/-! FS5: roads without a round; the first of the best -/
namespace FL
section
variable {α : Type}
inductive Grow : List α → List (α × α × Nat) → Prop
  | one (u : α) : Grow [u] []
  | add {os : List α} {ls : List (α × α × Nat)} {p v : α} {c : Nat} {l : α × α × Nat} (h : Grow os ls) (hp : p ∈ os) (hv : v ∉ os) (hc : 1 ≤ c ∧ c ≤ 1000000) (e : l = (p, v, c) ∨ l = (v, p, c)) : Grow (v :: os) (l :: ls)
  | perm {os os' : List α} {ls ls' : List (α × α × Nat)} (h : Grow os ls) (h1 : os.Perm os') (h2 : ls.Perm ls') : Grow os' ls'
def Eg (ls : List (α × α × Nat)) (a b : α) (c : Nat) : Prop := (a, b, c) ∈ ls ∨ (b, a, c) ∈ ls
/-- a way whose inner places are M -/
inductive Wk (E : α → α → Nat → Prop) (M : α → Prop) : α → α → Nat → Prop
  | nil (x : α) : Wk E M x x 0
  | one {x y : α} {c : Nat} (h : E x y c) : Wk E M x y c
  | cons {x z y : α} {c l : Nat} (h : E x z c) (m : M z) (t : Wk E M z y l) : Wk E M x y (c + l)
section
variable {E E' : α → α → Nat → Prop} {M M' : α → Prop} {x y z m s : α} {l c : Nat}
theorem Wk.mono (h : Wk E M x y l) (hE : ∀ a b c, E a b c → E' a b c) (hM : ∀ a, M a → M' a) : Wk E' M' x y l := by
  induction h with
  | nil x => exact .nil x
  | one h => exact .one (hE _ _ _ h)
  | cons h m t ih => exact .cons (hE _ _ _ h) (hM _ m) ih
theorem Wk.snoc (h : Wk E M x y l) (hy : M y) (e : E y z c) : Wk E M x z (l + c) := by
  induction h with
  | nil x => rw [Nat.zero_add]; exact .one e
  | one h => exact .cons h hy (.one e)
  | cons h m t ih => rw [Nat.add_assoc]; exact .cons h m (ih hy e)
theorem Wk.split (h : Wk E (fun z => M z ∨ z = m) x y l) : (∃ l', l' ≤ l ∧ Wk E M x y l') ∨ ∃ a b, a + b ≤ l ∧ Wk E M x m a ∧ Wk E M m y b := by
  induction h with
  | nil x => exact .inl ⟨0, Nat.le_refl _, .nil x⟩
  | one h => exact .inl ⟨_, Nat.le_refl _, .one h⟩
  | cons h hm t ih =>
    rcases hm with hM | rfl
    · rcases ih with ⟨l', hl, w⟩ | ⟨a, b, hab, w1, w2⟩
      · exact .inl ⟨_, Nat.add_le_add_left hl _, .cons h hM w⟩
      · exact .inr ⟨_, b, by rw [Nat.add_assoc]; exact Nat.add_le_add_left hab _, .cons h hM w1, w2⟩
    · rcases ih with ⟨l', hl, w⟩ | ⟨a, b, hab, w1, w2⟩
      · exact .inr ⟨_, l', Nat.add_le_add_left hl _, .one h, w⟩
      · exact .inr ⟨_, b, by omega, .one h, w2⟩
theorem Wk.reach {F : α → Prop} (hc : ∀ a b c, F a → E a b c → F b) (h : Wk E M x y l) : F x → F y := by
  induction h with
  | nil x => exact id
  | one h => exact fun f => hc _ _ _ f h
  | cons h m t ih => exact fun f => ih (hc _ _ _ f h)
end
/-- the lengths of the ways -/
structure Met (os : List α) (E : α → α → Nat → Prop) (d : α → α → Nat) : Prop where
  refl : ∀ x ∈ os, d x x = 0
  symm : ∀ x ∈ os, ∀ y ∈ os, d x y = d y x
  tri : ∀ x ∈ os, ∀ y ∈ os, ∀ z ∈ os, d x z ≤ d x y + d y z
  edge : ∀ a b c, E a b c → a ∈ os ∧ b ∈ os ∧ 0 < c ∧ d a b = c
  top : ∀ x ∈ os, ∀ y ∈ os, d x y ≤ 1000000 * os.length
  walk : ∀ x ∈ os, ∀ y ∈ os, Wk E (· ∈ os) x y (d x y)
  to : ∀ s ∈ os, ∀ a b c, E a b c → d s b = d s a + c ∨ d s a = d s b + c
  one : ∀ s ∈ os, ∀ x a b c e, E x a c → E x b e → d s x = d s a + c → d s x = d s b + e → a = b
theorem Met.congr {os os' : List α} {E E' : α → α → Nat → Prop} {d : α → α → Nat} (h : Met os E d) (ho : ∀ x, x ∈ os ↔ x ∈ os') (hl : os.length = os'.length) (hE : ∀ a b c, E a b c ↔ E' a b c) : Met os' E' d where
  refl x hx := h.refl x ((ho x).mpr hx)
  symm x hx y hy := h.symm x ((ho x).mpr hx) y ((ho y).mpr hy)
  tri x hx y hy z hz := h.tri x ((ho x).mpr hx) y ((ho y).mpr hy) z ((ho z).mpr hz)
  edge a b c e := let ⟨h1, h2, h3⟩ := h.edge a b c ((hE a b c).mpr e); ⟨(ho a).mp h1, (ho b).mp h2, h3⟩
  top x hx y hy := hl ▸ h.top x ((ho x).mpr hx) y ((ho y).mpr hy)
  walk x hx y hy := (h.walk x ((ho x).mpr hx) y ((ho y).mpr hy)).mono (fun a b c => (hE a b c).mp) fun a => (ho a).mp
  to s hs a b c e := h.to s ((ho s).mpr hs) a b c ((hE a b c).mpr e)
  one s hs x a b c e e1 e2 := h.one s ((ho s).mpr hs) x a b c e ((hE _ _ _).mpr e1) ((hE _ _ _).mpr e2)
theorem Met.add {os : List α} {E E' : α → α → Nat → Prop} {d D : α → α → Nat} {p v : α} {c : Nat} (h : Met os E d) (hp : p ∈ os) (hv : v ∉ os) (hc : 1 ≤ c ∧ c ≤ 1000000)
    (hE : ∀ a b e, E' a b e ↔ E a b e ∨ (a = p ∧ b = v ∧ e = c) ∨ (a = v ∧ b = p ∧ e = c))
    (vv : D v v = 0) (vx : ∀ x ∈ os, D v x = c + d p x) (xv : ∀ x ∈ os, D x v = d x p + c) (xy : ∀ x ∈ os, ∀ y ∈ os, D x y = d x y) : Met (v :: os) E' D := by
  have mo : ∀ x, x ∈ v :: os → x = v ∨ x ∈ os := fun x hx => List.mem_cons.mp hx
  have pp := h.refl p hp
  refine ⟨fun x hx0 => ?_, fun x hx0 y hy0 => ?_, fun x hx0 y hy0 z hz0 => ?_, fun a b e q => ?_, fun x hx0 y hy0 => ?_, fun x hx0 y hy0 => ?_, fun s hs0 a b e q => ?_, fun s hs0 x a b e f q1 q2 t1 t2 => ?_⟩
  · rcases mo x hx0 with rfl | hx
    · exact vv
    · rw [xy x hx x hx, h.refl x hx]
  · rcases mo x hx0 with rfl | hx <;> rcases mo y hy0 with rfl | hy
    · rfl
    · rw [vx y hy, xv y hy, h.symm p hp y hy, Nat.add_comm]
    · rw [vx x hx, xv x hx, h.symm p hp x hx, Nat.add_comm]
    · rw [xy x hx y hy, xy y hy x hx, h.symm x hx y hy]
  · rcases mo x hx0 with rfl | hx <;> rcases mo y hy0 with rfl | hy <;> rcases mo z hz0 with rfl | hz
    · omega
    · omega
    · omega
    · have := h.tri p hp y hy z hz; rw [vx z hz, vx y hy, xy y hy z hz]; omega
    · omega
    · have := h.tri x hx p hp z hz; rw [xy x hx z hz, xv x hx, vx z hz]; omega
    · have := h.tri x hx y hy p hp; rw [xv x hx, xy x hx y hy, xv y hy]; omega
    · rw [xy x hx z hz, xy x hx y hy, xy y hy z hz]; exact h.tri x hx y hy z hz
  · rcases (hE a b e).mp q with q | ⟨rfl, rfl, rfl⟩ | ⟨rfl, rfl, rfl⟩
    · obtain ⟨h1, h2, h3, h4⟩ := h.edge a b e q
      exact ⟨List.mem_cons_of_mem _ h1, List.mem_cons_of_mem _ h2, h3, by rw [xy a h1 b h2, h4]⟩
    · exact ⟨List.mem_cons_of_mem _ hp, List.mem_cons_self, by omega, by rw [xv _ hp, pp]; omega⟩
    · exact ⟨List.mem_cons_self, List.mem_cons_of_mem _ hp, by omega, by rw [vx _ hp, pp]; omega⟩
  · rw [List.length_cons]
    rcases mo x hx0 with rfl | hx <;> rcases mo y hy0 with rfl | hy
    · omega
    · have := h.top p hp y hy; rw [vx y hy]; omega
    · have := h.top x hx p hp; rw [xv x hx]; omega
    · have := h.top x hx y hy; rw [xy x hx y hy]; omega
  · have em : ∀ a b c, E a b c → E' a b c := fun a b c q => (hE a b c).mpr (.inl q)
    have om : ∀ a, a ∈ os → a ∈ v :: os := fun a => List.mem_cons_of_mem _
    rcases mo x hx0 with rfl | hx <;> rcases mo y hy0 with rfl | hy
    · rw [vv]; exact .nil _
    · rw [vx y hy]
      exact .cons ((hE _ _ _).mpr (.inr (.inr ⟨rfl, rfl, rfl⟩))) (om _ hp) ((h.walk p hp y hy).mono em om)
    · rw [xv x hx]
      exact ((h.walk x hx p hp).mono em om).snoc (om _ hp) ((hE _ _ _).mpr (.inr (.inl ⟨rfl, rfl, rfl⟩)))
    · rw [xy x hx y hy]
      exact (h.walk x hx y hy).mono em om
  · rcases (hE a b e).mp q with q | ⟨rfl, rfl, rfl⟩ | ⟨rfl, rfl, rfl⟩
    · obtain ⟨h1, h2, h3, h4⟩ := h.edge a b e q
      rcases mo s hs0 with rfl | hs
      · have := h.to p hp a b e q; rw [vx a h1, vx b h2]; omega
      · have := h.to s hs a b e q; rw [xy s hs a h1, xy s hs b h2]; omega
    · rcases mo s hs0 with rfl | hs
      · rw [vx _ hp]; omega
      · rw [xv s hs, xy s hs _ hp]; omega
    · rcases mo s hs0 with rfl | hs
      · rw [vx _ hp]; omega
      · rw [xv s hs, xy s hs _ hp]; omega
  · have new : ∀ {x a e}, E' x a e → (E x a e ∧ x ∈ os ∧ a ∈ os ∧ 0 < e) ∨ (x = p ∧ a = v ∧ e = c) ∨ (x = v ∧ a = p ∧ e = c) := fun {x a e} q => by
      rcases (hE x a e).mp q with q | q
      · exact .inl ⟨q, (h.edge _ _ _ q).1, (h.edge _ _ _ q).2.1, (h.edge _ _ _ q).2.2.1⟩
      · exact .inr q
    rcases new q1 with ⟨o1, hx, ha, e0⟩ | ⟨ex, ea, ee⟩ | ⟨ex, ea, ee⟩ <;> rcases new q2 with ⟨o2, hx2, hb, f0⟩ | ⟨ex2, eb, ef⟩ | ⟨ex2, eb, ef⟩
    · rcases mo s hs0 with rfl | hs
      · rw [vx x hx, vx a ha] at t1
        rw [vx x hx, vx b hb] at t2
        exact h.one p hp x a b e f o1 o2 (by omega) (by omega)
      · rw [xy s hs x hx, xy s hs a ha] at t1
        rw [xy s hs x hx, xy s hs b hb] at t2
        exact h.one s hs x a b e f o1 o2 t1 t2
    · subst ex2; subst eb
      rcases mo s hs0 with rfl | hs
      · rw [vx _ hp, vx a ha] at t1
        omega
      · rw [xy s hs _ hp, xv s hs] at t2
        omega
    · subst ex2; exact absurd hx hv
    · subst ex; subst ea
      rcases mo s hs0 with rfl | hs
      · rw [vx _ hp, vx b hb] at t2
        omega
      · rw [xy s hs _ hp, xv s hs] at t1
        omega
    · rw [ea, eb]
    · subst ex; exact absurd (ex2 ▸ hp) hv
    · subst ex; exact absurd hx2 hv
    · subst ex; exact absurd (ex2 ▸ hp) hv
    · rw [ea, eb]
theorem Grow.met [DecidableEq α] {os : List α} {ls : List (α × α × Nat)} (h : Grow os ls) : ∃ d, Met os (Eg ls) d := by
  induction h with
  | one u =>
    have no : ∀ a b c, ¬ Eg ([] : List (α × α × Nat)) a b c := fun a b c e => by rcases e with e | e <;> cases e
    refine ⟨fun _ _ => 0, fun _ _ => rfl, fun _ _ _ _ => rfl, fun _ _ _ _ _ _ => Nat.zero_le _, fun a b c e => absurd e (no a b c), fun _ _ _ _ => Nat.zero_le _, fun x hx y hy => ?_, fun _ _ a b c e => absurd e (no a b c), fun s hs x a b c e q1 => absurd q1 (no _ _ _)⟩
    rw [List.mem_singleton.mp hx, List.mem_singleton.mp hy]
    exact .nil _
  | @add os ls p v c l g hp hv hc e ih =>
    obtain ⟨d, m⟩ := ih
    refine ⟨fun x y => if x = v then (if y = v then 0 else c + d p y) else if y = v then d x p + c else d x y, m.add hp hv hc (fun a b f => ?_) (by simp) (fun x hx => ?_) (fun x hx => ?_) fun x hx y hy => ?_⟩
    · unfold Eg
      rw [List.mem_cons, List.mem_cons]
      rcases e with rfl | rfl <;> simp only [Prod.mk.injEq] <;> constructor
      · rintro ((q | q) | (q | q))
        · exact .inr (.inl q)
        · exact .inl (.inl q)
        · exact .inr (.inr ⟨q.2.1, q.1, q.2.2⟩)
        · exact .inl (.inr q)
      · rintro ((q | q) | (q | q))
        · exact .inl (.inr q)
        · exact .inr (.inr q)
        · exact .inl (.inl q)
        · exact .inr (.inl ⟨q.2.1, q.1, q.2.2⟩)
      · rintro ((q | q) | (q | q))
        · exact .inr (.inr q)
        · exact .inl (.inl q)
        · exact .inr (.inl ⟨q.2.1, q.1, q.2.2⟩)
        · exact .inl (.inr q)
      · rintro ((q | q) | (q | q))
        · exact .inl (.inr q)
        · exact .inr (.inr q)
        · exact .inr (.inl ⟨q.2.1, q.1, q.2.2⟩)
        · exact .inl (.inl q)
    · have : x ≠ v := fun q => hv (q ▸ hx)
      simp [this]
    · have : x ≠ v := fun q => hv (q ▸ hx)
      simp [this]
    · have h1 : x ≠ v := fun q => hv (q ▸ hx)
      have h2 : y ≠ v := fun q => hv (q ▸ hy)
      simp [h1, h2]
  | perm h h1 h2 ih =>
    obtain ⟨d, m⟩ := ih
    exact ⟨d, m.congr (fun x => h1.mem_iff) h1.length_eq fun a b c => by unfold Eg; rw [h2.mem_iff, h2.mem_iff]⟩
theorem Grow.nodup {os : List α} {ls : List (α × α × Nat)} (h : Grow os ls) : os.Nodup := by
  induction h with
  | one u => simp
  | add g hp hv hc e ih => exact List.nodup_cons.mpr ⟨hv, ih⟩
  | perm h h1 h2 ih => exact h1.nodup_iff.mp ih
/-- one comes over what was met to what was not -/
theorem Met.fresh {os : List α} {E : α → α → Nat → Prop} {d : α → α → Nat} (m : Met os E d) {s h t : α} {c : Nat} {F : α → Prop} (hs : s ∈ os) (cl : ∀ x, F x → x = s ∨ ∃ x' c, F x' ∧ E x x' c ∧ d s x = d s x' + c) (hh : F h) (e : E h t c) (ht : ¬ F t) : d s t = d s h + c := by
  rcases m.to s hs h t c e with q | q
  · exact q
  · rcases cl h hh with rfl | ⟨x', c', f, e', q'⟩
    · have := m.refl h hs
      have := (m.edge _ _ _ e).2.2.1
      omega
    · exact absurd (m.one s hs h t x' c c' e e' q q' ▸ f) ht
end
/-! ### the best, and of these the first -/
section
variable {σ : Type} (v : σ → Int) (lt : σ → σ → Prop)
def Best (ss : List σ) (h : σ) : Prop := h ∈ ss ∧ ∀ g ∈ ss, v h < v g ∨ (v h = v g ∧ (g = h ∨ lt h g))
def bst (v : σ → Int) : Option σ → List σ → Option σ
  | o, [] => o
  | none, g :: r => bst v (some g) r
  | some h, g :: r => bst v (if v g < v h then some g else some h) r
variable {v lt}
theorem best_uniq (as : ∀ a b, lt a b → lt b a → False) {ss : List σ} {g h : σ} (h1 : Best v lt ss g) (h2 : Best v lt ss h) : g = h := by
  rcases h1.2 h h2.1 with q | ⟨q, e | l⟩
  · rcases h2.2 g h1.1 with q2 | ⟨q2, _⟩ <;> omega
  · exact e.symm
  · rcases h2.2 g h1.1 with q2 | ⟨q2, e2 | l2⟩
    · omega
    · exact e2
    · exact (as _ _ l l2).elim
theorem best_step {dn r : List σ} {g h : σ} (hp : (dn ++ g :: r).Pairwise lt) (hb : Best v lt dn h) : Best v lt (dn ++ [g]) (if v g < v h then g else h) := by
  have ord : ∀ a ∈ dn, lt a g := fun a ha => (List.pairwise_append.mp hp).2.2 a ha g List.mem_cons_self
  by_cases c : v g < v h
  · rw [if_pos c]
    refine ⟨by simp, fun x hx => ?_⟩
    rcases List.mem_append.mp hx with hx | hx
    · rcases hb.2 x hx with q | ⟨q, _⟩ <;> exact .inl (by omega)
    · rw [List.mem_singleton.mp hx]; exact .inr ⟨rfl, .inl rfl⟩
  · rw [if_neg c]
    refine ⟨List.mem_append_left _ hb.1, fun x hx => ?_⟩
    rcases List.mem_append.mp hx with hx | hx
    · exact hb.2 x hx
    · rw [List.mem_singleton.mp hx]
      by_cases e : v h = v g
      · exact .inr ⟨e, .inr (ord h hb.1)⟩
      · exact .inl (by omega)
theorem bst_some {r : List σ} : ∀ {dn : List σ} {h : σ}, (dn ++ r).Pairwise lt → Best v lt dn h → ∃ b, bst v (some h) r = some b ∧ Best v lt (dn ++ r) b := by
  induction r with
  | nil => exact fun {dn h} _ hb => ⟨h, rfl, by rwa [List.append_nil]⟩
  | cons g r ih =>
    intro dn h hp hb
    obtain ⟨b, e, q⟩ := ih (dn := dn ++ [g]) (h := if v g < v h then g else h) (by rwa [List.append_assoc]) (best_step hp hb)
    refine ⟨b, ?_, by rwa [List.append_assoc] at q⟩
    rw [bst]
    have : (if v g < v h then some g else some h) = some (if v g < v h then g else h) := by split <;> rfl
    rw [this, e]
theorem bst_best {ss : List σ} (h0 : ss ≠ []) (hp : ss.Pairwise lt) : ∃ b, bst v none ss = some b ∧ Best v lt ss b := by
  cases ss with
  | nil => exact absurd rfl h0
  | cons g r =>
    exact bst_some (dn := [g]) hp ⟨by simp, fun x hx => by rw [List.mem_singleton.mp hx]; exact .inr ⟨rfl, .inl rfl⟩⟩
end
end FL

/-! FS6: names in order; short words; sorting more -/
namespace FL
open PySem L2
/-! ### the order of names -/
def ltN (a b : Nm) : Prop := a.1.cps.toList < b.1.cps.toList
instance (a b : Nm) : Decidable (ltN a b) := inferInstanceAs (Decidable (a.1.cps.toList < b.1.cps.toList))
theorem cps_inj {x y : Str} (h : x.cps.toList = y.cps.toList) : x = y := by
  obtain ⟨a⟩ := x
  obtain ⟨b⟩ := y
  rw [show a = b from Array.toList_inj.mp h]
theorem ltN_irrefl (a : Nm) : ¬ ltN a a := List.lt_irrefl _
theorem ltN_trans {a b c : Nm} (h : ltN a b) (h2 : ltN b c) : ltN a c := List.lt_trans h h2
theorem ltN_asymm (a b : Nm) (h : ltN a b) (h2 : ltN b a) : False := ltN_irrefl a (ltN_trans h h2)
theorem ltN_tri (a b : Nm) : ltN a b ∨ a = b ∨ ltN b a := by
  by_cases h1 : ltN a b
  · exact .inl h1
  · by_cases h2 : ltN b a
    · exact .inr (.inr h2)
    · exact .inr (.inl (Subtype.ext (cps_inj (List.le_antisymm (List.not_lt.mp h2) (List.not_lt.mp h1)))))
theorem dataLt_nm (a b : Nm) : PySem.W.dataLt (nm a).py (nm b).py = decide (ltN a b) := by
  show PySem.W.dataLt (D.py (.str a.1)) (D.py (.str b.1)) = _
  rw [D.py, D.py, PySem.W.dataLt_str]
  rfl
abbrev Asc (xs : List Nm) : Prop := xs.Pairwise ltN
theorem Asc.nodup {xs : List Nm} (h : Asc xs) : xs.Nodup := h.imp (R := ltN) fun {a b} q (e : a = b) => ltN_irrefl a (by rw [← e] at q; exact q)
theorem minT_maxT (a b : Nm) : (minT a.1 b.1 = a.1 ∧ maxT a.1 b.1 = b.1) ∨ (minT a.1 b.1 = b.1 ∧ maxT a.1 b.1 = a.1) := by
  have h1 : PySem.W.dataLt (.str b.1) (.str a.1) = decide (ltN b a) := dataLt_nm b a
  have h2 : PySem.W.dataLt (.str a.1) (.str b.1) = decide (ltN a b) := dataLt_nm a b
  unfold minT maxT
  rw [h1, h2]
  rcases ltN_tri a b with h | h | h
  · have : ¬ ltN b a := fun q => ltN_asymm _ _ h q
    exact .inl ⟨by simp [this], by simp [h]⟩
  · subst h
    exact .inl ⟨by simp, by simp⟩
  · have : ¬ ltN a b := fun q => ltN_asymm _ _ h q
    exact .inr ⟨by simp [h], by simp [this]⟩
/-! ### sorted(set(names)) -/
theorem nub_nm : ∀ us : List Nm, ∃ vs : List Nm, nubK (us.map kn) = vs.map kn ∧ vs.length ≤ us.length
  | [] => ⟨[], rfl, Nat.le_refl _⟩
  | u :: us => by
    obtain ⟨vs, e, hl⟩ := nub_nm us
    rw [List.map_cons, nubK, e]
    split
    · exact ⟨vs, rfl, Nat.le_succ_of_le hl⟩
    · exact ⟨u :: vs, rfl, Nat.succ_le_succ hl⟩
theorem set_nm {st : DS} {xs : List Nm} (h : xs.length ≤ 3000) : gSet [.bor (xs.map nm)] st = .ok (.set (xs.map nm)) st := by
  unfold gSet
  have e : seqL (.bor (xs.map nm)) = some (xs.map nm) := rfl
  simp only [e, keysD_nm]
  rw [if_pos (by rw [List.length_map]; omega)]
theorem sortS_nm {st : DS} {xs : List Nm} (h : xs.length ≤ 1000) : ∃ ys : List Nm, gSortedA [.set (xs.map nm)] st = .ok (ys.map nm) st ∧ Asc ys ∧ (∀ x, x ∈ ys ↔ x ∈ xs) ∧ ys.length ≤ xs.length := by
  obtain ⟨vs, e, hl⟩ := nub_nm xs
  have nd : vs.Nodup := (List.pairwise_map.mp (show (vs.map kn).Nodup from e ▸ nubK_nodup (xs.map kn))).imp fun {a b} q (z : a = b) => q (by rw [z])
  have mm : ∀ x, x ∈ vs ↔ x ∈ xs := fun x => by
    have h1 : kn x ∈ nubK (xs.map kn) ↔ kn x ∈ xs.map kn := nubK_mem
    rw [e] at h1
    have back : ∀ l : List Nm, kn x ∈ l.map kn ↔ x ∈ l := fun l => ⟨fun q => by obtain ⟨y, hy, ey⟩ := List.mem_map.mp q; exact kn_inj.mp ey ▸ hy, fun q => List.mem_map_of_mem q⟩
    rwa [back, back] at h1
  have kd : (vs.map kn).map kD = vs.map nm := by rw [List.map_map]; rfl
  have ev : gSortedA [.set (xs.map nm)] st = .ok (sortD (vs.map nm)) st := by
    unfold gSortedA
    simp only [keysD_nm, e, kd]
    rw [if_pos (sortOk_nm vs (by omega))]
  have le_iff : ∀ a b : Nm, PySem.W.dataLe false D.py (nm a) (nm b) = !decide (ltN b a) := fun a b => by rw [PySem.W.dataLe_eq]; simp only [cond_false, dataLt_nm]
  refine ⟨vs.mergeSort (fun a b => PySem.W.dataLe false D.py (nm a) (nm b)), ?_, ?_, fun x => ?_, ?_⟩
  · rw [ev]
    congr 1
    unfold sortD
    exact (List.map_mergeSort (f := nm) (r := fun a b => PySem.W.dataLe false D.py (nm a) (nm b)) (s := PySem.W.dataLe false D.py) fun _ _ _ _ => rfl).symm
  · have pw : (vs.mergeSort (fun a b => PySem.W.dataLe false D.py (nm a) (nm b))).Pairwise (fun a b => PySem.W.dataLe false D.py (nm a) (nm b) = true) := List.pairwise_mergeSort (fun a b c h1 h2 => by
        simp only [le_iff, Bool.not_eq_true', decide_eq_false_iff_not] at *
        intro q
        rcases ltN_tri a b with z | z | z
        · exact h2 (ltN_trans q z)
        · exact h2 (z ▸ q)
        · exact h1 z) (fun a b => by
        simp only [le_iff, Bool.or_eq_true, Bool.not_eq_true', decide_eq_false_iff_not]
        by_cases z : ltN b a
        · exact .inr fun q => ltN_asymm _ _ z q
        · exact .inl z) vs
    have nd2 : (vs.mergeSort (fun a b => PySem.W.dataLe false D.py (nm a) (nm b))).Nodup := (List.mergeSort_perm vs _).nodup_iff.mpr nd
    refine (pw.and nd2).imp fun {a b} ⟨q1, q2⟩ => ?_
    simp only [le_iff, Bool.not_eq_true', decide_eq_false_iff_not] at q1
    rcases ltN_tri a b with z | z | z
    · exact z
    · exact absurd z q2
    · exact absurd z q1
  · rw [(List.mergeSort_perm vs _).mem_iff, mm]
  · rw [List.length_mergeSort]; exact hl
/-! ### sorting tuples -/
section
variable {α : Type} {f : α → D} {st : DS}
theorem plains_map (hp : ∀ a, (f a).plain = true) : ∀ xs : List α, D.plains (xs.map f) = true
  | [] => rfl
  | x :: xs => by rw [List.map_cons, D.plains, hp, plains_map hp xs]; rfl
theorem sortOk_tup (hp : ∀ a, (f a).plain = true) (ht : ∀ a, fullTupD (f a) = true) (hd : ∀ a, (f a).py.depth ≤ 50) (ha : ∀ a b, PySem.W.alike (f a).py (f b).py = true) (xs : List α) (h : xs.length ≤ 1000) : sortOk (xs.map f) = true := by
  unfold sortOk
  rw [plains_map hp]
  simp only [Bool.true_and, Bool.and_eq_true, Bool.or_eq_true, List.all_eq_true, List.mem_map, forall_exists_index, and_imp, forall_apply_eq_imp_iff₂, decide_eq_true_eq, List.length_map]
  exact ⟨⟨⟨fun a _ b _ => ha a b, .inl (.inl fun a _ => ht a)⟩, fun a _ => Nat.le_trans (hd a) (by decide)⟩, Nat.le_trans h (by decide)⟩
theorem sorted_tup (hp : ∀ a, (f a).plain = true) (ht : ∀ a, fullTupD (f a) = true) (hd : ∀ a, (f a).py.depth ≤ 50) (ha : ∀ a b, PySem.W.alike (f a).py (f b).py = true) {xs : List α} (h : xs.length ≤ 1000) : ∃ ys : List α, ys.Perm xs ∧ gSortedA [.bor (xs.map f)] st = .ok (ys.map f) st ∧ gSortedA [.lst (xs.map f)] st = .ok (ys.map f) st := by
  obtain ⟨ys, p, e⟩ := sortD_of f xs
  refine ⟨ys, p, ?_, ?_⟩
  · show (if sortOk (xs.map f) then _ else _) = _
    rw [if_pos (sortOk_tup hp ht hd ha xs h), e]
  · show (if sortOk (xs.map f) then _ else _) = _
    rw [if_pos (sortOk_tup hp ht hd ha xs h), e]
end
def inD (n : Nat) : D := .int (n : Nat)
/-- a place and a length; a length and a place; a line -/
def pn (p : Nm × Nat) : D := .tup [nm p.1, inD p.2]
def np (p : Nat × Nm) : D := .tup [inD p.1, nm p.2]
def ln (l : Nm × Nm × Nat) : D := .tup [nm l.1, nm l.2.1, inD l.2.2]
theorem sorted_pn {st : DS} {xs : List (Nm × Nat)} (h : xs.length ≤ 1000) : ∃ ys : List (Nm × Nat), ys.Perm xs ∧ gSortedA [.bor (xs.map pn)] st = .ok (ys.map pn) st ∧ gSortedA [.lst (xs.map pn)] st = .ok (ys.map pn) st :=
  sorted_tup (fun _ => rfl) (fun _ => rfl) (fun a => by simp [pn, nm, inD, D.py, D.pys, PyData.depth, PyData.depthAll]) (fun _ _ => rfl) h
theorem sorted_np {st : DS} {xs : List (Nat × Nm)} (h : xs.length ≤ 1000) : ∃ ys : List (Nat × Nm), ys.Perm xs ∧ gSortedA [.bor (xs.map np)] st = .ok (ys.map np) st ∧ gSortedA [.lst (xs.map np)] st = .ok (ys.map np) st :=
  sorted_tup (fun _ => rfl) (fun _ => rfl) (fun a => by simp [np, nm, inD, D.py, D.pys, PyData.depth, PyData.depthAll]) (fun _ _ => rfl) h
theorem sorted_ln {st : DS} {xs : List (Nm × Nm × Nat)} (h : xs.length ≤ 1000) : ∃ ys : List (Nm × Nm × Nat), ys.Perm xs ∧ gSortedA [.bor (xs.map ln)] st = .ok (ys.map ln) st ∧ gSortedA [.lst (xs.map ln)] st = .ok (ys.map ln) st :=
  sorted_tup (fun _ => rfl) (fun _ => rfl) (fun a => by simp [ln, nm, inD, D.py, D.pys, PyData.depth, PyData.depthAll]) (fun _ _ => rfl) h
@[simp] theorem noBor_ln {l : Nm × Nm × Nat} : noBor (ln l) = true := by simp [ln, nm, inD, noBor, noBors]
/-! ### short words -/
def Sw (n : Nat) (x : Str) : Prop := PyData.strOk x = true ∧ x.length ≤ n
theorem Sw.app {x y : Str} {n m : Nat} (h : Sw n x) (h2 : Sw m y) : Sw (n + m) (x ++ y) := by
  obtain ⟨h, hl⟩ := h
  obtain ⟨h2, hl2⟩ := h2
  refine ⟨?_, ?_⟩
  · show PyData.strOk ⟨x.cps ++ y.cps⟩ = true
    unfold PyData.strOk at *
    rw [Array.all_append, h, h2]
    rfl
  · show (x.cps ++ y.cps).size ≤ _
    rw [Array.size_append]
    exact Nat.add_le_add hl hl2
theorem Sw.empty : Sw 0 "" := ⟨by decide +kernel, by decide +kernel⟩
theorem Sw.le {x : Str} {n m : Nat} (h : Sw n x) (q : n ≤ m) : Sw m x := ⟨h.1, Nat.le_trans h.2 q⟩
def Sw.nm {x : Str} {n : Nat} (h : Sw n x) (q : n ≤ 100) : Nm := ⟨x, h.1, Nat.le_trans h.2 q⟩
abbrev abc : Str := "abcdefghijklmnopqrstuvwxyz"
theorem abc_sw : ∀ z ∈ signs abc, Sw 1 z := by unfold Sw; decide +kernel
theorem abc_ok {st : DS} : gListOfA [.str abc] st = .ok ((signs abc).map D.str) st := by
  show (if Str.length abc ≤ sizeLine then Out.ok ((signs abc).map D.str) st else .stuck) = _
  rw [if_pos (by decide +kernel)]
theorem abc_len : ((signs abc).map D.str).length = 26 := by rw [List.length_map]; decide +kernel
end FL

/-! FS7: rules for while, pop, slices, made things, dicts of pairs; the least of pairs -/
namespace FL
open PySem L2
section
variable {Γ : Ev} {st : DS} {i j : Nat} {me mk md ma mb : EM} {m : SM} {t : Ev → M Bool} {mr : Ev → M (List D)} {R : Fl → DS → Prop} {P : D → DS → Prop} {kv : KD} {kt : KT}
theorem gd_ifX (h : Gd (t Γ st) fun c s => (c = true → Gd (ma Γ s) P) ∧ (c = false → Gd (mb Γ s) P)) : Gd (mIf t ma mb Γ st) P := by
  rw [ev_if, gd_bind]
  refine h.mono fun c s ⟨h1, h2⟩ => ?_
  cases c with
  | true => exact h1 rfl
  | false => exact h2 rfl
theorem gd_while (I : Nat → Ev → DS → Prop) (hs : ∀ n Γ st, I n Γ st → ∃ q, n = q + 1 ∧ Gd (t Γ st) fun c s => (c = true → Gd (m Γ s) fun fl s' => ∃ Γ2, (fl = .nx Γ2 ∨ fl = .ct Γ2) ∧ I q Γ2 s') ∧ (c = false → R (.nx Γ) s)) : ∀ {n : Nat} {Γ : Ev} {st : DS}, I n Γ st → Gd (whileS t m n Γ st) R
  | 0, Γ, st, h => by obtain ⟨q, e, _⟩ := hs 0 Γ st h; cases e
  | n + 1, Γ, st, h => by
    obtain ⟨q, e, g⟩ := hs (n + 1) Γ st h
    cases e
    unfold whileS
    rw [ev_sE]
    refine gd_sE (g.mono fun c s ⟨h1, h2⟩ => ?_)
    cases c with
    | false => exact .mk (h2 rfl)
    | true =>
      show Gd ((m Γ s).bind fun r s => kLoop (whileS t m n) r s) R
      rw [gd_bind]
      refine (h1 rfl).mono fun fl s ⟨Γ2, e2, i2⟩ => ?_
      rcases e2 with rfl | rfl
      · exact gd_while I hs i2
      · exact gd_while I hs i2
theorem gd_setPop {ys : List D} {d : D} (ho : gOwn j Γ = some (ys ++ [d])) (hij : i ≠ j) (h : R (.nx ((Γ.set j (some (.own (.ls ys)))).set i (some (.dat d)))) st) : Gd (mSetPop i j Γ st) R := by
  unfold mSetPop
  rw [ho]
  simp only [List.getLast?_append, List.getLast?_singleton, List.dropLast_concat, Option.some_or]
  rw [if_pos (decide_eq_true hij)]
  exact .mk h
theorem gd_slD {P : D → DS → Prop} (h : Gd (me Γ st) fun d s => ∃ xs, (d = .lst xs) ∧ Gd (mk Γ s) fun e s' => ∃ k : Nat, e = .int (k : Nat) ∧ k ≤ xs.length ∧ P (.lst (xs.drop k)) s') : Gd (mSl me (mSomeP mk) mNoP Γ st) P := by
  obtain ⟨d, s, e1, xs, ed, q⟩ := gd_out h
  subst ed
  obtain ⟨e, s', e2, k, ee, hk, p⟩ := gd_out q
  subst ee
  have c : cutA xs (some (k : Int)) none = xs.drop k := by
    unfold cutA
    rw [HT.sIx_nat, HT.sIx_none, Nat.min_eq_left hk]
    exact List.take_of_length_le (by simp)
  show Gd ((me Γ st).bind fun d s => ((mk Γ s).bind fun e s => (gInt e s).bind fun i s => .ok (some i) s).bind fun lo s => (Out.ok none s : Out (Option Int)).bind fun hi s => gSl d lo hi s) P
  rw [e1, ob_ok, e2, ob_ok]
  show Gd (Out.ok (D.lst (cutA xs (some (k : Int)) none)) s') P
  rw [c]
  exact .mk p
theorem gd_mk {C : Addr} {ks : List Str} (h : Gd (mr Γ st) fun r s => r.length = ks.length ∧ P (.ins C ks r) s) : Gd (mMk C ks mr Γ st) P := by
  show Gd ((mr Γ st).bind fun r s => (if r.length = ks.length then pure (.ins C ks r) else halt : M D) s) P
  rw [gd_bind]
  exact h.mono fun r s ⟨e, q⟩ => by rw [if_pos e]; exact .mk q
theorem gd_gDi {PG : Got → DS → Prop} {m : Ev → M KD} (h : Gd (m Γ st) fun d s => PG (.ow (.dk d)) s) : Gd (gDi m Γ st) PG := by
  show Gd ((m Γ st).bind fun d s => .ok (.ow (.dk d)) s) PG
  rw [gd_bind]
  exact h.mono fun _ _ q => .mk q
theorem gd_dOne {PK : KD → DS → Prop} (h : Gd (mk Γ st) fun y s => Gd (me Γ s) fun z s' => ∃ k, keyD y = some k ∧ PK [(k, z)] s') : Gd (mDOne mk me Γ st) PK := by
  show Gd ((nxM (mk Γ) st).bind fun y s => (nxM (me Γ) s).bind fun z s => (match keyD y with | some k => pure [(k, z)] | none => halt : M KD) s) PK
  rw [gd_bind, ev_nx, gd_nx]
  refine h.mono fun y s q => ?_
  rw [gd_bind, ev_nx, gd_nx]
  refine q.mono fun z s' ⟨k, e, p⟩ => ?_
  rw [e]
  exact .mk p
theorem gd_din {neg : Bool} (ho : gOwnD i Γ = some kv) (h : Gd (mk Γ st) fun y s => ∃ z, keyD y = some z ∧ P (.bl (bif neg then !(valD kv z).isSome else (valD kv z).isSome)) s) : Gd (mDIn neg mk i Γ st) P := by
  show Gd ((mk Γ st).bind fun y s => (match gOwnD i Γ, keyD y with | some kv, some z => pure (.bl (bif neg then !(valD kv z).isSome else (valD kv z).isSome)) | _, _ => halt : M D) s) P
  rw [gd_bind]
  refine h.mono fun y s ⟨z, e, q⟩ => ?_
  rw [ho, e]
  exact .mk q
theorem gd_frzOD {m : Ev → M KD} (h : Gd (m Γ st) fun kv s => P (.dic (kv.map (·.1)) (kv.map (·.2))) s) : Gd (mFrzOD m Γ st) P := by
  show Gd ((m Γ st).bind fun kv s => .ok (.dic (kv.map (·.1)) (kv.map (·.2))) s) P
  rw [gd_bind]
  exact h.mono fun _ _ q => .mk q
theorem zip_back {α β : Type} : ∀ kv : List (α × β), (kv.map (·.1)).zip (kv.map (·.2)) = kv
  | [] => rfl
  | p :: kv => by rw [List.map_cons, List.map_cons, List.zip_cons_cons, zip_back kv]
theorem gd_dix (h : Gd (me Γ st) fun d s => ∃ kv : KD, d = .dic (kv.map (·.1)) (kv.map (·.2)) ∧ Gd (mk Γ s) fun y s' => ∃ z v, keyD y = some z ∧ valD kv z = some v ∧ P v s') : Gd (mDIx me mk Γ st) P := by
  unfold mDIx
  obtain ⟨d, s, e, kv, ed, q⟩ := gd_out h
  subst ed
  obtain ⟨y, s', e2, z, v, e3, e4, p⟩ := gd_out q
  show Gd ((me Γ st).bind _) P
  rw [e]
  show Gd ((mk Γ s).bind _) P
  rw [e2]
  show Gd ((match (keyD y).bind (valD ((kv.map (·.1)).zip (kv.map (·.2)))) with | some d => pure d | none => halt : M D) s') P
  rw [e3, Option.bind_some, zip_back, e4]
  exact .mk p
/-! own dicts of pairs -/
theorem gd_setT {m : Ev → M KT} (h : Gd (m Γ st) fun kv s => R (.nx (Γ.set i (some (.own (.dt kv))))) s) : Gd (mSetT i m Γ st) R := by
  show Gd (sE (m Γ) Γ _ st) R
  rw [ev_sE]
  exact gd_sE (h.mono fun _ _ q => .mk q)
theorem gd_frzT (ho : gOwnT i Γ = some kt) (h : Gd (m (Γ.set i (some (.dat (.dct (kt.map (·.1)) (kt.map (·.2)))))) st) R) : Gd (mFrzT i m Γ st) R := by
  unfold mFrzT
  rw [ho]
  exact h
theorem gd_tput (ho : gOwnT i Γ = some kt) (hl : kt.length < sizeLine) (h : Gd (me Γ st) fun d s => Gd (mr Γ s) fun y s' => ∃ z, keysD y = some z ∧ y.length ≤ sizeLine ∧ R (.nx (Γ.set i (some (.own (.dt (putT kt z d)))))) s') : Gd (mTPut i me mr Γ st) R := by
  unfold mTPut
  rw [ho]
  show Gd (sE (me Γ) Γ _ st) R
  rw [ev_sE]
  refine gd_sE (h.mono fun d s q => ?_)
  rw [ev_sE]
  refine gd_sE (q.mono fun y s' ⟨z, e, hy, r⟩ => ?_)
  rw [e]
  dsimp only
  rw [if_pos (decide_eq_true ⟨hl, hy⟩)]
  exact .mk r
theorem gd_tget (ho : gOwnT i Γ = some kt) (h : Gd (mr Γ st) fun y s => ∃ z d, keysD y = some z ∧ y.length ≤ sizeLine ∧ valT kt z = some d ∧ P d s) : Gd (mTGet i mr Γ st) P := by
  unfold mTGet
  rw [ho]
  obtain ⟨y, s, e, z, d, e1, hy, e2, q⟩ := gd_out h
  show Gd ((mr Γ st).bind _) P
  rw [e]
  show Gd ((match (keysD y).bind (valT kt) with | some d => (if decide (y.length ≤ sizeLine) then pure d else halt) | none => halt : M D) s) P
  rw [e1, Option.bind_some, e2]
  dsimp only
  rw [if_pos (decide_eq_true hy)]
  exact .mk q
theorem gd_tix (h : Gd (me Γ st) fun d s => ∃ kt : KT, d = .dct (kt.map (·.1)) (kt.map (·.2)) ∧ Gd (mr Γ s) fun y s' => ∃ z v, keysD y = some z ∧ y.length ≤ sizeLine ∧ valT kt z = some v ∧ P v s') : Gd (mTIx me mr Γ st) P := by
  unfold mTIx
  obtain ⟨d, s, e, kv, ed, q⟩ := gd_out h
  subst ed
  obtain ⟨y, s', e2, z, v, e3, hy, e4, p⟩ := gd_out q
  show Gd ((me Γ st).bind _) P
  rw [e]
  show Gd ((mr Γ s).bind _) P
  rw [e2]
  show Gd ((match (keysD y).bind (valT ((kv.map (·.1)).zip (kv.map (·.2)))) with | some d => (if decide (y.length ≤ sizeLine) then pure d else halt) | none => halt : M D) s') P
  rw [e3, Option.bind_some, zip_back, e4]
  dsimp only
  rw [if_pos (decide_eq_true hy)]
  exact .mk p
theorem gd_minD (h : Gd (mr Γ st) fun ds s => Gd (md Γ s) fun d s' => Gd (gMinD ds d s') P) : Gd (mMinD mr md Γ st) P := by
  show Gd ((mr Γ st).bind fun ds s => (md Γ s).bind fun d s => gMinD ds d s) P
  rw [gd_bind]
  exact h.mono fun ds s q => by rw [gd_bind]; exact q
end
/-! ### dicts of pairs, by their values -/
section
variable {kt : KT} {k k' : List Key} {d : D}
theorem valT_map : ∀ kt : KT, valT (kt.map fun p => if p.1 = k then (p.1, d) else p) k' = if k' = k then (valT kt k').map (fun _ => d) else valT kt k'
  | [] => by unfold valT; simp
  | p :: kt => by
    have ih := valT_map kt
    unfold valT at *
    rw [List.map_cons, List.find?_cons, List.find?_cons]
    by_cases h : p.1 = k'
    · by_cases h2 : k' = k
      · have h3 : p.1 = k := h.trans h2
        simp [h2, h3]
      · have h3 : ¬ p.1 = k := fun e => h2 (h ▸ e)
        rw [if_neg h3, if_neg h2, decide_eq_true h]
    · have h1 : (if p.1 = k then (p.1, d) else p).1 = p.1 := by split <;> rfl
      rw [h1, decide_eq_false h]
      exact ih
theorem valT_end : ∀ kt : KT, valT (kt ++ [(k, d)]) k' = match valT kt k' with | some v => some v | none => if k' = k then some d else none
  | [] => by
    unfold valT
    rw [List.nil_append, List.find?_cons]
    by_cases h : k = k'
    · simp [h]
    · have : ¬ k' = k := fun e => h e.symm
      simp [h, this]
  | p :: kt => by
    have ih := valT_end kt
    unfold valT at *
    rw [List.cons_append, List.find?_cons, List.find?_cons]
    by_cases h : p.1 = k'
    · rw [decide_eq_true h]; rfl
    · rw [decide_eq_false h]; exact ih
theorem valT_any : ∀ kt : KT, (kt.any fun p => decide (p.1 = k)) = (valT kt k).isSome
  | [] => rfl
  | p :: kt => by
    have ih := valT_any kt
    unfold valT at *
    rw [List.any_cons, List.find?_cons, ih]
    by_cases h : p.1 = k
    · rw [decide_eq_true h]; rfl
    · rw [decide_eq_false h]; rfl
theorem valT_put : valT (putT kt k d) k' = if k' = k then some d else valT kt k' := by
  unfold putT
  rw [valT_any]
  cases h : valT kt k with
  | some v =>
    rw [Option.isSome_some, if_pos rfl, valT_map]
    by_cases e : k' = k
    · rw [if_pos e, if_pos e, e, h]; rfl
    · rw [if_neg e, if_neg e]
  | none =>
    rw [Option.isSome_none, if_neg (by decide), valT_end]
    by_cases e : k' = k
    · rw [if_pos e, e, h, if_pos rfl]
    · rw [if_neg e]
      cases valT kt k' <;> simp [e]
theorem putT_len : (putT kt k d).length ≤ kt.length + 1 := by
  unfold putT
  split
  · rw [List.length_map]; exact Nat.le_succ _
  · simp
theorem putT_has {v : D} (h : valT kt k = some v) : (putT kt k d).length = kt.length := by
  unfold putT
  rw [valT_any, h, Option.isSome_some, if_pos rfl, List.length_map]
end
/-! ### the least of pairs -/
theorem valD_none {us : List Nm} {F : Nm → D} {u : Nm} (h : u ∉ us) : valD (dkN us F) (kn u) = none := by
  unfold valD dkN
  rw [Option.map_eq_none_iff, List.find?_eq_none]
  intro p hp
  obtain ⟨v, hv, rfl⟩ := List.mem_map.mp hp
  simp only [decide_eq_true_eq]
  exact fun e => h (kn_inj.mp e ▸ hv)
section
variable {σ : Type} {v : σ → Int} {nf : σ → Nm} {st : DS}
/-- a number and a name -/
def vn (v : σ → Int) (nf : σ → Nm) (h : σ) : D := .tup [.int (v h), nm (nf h)]
theorem dataLt_vn (a b : σ) : PySem.W.dataLt (vn v nf a).py (vn v nf b).py = decide (v a < v b ∨ (v a = v b ∧ ltN (nf a) (nf b))) := by
  have e : ∀ h : σ, (vn v nf h).py = .tuple [.int (v h), (nm (nf h)).py] := fun h => by
    unfold vn
    rw [D.py, D.pys, D.pys, D.pys, D.py]
  rw [e, e, PySem.W.dataLt_pair rfl rfl, dataLt_nm, PySem.W.dataLt_int, eqE_nm.eqv, show PyData.eqv (.int (v a)) (.int (v b)) = decide (v a = v b) from by rw [PyData.eqv]; rfl]
  by_cases h1 : v a = v b
  · by_cases h2 : nf a = nf b
    · simp [h1, h2, ltN_irrefl]
    · simp [h1, h2]
  · simp [h1]
theorem argBest_best {ss : List σ} (hp : ss.Pairwise fun a b => ltN (nf a) (nf b)) : ∀ (k : Nat) (hk : k < ss.length), ∃ hi : argBest (btD (D.pys (ss.map (vn v nf)))) k < ss.length, Best v (fun a b => ltN (nf a) (nf b)) (ss.take (k + 1)) ss[argBest (btD (D.pys (ss.map (vn v nf)))) k]
  | 0, hk => by
    refine ⟨hk, ?_⟩
    show Best v _ _ ss[0]
    cases ss with
    | nil => cases hk
    | cons g r => exact ⟨by simp, fun x hx => by simp at hx; rw [hx]; exact .inr ⟨rfl, .inl rfl⟩⟩
  | k + 1, hk => by
    obtain ⟨hi, hb⟩ := argBest_best hp k (by omega)
    have gd : ∀ i (h : i < ss.length), (D.pys (ss.map (vn v nf))).getD i .none = (vn v nf ss[i]).py := fun i h => by
      rw [D.pys_map, List.map_map, List.getD_eq_getElem?_getD, List.getElem?_map, List.getElem?_eq_getElem h]; rfl
    have hsplit : ss = ss.take (k + 1) ++ ss[k + 1] :: ss.drop (k + 2) := by
      rw [← List.drop_eq_getElem_cons, List.take_append_drop]
    have hp2 : (ss.take (k + 1) ++ ss[k + 1] :: ss.drop (k + 2)).Pairwise fun a b => ltN (nf a) (nf b) := hsplit ▸ hp
    have ord := (List.pairwise_append.mp hp2).2.2 _ hb.1 ss[k + 1] List.mem_cons_self
    have hs := best_step hp2 hb
    have ebt : btD (D.pys (ss.map (vn v nf))) (k + 1) (argBest (btD (D.pys (ss.map (vn v nf)))) k) = decide (v ss[k + 1] < v ss[argBest (btD (D.pys (ss.map (vn v nf)))) k]) := by
      show PySem.W.dataLt _ _ = _
      rw [gd _ hk, gd _ hi, dataLt_vn]
      have : ¬ ltN (nf ss[k + 1]) (nf ss[argBest (btD (D.pys (ss.map (vn v nf)))) k]) := fun q => ltN_asymm _ _ ord q
      simp [this]
    have et : ss.take (k + 2) = ss.take (k + 1) ++ [ss[k + 1]] := (List.take_append_getElem hk).symm
    rw [et]
    by_cases c : v ss[k + 1] < v ss[argBest (btD (D.pys (ss.map (vn v nf)))) k]
    · rw [if_pos c] at hs
      have ea : argBest (btD (D.pys (ss.map (vn v nf)))) (k + 1) = k + 1 := by rw [argBest, ebt, decide_eq_true c, if_pos rfl]
      simp only [ea]
      exact ⟨hk, hs⟩
    · rw [if_neg c] at hs
      have ea : argBest (btD (D.pys (ss.map (vn v nf)))) (k + 1) = argBest (btD (D.pys (ss.map (vn v nf)))) k := by rw [argBest, ebt, decide_eq_false c, if_neg (by decide)]
      simp only [ea]
      exact ⟨hi, hs⟩
theorem minOk_vn (ss : List σ) (h : ss.length ≤ 1000) : minOk (ss.map (vn v nf)) = true := by
  have dp : ∀ l : List σ, PyData.depthAll (D.pys (l.map (vn v nf))) ≤ 10 := fun l => by
    induction l with
    | nil => simp [D.pys, PyData.depthAll]
    | cons x l ih =>
      rw [List.map_cons, D.pys, PyData.depthAll]
      have : (vn v nf x).py.depth ≤ 10 := by simp [vn, nm, D.py, D.pys, PyData.depth, PyData.depthAll]
      omega
  unfold minOk
  simp only [Bool.and_eq_true, List.all_eq_true, decide_eq_true_eq, List.mem_map, forall_exists_index, and_imp, forall_apply_eq_imp_iff₂]
  exact ⟨⟨⟨plains_map (fun _ => rfl) ss, fun a _ b _ => rfl⟩, fun a _ => rfl⟩, Nat.le_trans (dp ss) (by decide)⟩
theorem minD_best {ss : List σ} {d : D} (hp : ss.Pairwise fun a b => ltN (nf a) (nf b)) (h : ss.length ≤ 1000) : gMinD [.lst (ss.map (vn v nf))] d st = .ok (match bst v none ss with | some b => vn v nf b | none => d) st := by
  show (if minOk (ss.map (vn v nf)) = true then _ else _) = _
  rw [if_pos (minOk_vn ss h)]
  cases hs : ss with
  | nil => rfl
  | cons g r =>
    have h0 : ss ≠ [] := by rw [hs]; simp
    obtain ⟨b, e1, e2⟩ := bst_best (v := v) (lt := fun a b => ltN (nf a) (nf b)) h0 hp
    rw [← hs, e1]
    obtain ⟨hi, hb⟩ := argBest_best (v := v) hp (ss.length - 1) (by have := List.length_pos_iff.mpr h0; omega)
    have : ss.take (ss.length - 1 + 1) = ss := List.take_of_length_le (by omega)
    rw [this] at hb
    rw [if_neg (by rw [hs]; simp), List.length_map, List.getElem?_map, List.getElem?_eq_getElem hi]
    have := best_uniq (fun a b => ltN_asymm _ _) hb e2
    rw [this]
    rfl
end
end FL

/-! FS8: comprehensions over what is told by a list -/
namespace FL
open PySem L2
section
variable {α : Type} {us : List α} {f : α → D} {g : GM} {t : Ev → M Bool} {e : EM} {mi : Ev → M (List D)} {vs : List Nat} {Γ : Ev} {st : DS}
theorem comp_all {F : α → D} (hm : mi Γ st = .ok (us.map f) st) (hl : us.length ≤ 1000000) (hg : ∀ u ∈ us, ∃ Γ1, g (f u) (wipeE Γ vs) = some Γ1 ∧ ∀ s, e Γ1 s = .ok (F u) s) : mComp mi g mYes e vs Γ st = .ok (us.map F) st := by
  rw [ev_comp, hm, ob_ok, if_pos (by rw [List.length_map]; exact big_line hl), compL_map]
  refine Eq.trans (compF_congr (b' := fun p s => .ok (some (F p)) s) (fun p hp s => ?_) st) compF_all
  obtain ⟨Γ1, e1, e3⟩ := hg p hp
  rw [ev_stepF, e1]
  dsimp only
  rw [ev_yes, on_ok, ob_ok, if_pos rfl, e3]
  rfl
theorem comp_if {c : α → Prop} [DecidablePred c] {F : α → D} (hm : mi Γ st = .ok (us.map f) st) (hl : us.length ≤ 1000000)
    (hg : ∀ p ∈ us, ∃ Γ1, g (f p) (wipeE Γ vs) = some Γ1 ∧ (∀ s, t Γ1 s = .ok (decide (c p)) s) ∧ (c p → ∀ s, e Γ1 s = .ok (F p) s)) : mComp mi g t e vs Γ st = .ok ((us.filter fun p => decide (c p)).map F) st := by
  rw [ev_comp, hm, ob_ok, if_pos (by rw [List.length_map]; exact big_line hl), compL_map]
  refine Eq.trans (compF_congr (b' := fun p s => if c p then .ok (some (F p)) s else .ok none s) (fun p hp s => ?_) st) compF_if
  obtain ⟨Γ1, e1, e2, e3⟩ := hg p hp
  rw [ev_stepF, e1]
  dsimp only
  rw [e2, on_ok, ob_ok]
  by_cases h : c p
  · rw [if_pos h, decide_eq_true h, if_pos rfl, e3 h]; rfl
  · rw [if_neg h, decide_eq_false h, if_neg (by decide)]
theorem zip_same {f g : α → D} : ∀ us : List α, zipD (us.map f) (us.map g) = us.map fun u => .ltp [f u, g u]
  | [] => rfl
  | u :: us => by
    have := zip_same (f := f) (g := g) us
    unfold zipD at this ⊢
    rw [List.map_cons, List.map_cons, List.zipWith_cons_cons, this]
    rfl
theorem zip3_same {f g q : α → D} : ∀ us : List α, zip3D (us.map f) (us.map g) (us.map q) = us.map fun u => .ltp [f u, g u, q u]
  | [] => rfl
  | u :: us => by rw [List.map_cons, List.map_cons, List.map_cons, zip3D, zip3_same us]; rfl
theorem gz2 {f g : α → D} {a b : D} (h1 : asS a = some (us.map f)) (h2 : asS b = some (us.map g)) : gZips2 [a, b] st = .ok (us.map fun u => .ltp [f u, g u]) st := by
  unfold gZips2
  dsimp only
  rw [h1, h2, ← zip_same]
theorem gz3 {f g q : α → D} {a b c : D} (h1 : asS a = some (us.map f)) (h2 : asS b = some (us.map g)) (h3 : asS c = some (us.map q)) : gZips3 [a, b, c] st = .ok (us.map fun u => .ltp [f u, g u, q u]) st := by
  unfold gZips3
  dsimp only
  rw [h1, h2, h3, ← zip3_same]
end
theorem EqE.ne_nilB {α : Type} [DecidableEq α] {f : α → D} {n : Nat} {st : DS} (h : EqE f n) (hn : n ≤ 60) (xs : List α) : gNe (.bor (xs.map f)) (.lst []) st = .ok (.bl (!decide (xs = []))) st := by
  have := h.ne_nil (st := st) hn xs
  unfold gNe at *
  exact this
end FL

/-! FS9: the deal, multiplied wide -/
namespace FL
open PySem L2
theorem mulWide {i j : Int} {n m : Nat} {st : DS} (h1 : i.natAbs < 2 ^ n) (h2 : j.natAbs < 2 ^ m) (h : n + m ≤ 900000) : gMulW (.int i) (.int j) st = .ok (.int (i * j)) st := by
  have a := PySem.Flt.log2_lt_of (Nat.succ_pos n) (Nat.lt_of_lt_of_le h1 (Nat.pow_le_pow_right (by decide) (Nat.le_succ n)))
  have b := PySem.Flt.log2_lt_of (Nat.succ_pos m) (Nat.lt_of_lt_of_le h2 (Nat.pow_le_pow_right (by decide) (Nat.le_succ m)))
  have c : decide (i.natAbs.log2 + j.natAbs.log2 < 1000000) = true := decide_eq_true (by omega)
  show (if decide (i.natAbs.log2 + j.natAbs.log2 < 1000000) = true then _ else _ : Out D) = _
  rw [if_pos c]
abbrev dealW (k1 k2 : Int) : SM := (mSeq (mAsg (mFrz (mComp (mSeqOf (mSl (mVar 0) mNoP (mSomeP (mC (.int 63))))) (mgName 4) mYes (mCall gAbs (mCons (mCall gIntOf (mCons (mVar 4) mNil)) mNil)) [4])) (mgName 2))
  (mSeq (mAsg (mOp gAdd (mOp gMulW (mC (.int k1)) (mVar 1)) (mC (.int k2))) (mgName 3))
  (mSeq (mFor (mSeqOf (mVar 2)) (mgName 4) (mAsg (mOp gMod (mCall gIntOf (mCons (mOp gAdd (mOp gAdd (mOp gMulW (mVar 3) (mC (.int 48271))) (mOp gMod (mVar 4) (mC (.int 2147483579)))) (mC (.int 61))) mNil)) (mC (.int 2147483647))) (mgName 3)))
  (mRet (mLst (mCons (mUn gRev (mFrz (mComp (mSeqOf (mVar 2)) (mgName 4) (mB (mOp gGe (mVar 4) (mOp gPow (mC (.int 10)) (mC (.int 18))))) (mVar 4) [4]))) (mCons (mVar 3) mNil)))))))
theorem dealW_run {k1 k2 b0 : Int} (hk : k1.natAbs < 2 ^ 60 ∧ b0.natAbs < 2 ^ 60) (h0 : (k1 * b0 + k2).natAbs < 2 ^ 200) (ns : List Int) (hn : ns.length ≤ 63) (st : DS) : ∃ (cs : List Int) (b : Int), cs.length ≤ 63 ∧ fnM 2 5 (dealW k1 k2) [.kl (ns.map D.int), .int b0] st = .ok (.lst [.lst (cs.map D.int), .int b]) st := by
  let cut := cutA ns none (some 63)
  let cells := cut.map absI
  have cl : cut.length ≤ 63 := Nat.le_trans (cutA_len _ _ _) hn
  have e1 : mFrz (mComp (mSeqOf (mSl (mVar 0) mNoP (mSomeP (mC (.int 63))))) (mgName 4) mYes (mCall gAbs (mCons (mCall gIntOf (mCons (mVar 4) mNil)) mNil)) [4]) (startE 5 [.kl (ns.map D.int), .int b0]) st = .ok (.lst (cells.map D.int)) st := by
    have e0 : mSeqOf (mSl (mVar 0) mNoP (mSomeP (mC (.int 63)))) (startE 5 [.kl (ns.map D.int), .int b0]) st = .ok (cut.map D.int) st := by
      show gSeq (.lst (cutA (ns.map D.int) none (some 63))) st = _
      rw [cutA_map]
      rfl
    have q := mFrz_at (comp_enc (vs := [4]) (g := mgName 4) (e := mCall gAbs (mCons (mCall gIntOf (mCons (mVar 4) mNil)) mNil)) cut D.int (fun i => .int (absI i)) e0 (by omega) fun u hu => ⟨_, rfl, rfl⟩)
    rw [q, List.map_map]
    rfl
  have lp : ∀ (L : List Int) (m : Int) (x : Option Sl), m.natAbs < 2 ^ 200 → ∃ m' x', loopS (mgName 4) (mAsg (mOp gMod (mCall gIntOf (mCons (mOp gAdd (mOp gAdd (mOp gMulW (mVar 3) (mC (.int 48271))) (mOp gMod (mVar 4) (mC (.int 2147483579)))) (mC (.int 61))) mNil)) (mC (.int 2147483647))) (mgName 3)) (L.map D.int)
      [some (.dat (.kl (ns.map D.int))), some (.dat (.int b0)), some (.dat (.lst (cells.map D.int))), some (.dat (.int m)), x] st = .ok (.nx [some (.dat (.kl (ns.map D.int))), some (.dat (.int b0)), some (.dat (.lst (cells.map D.int))), some (.dat (.int m')), x']) st := by
    intro L
    induction L with
    | nil => exact fun m x _ => ⟨m, x, rfl⟩
    | cons a L ih =>
      intro m x hm
      have h1 := Int.emod_nonneg (m * 48271 + a % 2147483579 + 61) (show (2147483647 : Int) ≠ 0 by decide)
      have h2 := Int.emod_lt_of_pos (m * 48271 + a % 2147483579 + 61) (show (0 : Int) < 2147483647 by decide)
      obtain ⟨m', x', h⟩ := ih ((m * 48271 + a % 2147483579 + 61) % 2147483647) (some (.dat (.int a))) (Nat.lt_of_lt_of_le (show _ < 2 ^ 31 by omega) (by decide))
      refine ⟨m', x', ?_⟩
      have hb : mAsg (mOp gMod (mCall gIntOf (mCons (mOp gAdd (mOp gAdd (mOp gMulW (mVar 3) (mC (.int 48271))) (mOp gMod (mVar 4) (mC (.int 2147483579)))) (mC (.int 61))) mNil)) (mC (.int 2147483647))) (mgName 3) [some (.dat (.kl (ns.map D.int))), some (.dat (.int b0)), some (.dat (.lst (cells.map D.int))), some (.dat (.int m)), some (.dat (.int a))] st
          = .ok (.nx [some (.dat (.kl (ns.map D.int))), some (.dat (.int b0)), some (.dat (.lst (cells.map D.int))), some (.dat (.int ((m * 48271 + a % 2147483579 + 61) % 2147483647))), some (.dat (.int a))]) st := by
        unfold mAsg
        rw [sE_ok (mOp_at (mCall1 (mOp_at (mOp_at (mOp_at (a := .int m) rfl rfl (mulWide hm (show (48271 : Int).natAbs < 2 ^ 16 by decide) (by decide))) (mOp_at (a := .int a) rfl rfl (gMod_at (by decide))) rfl) rfl rfl) rfl) rfl (gMod_at (by decide)))]
        rfl
      rw [List.map_cons, loopS]
      show (mAsg _ _ [some (.dat (.kl (ns.map D.int))), some (.dat (.int b0)), some (.dat (.lst (cells.map D.int))), some (.dat (.int m)), some (.dat (.int a))] st).bind _ = _
      rw [hb]
      exact h
  obtain ⟨m', x', hl⟩ := lp cells (k1 * b0 + k2) none h0
  refine ⟨(cells.filter fun i => decide ((10 : Int) ^ (18 : Nat) ≤ i)).reverse, m', ?_, ?_⟩
  · rw [List.length_reverse]
    refine Nat.le_trans (List.length_filter_le _ _) ?_
    show (cut.map absI).length ≤ 63
    rw [List.length_map]
    exact cl
  · have e2 : mOp gAdd (mOp gMulW (mC (.int k1)) (mVar 1)) (mC (.int k2)) [some (.dat (.kl (ns.map D.int))), some (.dat (.int b0)), some (.dat (.lst (cells.map D.int))), none, none] st = .ok (.int (k1 * b0 + k2)) st := mOp_at (mOp_at (b := .int b0) rfl rfl (mulWide hk.1 hk.2 (by decide))) rfl rfl
    refine fnM_ret rfl ((mSeq_nx (Γ' := [some (.dat (.kl (ns.map D.int))), some (.dat (.int b0)), some (.dat (.lst (cells.map D.int))), none, none]) (st' := st) (by unfold mAsg; rw [sE_ok e1]; rfl)).trans ((mSeq_nx (Γ' := [some (.dat (.kl (ns.map D.int))), some (.dat (.int b0)), some (.dat (.lst (cells.map D.int))), some (.dat (.int (k1 * b0 + k2))), none]) (st' := st) (by unfold mAsg; rw [sE_ok e2]; rfl)).trans
      ((mSeq_nx (Γ' := [some (.dat (.kl (ns.map D.int))), some (.dat (.int b0)), some (.dat (.lst (cells.map D.int))), some (.dat (.int m')), x']) (st' := st) (by unfold mFor; rw [sE_ok (mSeqOf_at (d := .lst (cells.map D.int)) rfl rfl)]; exact hl)).trans (mRet_at (mLst_at (mCons_at (mUn_at (mFrz_at (comp_encF cells D.int (fun i => decide ((10 : Int) ^ (18 : Nat) ≤ i)) D.int (mSeqOf_at (d := .lst (cells.map D.int)) rfl rfl) ?_ fun u hu => ⟨_, rfl, ?_, fun _ => rfl⟩)) ?_) (mCons_at rfl rfl)) ?_)))))
    · show (cut.map absI).length ≤ _
      rw [List.length_map]
      omega
    · exact mB_at (mOp_at (a := .int u) (b := .int (10 ^ 18)) rfl rfl rfl)
    · show Out.ok (D.lst (List.reverse _)) st = _
      rw [← List.map_reverse]
    · simp
end FL

/-! FS10: ways in trees: sums, greatest ways, middles -/
namespace FL
section
variable {α : Type} {os : List α} {ls : List (α × α × Nat)} {d : α → α → Nat} {x y z s p a b w : α} {c c' l : Nat}
theorem Eg.symm (h : Eg ls x y c) : Eg ls y x c := Or.symm h
theorem Met.zero (M : Met os (Eg ls) d) (hx : x ∈ os) (hy : y ∈ os) (h : d x y = 0) : x = y := by
  have w := M.walk x hx y hy
  rw [h] at w
  generalize hl : (0 : Nat) = l at w
  cases w with
  | nil => rfl
  | one e => have := (M.edge _ _ _ e).2.2.1; omega
  | cons e m t => have := (M.edge _ _ _ e).2.2.1; omega
theorem Met.le_walk (M : Met os (Eg ls) d) {P : α → Prop} (w : Wk (Eg ls) P x y l) : x ∈ os → y ∈ os → d x y ≤ l := by
  induction w with
  | nil x => exact fun hx _ => by rw [M.refl x hx]; exact Nat.le_refl _
  | one e => exact fun _ _ => by rw [(M.edge _ _ _ e).2.2.2]; exact Nat.le_refl _
  | @cons x z y c l e m t ih =>
    intro hx hy
    obtain ⟨_, hz, _, q⟩ := M.edge _ _ _ e
    have := M.tri x hx z hz y hy
    have := ih hz hy
    omega
/-- the next place on the way -/
theorem Met.next (M : Met os (Eg ls) d) (hx : x ∈ os) (hy : y ∈ os) (h : x ≠ y) : ∃ z c, Eg ls x z c ∧ d x y = c + d z y := by
  have w := M.walk x hx y hy
  generalize hl : d x y = l at w
  cases w with
  | nil => exact absurd rfl h
  | one e => exact ⟨y, l, e, by rw [M.refl y hy]; rfl⟩
  | @cons _ z _ c l e m t =>
    obtain ⟨_, hz, _, q⟩ := M.edge _ _ _ e
    have h1 := M.tri x hx z hz y hy
    have h2 := M.le_walk t hz hy
    exact ⟨z, c, e, by omega⟩
/-- one who goes away goes on so -/
theorem Met.away (M : Met os (Eg ls) d) (hs : s ∈ os) (hy : y ∈ os) : ∀ (n : Nat) {x z : α} {c : Nat}, d z y ≤ n → Eg ls x z c → d s z = d s x + c → d x y = c + d z y → d s y = d s x + d x y := by
  intro n
  induction n with
  | zero =>
    intro x z c hn e h1 h2
    have hz := (M.edge _ _ _ e).2.1
    have := M.zero hz hy (by omega)
    subst this
    omega
  | succ n ih =>
    intro x z c hn e h1 h2
    obtain ⟨hx, hz, hc, _⟩ := M.edge _ _ _ e
    by_cases hzy : z = y
    · subst hzy
      have := M.refl z hz
      omega
    · obtain ⟨w, c', e', q⟩ := M.next hz hy hzy
      have hc' := (M.edge _ _ _ e').2.2.1
      rcases M.to s hs z w c' e' with h | h
      · have := ih (x := z) (z := w) (c := c') (by omega) e' h q
        omega
      · have hxw := M.one s hs z x w c c' e.symm e' h1 h
        subst hxw
        omega
/-- s lies beyond z from x, or not -/
theorem Met.side (M : Met os (Eg ls) d) (hs : s ∈ os) (e : Eg ls x z c) : d x s = d z s + c ∨ d z s = d x s + c := by
  obtain ⟨hx, hz, _, _⟩ := M.edge _ _ _ e
  have h := M.to s hs x z c e
  rw [M.symm s hs x hx, M.symm s hs z hz] at h
  omega
theorem Met.awayD (M : Met os (Eg ls) d) (hs : s ∈ os) (hy : y ∈ os) (e : Eg ls x z c) (h1 : d z s = d x s + c) (h2 : d x y = c + d z y) : d y s = d x s + d x y := by
  obtain ⟨hx, hz, _, _⟩ := M.edge _ _ _ e
  have h := M.away hs hy (d z y) (Nat.le_refl _) e (by rw [M.symm s hs z hz, M.symm s hs x hx]; exact h1) h2
  rw [M.symm s hs y hy, M.symm s hs x hx] at h
  exact h
/-! ### sums -/
def sumW (d : α → α → Nat) (ps : List α) (x : α) : Nat := (ps.map fun s => d x s).sum
/-- how many lie beyond z -/
def cntW (d : α → α → Nat) (ps : List α) (x z : α) : Nat := (ps.filter fun s => decide (d x z + d z s = d x s)).length
theorem Met.sum_edge (M : Met os (Eg ls) d) (e : Eg ls x z c) : ∀ {ps : List α}, (∀ s ∈ ps, s ∈ os) → sumW d ps z + 2 * (c * cntW d ps x z) = sumW d ps x + c * ps.length
  | [], _ => by simp [sumW, cntW]
  | s :: ps, h => by
    have ih := M.sum_edge e (ps := ps) fun t ht => h t (List.mem_cons_of_mem _ ht)
    have q := (M.edge _ _ _ e).2.2.2
    have hc := (M.edge _ _ _ e).2.2.1
    unfold sumW cntW at *
    rw [List.map_cons, List.map_cons, List.sum_cons, List.sum_cons, List.filter_cons, List.length_cons, Nat.mul_succ]
    rcases M.side (h s List.mem_cons_self) e with k | k
    · rw [if_pos (by rw [decide_eq_true_eq]; omega), List.length_cons, Nat.mul_succ]
      omega
    · rw [if_neg (by rw [decide_eq_true_eq]; omega)]
      omega
theorem Met.sum_far (M : Met os (Eg ls) d) (hy : y ∈ os) (e : Eg ls x z c) (h2 : d x y = c + d z y) : ∀ {ps : List α}, (∀ s ∈ ps, s ∈ os) → sumW d ps x + d x y * ps.length ≤ sumW d ps y + 2 * (d x y * cntW d ps x z)
  | [], _ => by simp [sumW, cntW]
  | s :: ps, h => by
    have ih := M.sum_far hy e h2 (ps := ps) fun t ht => h t (List.mem_cons_of_mem _ ht)
    obtain ⟨hx, hz, hc, q⟩ := M.edge _ _ _ e
    have hs := h s List.mem_cons_self
    unfold sumW cntW at *
    rw [List.map_cons, List.map_cons, List.sum_cons, List.sum_cons, List.filter_cons, List.length_cons, Nat.mul_succ]
    rcases M.side hs e with k | k
    · have t := M.tri x hx y hy s hs
      rw [if_pos (by rw [decide_eq_true_eq]; omega), List.length_cons, Nat.mul_succ]
      omega
    · have t := M.awayD hs hy e k h2
      rw [if_neg (by rw [decide_eq_true_eq]; omega)]
      omega
theorem lt_of_mul {c n k : Nat} (h : c * n < 2 * (c * k)) : n < 2 * k := by
  rw [← Nat.mul_assoc, Nat.mul_comm 2 c, Nat.mul_assoc] at h
  exact Nat.lt_of_mul_lt_mul_left h
theorem mul_of_lt {c n k : Nat} (hc : 0 < c) (h : n < 2 * k) : c * n < 2 * (c * k) := by
  rw [← Nat.mul_assoc, Nat.mul_comm 2 c, Nat.mul_assoc]
  exact Nat.mul_lt_mul_of_pos_left h hc
theorem Met.more_half (M : Met os (Eg ls) d) (e : Eg ls x z c) {ps : List α} (h : ∀ s ∈ ps, s ∈ os) : sumW d ps z < sumW d ps x ↔ ps.length < 2 * cntW d ps x z := by
  have q := M.sum_edge e h
  have hc := (M.edge _ _ _ e).2.2.1
  constructor
  · intro h1
    exact lt_of_mul (c := c) (by omega)
  · intro h1
    have := mul_of_lt hc h1
    omega
theorem Met.toward_half (M : Met os (Eg ls) d) (hy : y ∈ os) (e : Eg ls x z c) (h2 : d x y = c + d z y) {ps : List α} (h : ∀ s ∈ ps, s ∈ os) (lt : sumW d ps y < sumW d ps x) : ps.length < 2 * cntW d ps x z := by
  have q := M.sum_far hy e h2 h
  exact lt_of_mul (c := d x y) (by omega)
/-- what no next place betters, none betters -/
theorem Met.sum_local (M : Met os (Eg ls) d) (hx : x ∈ os) (hy : y ∈ os) {ps : List α} (h : ∀ s ∈ ps, s ∈ os) (lt : sumW d ps y < sumW d ps x) : ∃ z c, Eg ls x z c ∧ sumW d ps z < sumW d ps x := by
  have ne : x ≠ y := fun e => by subst e; exact Nat.lt_irrefl _ lt
  obtain ⟨z, c, e, q⟩ := M.next hx hy ne
  exact ⟨z, c, e, (M.more_half e h).mpr (M.toward_half hy e q h lt)⟩
theorem cnt_two (M : Met os (Eg ls) d) (e : Eg ls x z c) (e' : Eg ls x w c') (ne : z ≠ w) : ∀ {ps : List α}, (∀ s ∈ ps, s ∈ os) → cntW d ps x z + cntW d ps x w ≤ ps.length
  | [], _ => by simp [cntW]
  | s :: ps, h => by
    have ih := cnt_two M e e' ne (ps := ps) fun t ht => h t (List.mem_cons_of_mem _ ht)
    have hs := h s List.mem_cons_self
    obtain ⟨hx, hz, hc, q⟩ := M.edge _ _ _ e
    obtain ⟨_, hw, hc', q'⟩ := M.edge _ _ _ e'
    unfold cntW at *
    rw [List.filter_cons, List.filter_cons, List.length_cons]
    by_cases h1 : d x z + d z s = d x s
    · by_cases h2 : d x w + d w s = d x s
      · exfalso
        refine ne (M.one s hs x z w c c' e e' ?_ ?_)
        · rw [M.symm s hs x hx, M.symm s hs z hz]; omega
        · rw [M.symm s hs x hx, M.symm s hs w hw]; omega
      · rw [if_pos (decide_eq_true h1), if_neg (by rw [decide_eq_true_eq]; exact h2), List.length_cons]
        omega
    · rw [if_neg (by rw [decide_eq_true_eq]; exact h1)]
      split
      · rw [List.length_cons]; omega
      · omega
/-- what lies between two of the best is one of them -/
theorem Met.between_best (M : Met os (Eg ls) d) (ha : a ∈ os) (hb : b ∈ os) (hp : p ∈ os) (q : d a p + d p b = d a b) {ps : List α} (h : ∀ s ∈ ps, s ∈ os) : sumW d ps p ≤ sumW d ps a ∨ sumW d ps p ≤ sumW d ps b := by
  by_cases h1 : sumW d ps p ≤ sumW d ps a
  · exact .inl h1
  by_cases h2 : sumW d ps p ≤ sumW d ps b
  · exact .inr h2
  exfalso
  have l1 : sumW d ps a < sumW d ps p := by omega
  have l2 : sumW d ps b < sumW d ps p := by omega
  have n1 : p ≠ a := fun e => by subst e; exact Nat.lt_irrefl _ l1
  have n2 : p ≠ b := fun e => by subst e; exact Nat.lt_irrefl _ l2
  obtain ⟨z, c, e, q1⟩ := M.next hp ha n1
  obtain ⟨w, c', e', q2⟩ := M.next hp hb n2
  have k1 := M.toward_half ha e q1 h l1
  have k2 := M.toward_half hb e' q2 h l2
  by_cases zw : z = w
  · subst zw
    obtain ⟨_, hz, hc, qc⟩ := M.edge _ _ _ e
    have qc' := (M.edge _ _ _ e').2.2.2
    have t := M.tri a ha z hz b hb
    have s1 := M.symm a ha p hp
    have s2 := M.symm a ha z hz
    omega
  · have := cnt_two M e e' zw h
    omega
/-! ### the greatest way -/
def mx : List Nat → Nat
  | [] => 0
  | a :: r => max a (mx r)
theorem mx_le {l : List Nat} {m : Nat} (h : ∀ a ∈ l, a ≤ m) : mx l ≤ m := by
  induction l with
  | nil => exact Nat.zero_le _
  | cons a r ih =>
    have := h a List.mem_cons_self
    have := ih fun b hb => h b (List.mem_cons_of_mem _ hb)
    unfold mx
    omega
theorem le_mx {l : List Nat} {a : Nat} (h : a ∈ l) : a ≤ mx l := by
  induction l with
  | nil => cases h
  | cons b r ih =>
    unfold mx
    rcases List.mem_cons.mp h with rfl | h
    · omega
    · have := ih h; omega
theorem mx_lt {l : List Nat} {m : Nat} (h0 : l ≠ []) (h : ∀ a ∈ l, a < m) : mx l < m := by
  cases l with
  | nil => exact absurd rfl h0
  | cons a r =>
    have h1 := h a List.mem_cons_self
    have : mx (a :: r) ≤ m - 1 := mx_le fun b hb => by have := h b hb; omega
    omega
def farW (d : α → α → Nat) (ps : List α) (x : α) : Nat := mx (ps.map fun s => d x s)
theorem Met.far_local (M : Met os (Eg ls) d) (hx : x ∈ os) (hy : y ∈ os) {ps : List α} (h : ∀ s ∈ ps, s ∈ os) (lt : farW d ps y < farW d ps x) : ∃ z c, Eg ls x z c ∧ farW d ps z < farW d ps x := by
  have ne : x ≠ y := fun e => by subst e; exact Nat.lt_irrefl _ lt
  have h0 : ps ≠ [] := fun e => by subst e; exact Nat.lt_irrefl _ lt
  obtain ⟨z, c, e, q⟩ := M.next hx hy ne
  have hc := (M.edge _ _ _ e).2.2.1
  refine ⟨z, c, e, mx_lt (by simpa using h0) fun k hk => ?_⟩
  obtain ⟨s, hs, rfl⟩ := List.mem_map.mp hk
  have b1 : d x s ≤ farW d ps x := le_mx (List.mem_map.mpr ⟨s, hs, rfl⟩)
  have b2 : d y s ≤ farW d ps y := le_mx (List.mem_map.mpr ⟨s, hs, rfl⟩)
  rcases M.side (h s hs) e with k | k
  · omega
  · have := M.awayD (h s hs) hy e k q
    omega
/-- s lies beyond z just if it is nearer from z -/
theorem Met.beyond (M : Met os (Eg ls) d) (hs : s ∈ os) (e : Eg ls x z c) : d z s < d x s ↔ d x z + d z s = d x s := by
  obtain ⟨_, _, hc, q⟩ := M.edge _ _ _ e
  rcases M.side hs e with k | k <;> omega
end
end FL

/-! FS11: sorting, with the order; sums, greatest and least of numbers -/
namespace FL
open PySem L2
section
variable {α : Type} {f : α → D} {st : DS}
theorem sortD_ord (f : α → D) (xs : List α) : ∃ ys : List α, ys.Perm xs ∧ sortD (xs.map f) = ys.map f ∧ ys.Pairwise fun a b => PySem.W.dataLt (f b).py (f a).py = false := by
  have T := dataLe_t (fun a => (f a).py)
  have tot : ∀ a b, (PySem.W.dataLe false (fun a => (f a).py) a b || PySem.W.dataLe false (fun a => (f a).py) b a) = true := fun a b => by rw [Bool.or_eq_true]; exact T.total a b
  refine ⟨xs.mergeSort (PySem.W.dataLe false fun a => (f a).py), List.mergeSort_perm _ _, ?_, ?_⟩
  · unfold sortD
    exact (List.map_mergeSort (f := f) (r := PySem.W.dataLe false fun a => (f a).py) (s := PySem.W.dataLe false D.py) fun _ _ _ _ => rfl).symm
  · refine (List.pairwise_mergeSort T.trans tot xs).imp fun {a b} h => ?_
    rw [PySem.W.dataLe_eq] at h
    simpa using h
theorem sorted_tupO (hp : ∀ a, (f a).plain = true) (ht : ∀ a, fullTupD (f a) = true) (hd : ∀ a, (f a).py.depth ≤ 50) (ha : ∀ a b, PySem.W.alike (f a).py (f b).py = true) {xs : List α} (h : xs.length ≤ 1000) : ∃ ys : List α, ys.Perm xs ∧ gSortedA [.bor (xs.map f)] st = .ok (ys.map f) st ∧ gSortedA [.lst (xs.map f)] st = .ok (ys.map f) st ∧ ys.Pairwise fun a b => PySem.W.dataLt (f b).py (f a).py = false := by
  obtain ⟨ys, p, e, o⟩ := sortD_ord f xs
  refine ⟨ys, p, ?_, ?_, o⟩
  · show (if sortOk (xs.map f) then _ else _) = _
    rw [if_pos (sortOk_tup hp ht hd ha xs h), e]
  · show (if sortOk (xs.map f) then _ else _) = _
    rw [if_pos (sortOk_tup hp ht hd ha xs h), e]
end
section
variable {st : DS}
theorem dataLt_pn (a b : Nm × Nat) : PySem.W.dataLt (pn a).py (pn b).py = decide (ltN a.1 b.1 ∨ (a.1 = b.1 ∧ a.2 < b.2)) := by
  have e : ∀ h : Nm × Nat, (pn h).py = .tuple [(nm h.1).py, .int (h.2 : Nat)] := fun h => by
    unfold pn inD
    rw [D.py, D.pys, D.pys, D.pys, D.py]
  rw [e, e, PySem.W.dataLt_pair rfl rfl, dataLt_nm, PySem.W.dataLt_int, eqE_nm.eqv, show PyData.eqv (.int (a.2 : Nat)) (.int (b.2 : Nat)) = decide (a.2 = b.2) from by rw [PyData.eqv]; exact decide_eq_decide.mpr Int.ofNat_inj]
  by_cases h1 : a.1 = b.1
  · by_cases h2 : a.2 = b.2
    · simp [h1, h2, ltN_irrefl]
    · simp [h1, h2, ltN_irrefl]
  · simp [h1]
abbrev Up (xs : List Nm) : Prop := xs.Pairwise fun a b => ¬ ltN b a
theorem sorted_pnO {xs : List (Nm × Nat)} (h : xs.length ≤ 1000) : ∃ ys : List (Nm × Nat), ys.Perm xs ∧ gSortedA [.lst (xs.map pn)] st = .ok (ys.map pn) st ∧ Up (ys.map (·.1)) := by
  obtain ⟨ys, p, _, e, o⟩ := sorted_tupO (f := pn) (st := st) (fun _ => rfl) (fun _ => rfl) (fun a => by simp [pn, nm, inD, D.py, D.pys, PyData.depth, PyData.depthAll]) (fun _ _ => rfl) h
  refine ⟨ys, p, e, List.pairwise_map.mpr (o.imp fun {a b} q l => ?_)⟩
  rw [dataLt_pn] at q
  simp [l] at q
theorem sorted_nmO {xs : List Nm} (h : xs.length ≤ 1000) : ∃ ys : List Nm, ys.Perm xs ∧ gSortedA [.lst (xs.map nm)] st = .ok (ys.map nm) st ∧ gSortedA [.bor (xs.map nm)] st = .ok (ys.map nm) st ∧ Up ys := by
  obtain ⟨ys, p, e, o⟩ := sortD_ord nm xs
  refine ⟨ys, p, ?_, ?_, o.imp fun {a b} q l => ?_⟩
  · show (if sortOk (xs.map nm) then _ else _) = _
    rw [if_pos (sortOk_nm xs h), e]
  · show (if sortOk (xs.map nm) then _ else _) = _
    rw [if_pos (sortOk_nm xs h), e]
  · rw [dataLt_nm] at q
    simp [l] at q
theorem Up.eq {xs ys : List Nm} (h1 : Up xs) (h2 : Up ys) (p : xs.Perm ys) : xs = ys := by
  refine p.eq_of_pairwise (le := fun a b => ¬ ltN b a) (fun a b _ _ l1 l2 => ?_) h1 h2
  rcases ltN_tri a b with z | z | z
  · exact absurd z l2
  · exact z
  · exact absurd z l1
/-! ### numbers -/
theorem map_inD (l : List Nat) : l.map inD = (l.map fun n => ((n : Nat) : Int)).map D.int := by rw [List.map_map]; rfl
theorem sum_cast (l : List Nat) : (l.map fun n => ((n : Nat) : Int)).sum = ((l.sum : Nat) : Int) := by
  induction l with
  | nil => rfl
  | cons a l ih => rw [List.map_cons, List.sum_cons, List.sum_cons, ih]; omega
theorem sum_inD (l : List Nat) : gSum [.lst (l.map inD)] st = .ok (inD l.sum) st := by
  rw [map_inD, gSum_lst, sum_cast]
  rfl
theorem min_inD {l : List Nat} (h : l ≠ []) : ∃ m : Nat, (∀ st, gMin [.lst (l.map inD)] st = .ok (inD m) st) ∧ m ∈ l ∧ ∀ y ∈ l, m ≤ y := by
  cases l with
  | nil => exact absurd rfl h
  | cons a r =>
    obtain ⟨h1, h2⟩ := minI_spec ((a : Nat) : Int) (r.map fun n => ((n : Nat) : Int))
    have h1' : minI ((a : Nat) : Int) (r.map fun n => ((n : Nat) : Int)) ∈ (a :: r).map fun n => ((n : Nat) : Int) := h1
    obtain ⟨m, hm, e⟩ := List.mem_map.mp h1'
    refine ⟨m, fun st => ?_, hm, fun y hy => ?_⟩
    · rw [map_inD, List.map_cons, gMin_lst, ← e]
      rfl
    · have := h2 ((y : Nat) : Int) (show _ ∈ (a :: r).map fun n => ((n : Nat) : Int) from List.mem_map.mpr ⟨y, hy, rfl⟩)
      omega
theorem pys_inD (l : List Nat) {i : Nat} (h : i < l.length) : (D.pys (l.map inD)).getD i .none = .int ((l[i] : Nat) : Int) := by
  rw [D.pys_map, List.map_map, List.getD_eq_getElem?_getD, List.getElem?_map, List.getElem?_eq_getElem h]
  show (inD l[i]).py = _
  unfold inD
  rw [D.py]
theorem argMax_inD (l : List Nat) : ∀ (k : Nat) (hk : k < l.length), ∃ hi : argBest (btX (D.pys (l.map inD))) k < l.length, ∀ (j : Nat) (hj : j ≤ k), l[j] ≤ l[argBest (btX (D.pys (l.map inD))) k]
  | 0, hk => ⟨hk, fun j hj => by
    have : j = 0 := by omega
    subst this
    exact Nat.le_refl _⟩
  | k + 1, hk => by
    obtain ⟨hi, hb⟩ := argMax_inD l k (by omega)
    have ebt : btX (D.pys (l.map inD)) (k + 1) (argBest (btX (D.pys (l.map inD))) k) = decide (l[argBest (btX (D.pys (l.map inD))) k] < l[k + 1]) := by
      show PySem.W.dataLt _ _ = _
      rw [pys_inD l hi, pys_inD l hk, PySem.W.dataLt_int]
      exact decide_eq_decide.mpr (by omega)
    by_cases c : l[argBest (btX (D.pys (l.map inD))) k] < l[k + 1]
    · have ea : argBest (btX (D.pys (l.map inD))) (k + 1) = k + 1 := by rw [argBest, ebt, decide_eq_true c, if_pos rfl]
      simp only [ea]
      refine ⟨hk, fun j hj => ?_⟩
      rcases Nat.lt_or_ge j (k + 1) with z | z
      · have := hb j (by omega); omega
      · have : j = k + 1 := by omega
        subst this
        exact Nat.le_refl _
    · have ea : argBest (btX (D.pys (l.map inD))) (k + 1) = argBest (btX (D.pys (l.map inD))) k := by rw [argBest, ebt, decide_eq_false c, if_neg (by decide)]
      simp only [ea]
      refine ⟨hi, fun j hj => ?_⟩
      rcases Nat.lt_or_ge j (k + 1) with z | z
      · exact hb j (by omega)
      · have : j = k + 1 := by omega
        subst this
        omega
theorem minOk_inD (l : List Nat) : minOk (l.map inD) = true := by
  have dp : PyData.depthAll (D.pys (l.map inD)) ≤ 10 := by
    induction l with
    | nil => simp [D.pys, PyData.depthAll]
    | cons x l ih =>
      rw [List.map_cons, D.pys, PyData.depthAll]
      have : (inD x).py.depth ≤ 10 := by simp [inD, D.py, PyData.depth]
      omega
  unfold minOk
  simp only [Bool.and_eq_true, List.all_eq_true, decide_eq_true_eq, List.mem_map, forall_exists_index, and_imp, forall_apply_eq_imp_iff₂]
  exact ⟨⟨⟨plains_map (fun _ => rfl) l, fun a _ b _ => rfl⟩, fun a _ => rfl⟩, Nat.le_trans dp (by decide)⟩
theorem max_inD (l : List Nat) : gMaxD [.lst (l.map inD)] (.int 0) st = .ok (inD (mx l)) st := by
  show (if minOk (l.map inD) = true then _ else _) = _
  rw [if_pos (minOk_inD l)]
  cases hl : l with
  | nil => rfl
  | cons a r =>
    have h0 : 0 < l.length := by rw [hl]; simp
    obtain ⟨hi, hb⟩ := argMax_inD l (l.length - 1) (by omega)
    rw [← hl, if_neg (by rw [hl]; simp), List.length_map, List.getElem?_map, List.getElem?_eq_getElem hi]
    have e : l[argBest (btX (D.pys (l.map inD))) (l.length - 1)] = mx l := by
      refine Nat.le_antisymm (le_mx (List.getElem_mem hi)) (mx_le fun a ha => ?_)
      obtain ⟨j, hj, rfl⟩ := List.getElem_of_mem ha
      exact hb j (by omega)
    simp only [Option.map_some, e]
end
theorem gd_maxD {Γ : Ev} {st : DS} {mr : Ev → M (List D)} {md : EM} {P : D → DS → Prop} (h : Gd (mr Γ st) fun ds s => Gd (md Γ s) fun d s' => Gd (gMaxD ds d s') P) : Gd (mMaxD mr md Γ st) P := by
  show Gd ((mr Γ st).bind fun ds s => (md Γ s).bind fun d s => gMaxD ds d s) P
  rw [gd_bind]
  exact h.mono fun ds s q => by rw [gd_bind]; exact q
end FL

namespace Lk56
open PySem PySem.Spec PyProof.Rows L2 FL
def topS (i : Nat) : Stmt := PySem.Challenge.pw_servedall_k56_whole_middles_and_centres.main.body.getD i (.Pass ⟨0, 0, 0, 0⟩)
abbrev s_next_to : Stmt := topS 2
theorem sc_next_to : FnScope ["roads", "place", "found", "one", "other", "length"] ["roads", "place"] (defScope s_next_to) := ⟨rfl, rfl, rfl, by decide +kernel, rfl, by decide +kernel, by decide +kernel⟩
abbrev s_least_places : Stmt := topS 11
theorem sc_least_places : FnScope ["roads", "numbers", "place", "number"] ["roads", "numbers"] (defScope s_least_places) := ⟨rfl, rfl, rfl, by decide +kernel, rfl, by decide +kernel, by decide +kernel⟩
abbrev s__law_deal : Stmt := topS 16
theorem sc__law_deal : FnScope ["_law_script", "_law_base", "_law_cells", "_law_mix", "_law_cell"] ["_law_script", "_law_base"] (defScope s__law_deal) := ⟨rfl, rfl, rfl, by decide +kernel, rfl, by decide +kernel, by decide +kernel⟩
abbrev s__law_any : Stmt := topS 17
theorem sc__law_any : FnScope ["_law_deal_here", "_law_bound", "_law_rest"] ["_law_deal_here", "_law_bound"] (defScope s__law_any) := ⟨rfl, rfl, rfl, by decide +kernel, rfl, by decide +kernel, by decide +kernel⟩
abbrev s__law_ways : Stmt := topS 22
theorem sc__law_ways : FnScope ["_law_places", "_law_lines", "_law_far", "_law_one", "_law_other", "_law_length", "_law_mid"] ["_law_places", "_law_lines"] (defScope s__law_ways) := ⟨rfl, rfl, rfl, by decide +kernel, rfl, by decide +kernel, by decide +kernel⟩
abbrev s_ways_from : Stmt := topS 3
theorem sc_ways_from : FnScope ["roads", "place", "found", "waiting", "here", "there", "length", "one"] ["roads", "place"] (defScope s_ways_from) := ⟨rfl, rfl, rfl, by decide +kernel, rfl, by decide +kernel, by decide +kernel⟩
abbrev s__law_of : Stmt := topS 18
theorem sc__law_of : FnScope ["_law_deal_here", "_law_some"] ["_law_deal_here", "_law_some"] (defScope s__law_of) := ⟨rfl, rfl, rfl, by decide +kernel, rfl, by decide +kernel, by decide +kernel⟩
abbrev s_branches : Stmt := topS 4
theorem sc_branches : FnScope ["roads", "place", "here", "found", "there", "length", "beyond", "one", "near", "far"] ["roads", "place"] (defScope s_branches) := ⟨rfl, rfl, rfl, by decide +kernel, rfl, by decide +kernel, by decide +kernel⟩
abbrev s_ways_by_place : Stmt := topS 6
theorem sc_ways_by_place : FnScope ["roads", "place"] ["roads", "place"] (defScope s_ways_by_place) := ⟨rfl, rfl, rfl, by decide +kernel, rfl, by decide +kernel, by decide +kernel⟩
abbrev s__law_word : Stmt := topS 19
theorem sc__law_word : FnScope ["_law_deal_here", "_law_size", "_law_word_here", "_law_turn"] ["_law_deal_here", "_law_size"] (defScope s__law_word) := ⟨rfl, rfl, rfl, by decide +kernel, rfl, by decide +kernel, by decide +kernel⟩
abbrev s_people_ways : Stmt := topS 8
theorem sc_people_ways : FnScope ["roads", "people", "place", "ways", "name", "there", "reach"] ["roads", "people", "place"] (defScope s_people_ways) := ⟨rfl, rfl, rfl, by decide +kernel, rfl, by decide +kernel, by decide +kernel⟩
abbrev s_branch_counts : Stmt := topS 14
theorem sc_branch_counts : FnScope ["roads", "people", "place", "found", "there", "beyond", "name", "spot", "reach"] ["roads", "people", "place"] (defScope s_branch_counts) := ⟨rfl, rfl, rfl, by decide +kernel, rfl, by decide +kernel, by decide +kernel⟩
abbrev s__law_names : Stmt := topS 20
theorem sc__law_names : FnScope ["_law_deal_here", "_law_many", "_law_front", "_law_found", "_law_turn"] ["_law_deal_here", "_law_many"] (defScope s__law_names) := ⟨rfl, rfl, rfl, by decide +kernel, rfl, by decide +kernel, by decide +kernel⟩
abbrev s_sum_from : Stmt := topS 9
theorem sc_sum_from : FnScope ["roads", "people", "place"] ["roads", "people", "place"] (defScope s_sum_from) := ⟨rfl, rfl, rfl, by decide +kernel, rfl, by decide +kernel, by decide +kernel⟩
abbrev s_farthest_from : Stmt := topS 10
theorem sc_farthest_from : FnScope ["roads", "people", "place"] ["roads", "people", "place"] (defScope s_farthest_from) := ⟨rfl, rfl, rfl, by decide +kernel, rfl, by decide +kernel, by decide +kernel⟩
abbrev s__law_land : Stmt := topS 21
theorem sc__law_land : FnScope ["_law_deal_here", "_law_most", "_law_places", "_law_lines", "_law_order", "_law_thin", "_law_at", "_law_ahead", "_law_length", "_law_place"] ["_law_deal_here", "_law_most"] (defScope s__law_land) := ⟨rfl, rfl, rfl, by decide +kernel, rfl, by decide +kernel, by decide +kernel⟩
abbrev s__law_seats : Stmt := topS 23
theorem sc__law_seats : FnScope ["_law_deal_here", "_law_places", "_law_most", "_law_found", "_law_name", "_law_reach"] ["_law_deal_here", "_law_places", "_law_most"] (defScope s__law_seats) := ⟨rfl, rfl, rfl, by decide +kernel, rfl, by decide +kernel, by decide +kernel⟩
abbrev s_middles : Stmt := topS 12
theorem sc_middles : FnScope ["roads", "people", "place"] ["roads", "people"] (defScope s_middles) := ⟨rfl, rfl, rfl, by decide +kernel, rfl, by decide +kernel, by decide +kernel⟩
abbrev s_centres : Stmt := topS 13
theorem sc_centres : FnScope ["roads", "people", "place"] ["roads", "people"] (defScope s_centres) := ⟨rfl, rfl, rfl, by decide +kernel, rfl, by decide +kernel, by decide +kernel⟩
abbrev s_law : Stmt := topS 25
theorem sc_law : FnScope ["_law_script", "_law_deal_here", "_law_places", "_law_lines", "_law_land_here", "_law_far", "_law_people", "_law_sums", "_law_ends", "_law_best", "_law_mids", "_law_place", "_law_beside", "_law_due", "_law_one", "_law_there", "_law_other", "_law_seat", "_law_length", "_law_number"] ["_law_script"] (defScope s_law) := ⟨rfl, rfl, rfl, by decide +kernel, rfl, by decide +kernel, by decide +kernel⟩
/-- what the top has laid -/
abbrev c_Roads : Addr := 38
abbrev s_Roads : Stmt := inClass (topS 1) 0
theorem sci_Roads : FnScope ["self", "places", "lines"] ["self", "places", "lines"] (C8.fnScope s_Roads) := ⟨rfl, rfl, rfl, by decide +kernel, rfl, by decide +kernel, by decide +kernel⟩
structure Txt (P : Program) (K : PySem.W.Frag) (mg : Str → Option Value) where
  C_Roads : CTxt K mg "Roads" c_Roads ["places", "lines"]
  M_Roads : MTxt K c_Roads ["places", "lines"] "Roads.__init__" s_Roads
  f_next_to : Addr
  d_next_to : FuncData
  F_next_to : Fun K "next_to" "next_to" s_next_to f_next_to d_next_to
  g_next_to : mg "next_to" = some (.ref f_next_to)
  b_next_to : L2.Binds K d_next_to ["roads", "place"] []
  f_least_places : Addr
  d_least_places : FuncData
  F_least_places : Fun K "least_places" "least_places" s_least_places f_least_places d_least_places
  g_least_places : mg "least_places" = some (.ref f_least_places)
  b_least_places : L2.Binds K d_least_places ["roads", "numbers"] []
  f__law_deal : Addr
  d__law_deal : FuncData
  F__law_deal : Fun K "_law_deal" "_law_deal" s__law_deal f__law_deal d__law_deal
  g__law_deal : mg "_law_deal" = some (.ref f__law_deal)
  b__law_deal : L2.Binds K d__law_deal ["_law_script", "_law_base"] []
  f__law_any : Addr
  d__law_any : FuncData
  F__law_any : Fun K "_law_any" "_law_any" s__law_any f__law_any d__law_any
  g__law_any : mg "_law_any" = some (.ref f__law_any)
  b__law_any : L2.Binds K d__law_any ["_law_deal_here", "_law_bound"] []
  f__law_ways : Addr
  d__law_ways : FuncData
  F__law_ways : Fun K "_law_ways" "_law_ways" s__law_ways f__law_ways d__law_ways
  g__law_ways : mg "_law_ways" = some (.ref f__law_ways)
  b__law_ways : L2.Binds K d__law_ways ["_law_places", "_law_lines"] []
  f_ways_from : Addr
  d_ways_from : FuncData
  F_ways_from : Fun K "ways_from" "ways_from" s_ways_from f_ways_from d_ways_from
  g_ways_from : mg "ways_from" = some (.ref f_ways_from)
  b_ways_from : L2.Binds K d_ways_from ["roads", "place"] []
  f__law_of : Addr
  d__law_of : FuncData
  F__law_of : Fun K "_law_of" "_law_of" s__law_of f__law_of d__law_of
  g__law_of : mg "_law_of" = some (.ref f__law_of)
  b__law_of : L2.Binds K d__law_of ["_law_deal_here", "_law_some"] []
  f_branches : Addr
  d_branches : FuncData
  F_branches : Fun K "branches" "branches" s_branches f_branches d_branches
  g_branches : mg "branches" = some (.ref f_branches)
  b_branches : L2.Binds K d_branches ["roads", "place"] []
  f_ways_by_place : Addr
  d_ways_by_place : FuncData
  F_ways_by_place : Fun K "ways_by_place" "ways_by_place" s_ways_by_place f_ways_by_place d_ways_by_place
  g_ways_by_place : mg "ways_by_place" = some (.ref f_ways_by_place)
  b_ways_by_place : L2.Binds K d_ways_by_place ["roads", "place"] []
  f__law_word : Addr
  d__law_word : FuncData
  F__law_word : Fun K "_law_word" "_law_word" s__law_word f__law_word d__law_word
  g__law_word : mg "_law_word" = some (.ref f__law_word)
  b__law_word : L2.Binds K d__law_word ["_law_deal_here", "_law_size"] []
  f_people_ways : Addr
  d_people_ways : FuncData
  F_people_ways : Fun K "people_ways" "people_ways" s_people_ways f_people_ways d_people_ways
  g_people_ways : mg "people_ways" = some (.ref f_people_ways)
  b_people_ways : L2.Binds K d_people_ways ["roads", "people", "place"] []
  f_branch_counts : Addr
  d_branch_counts : FuncData
  F_branch_counts : Fun K "branch_counts" "branch_counts" s_branch_counts f_branch_counts d_branch_counts
  g_branch_counts : mg "branch_counts" = some (.ref f_branch_counts)
  b_branch_counts : L2.Binds K d_branch_counts ["roads", "people", "place"] []
  f__law_names : Addr
  d__law_names : FuncData
  F__law_names : Fun K "_law_names" "_law_names" s__law_names f__law_names d__law_names
  g__law_names : mg "_law_names" = some (.ref f__law_names)
  b__law_names : L2.Binds K d__law_names ["_law_deal_here", "_law_many"] []
  f_sum_from : Addr
  d_sum_from : FuncData
  F_sum_from : Fun K "sum_from" "sum_from" s_sum_from f_sum_from d_sum_from
  g_sum_from : mg "sum_from" = some (.ref f_sum_from)
  b_sum_from : L2.Binds K d_sum_from ["roads", "people", "place"] []
  f_farthest_from : Addr
  d_farthest_from : FuncData
  F_farthest_from : Fun K "farthest_from" "farthest_from" s_farthest_from f_farthest_from d_farthest_from
  g_farthest_from : mg "farthest_from" = some (.ref f_farthest_from)
  b_farthest_from : L2.Binds K d_farthest_from ["roads", "people", "place"] []
  f__law_land : Addr
  d__law_land : FuncData
  F__law_land : Fun K "_law_land" "_law_land" s__law_land f__law_land d__law_land
  g__law_land : mg "_law_land" = some (.ref f__law_land)
  b__law_land : L2.Binds K d__law_land ["_law_deal_here", "_law_most"] []
  f__law_seats : Addr
  d__law_seats : FuncData
  F__law_seats : Fun K "_law_seats" "_law_seats" s__law_seats f__law_seats d__law_seats
  g__law_seats : mg "_law_seats" = some (.ref f__law_seats)
  b__law_seats : L2.Binds K d__law_seats ["_law_deal_here", "_law_places", "_law_most"] []
  f_middles : Addr
  d_middles : FuncData
  F_middles : Fun K "middles" "middles" s_middles f_middles d_middles
  g_middles : mg "middles" = some (.ref f_middles)
  b_middles : L2.Binds K d_middles ["roads", "people"] []
  f_centres : Addr
  d_centres : FuncData
  F_centres : Fun K "centres" "centres" s_centres f_centres d_centres
  g_centres : mg "centres" = some (.ref f_centres)
  b_centres : L2.Binds K d_centres ["roads", "people"] []
  f_law : Addr
  d_law : FuncData
  F_law : Fun K "law" "law" s_law f_law d_law
  b_law : ∀ (s : Shared) (u : Value), BindsTo s d_law ⟨[u], []⟩ [("_law_script", u)]
  kb_branch_counts_0_1_2 : KBinds K d_branch_counts ["roads", "people", "place"] ["roads", "people", "place"] (fun us ws => if us = [] then FL.pick [0, 1, 2] ws else []) (fun vs zs => if vs = [] then FL.pick [0, 1, 2] zs else [])
  kb_sum_from_0_1_2 : KBinds K d_sum_from ["roads", "people", "place"] ["roads", "people", "place"] (fun us ws => if us = [] then FL.pick [0, 1, 2] ws else []) (fun vs zs => if vs = [] then FL.pick [0, 1, 2] zs else [])
  kb_farthest_from_0_1_2 : KBinds K d_farthest_from ["roads", "people", "place"] ["roads", "people", "place"] (fun us ws => if us = [] then FL.pick [0, 1, 2] ws else []) (fun vs zs => if vs = [] then FL.pick [0, 1, 2] zs else [])
  kb_middles_0_1 : KBinds K d_middles ["roads", "people"] ["roads", "people"] (fun us ws => if us = [] then FL.pick [0, 1] ws else []) (fun vs zs => if vs = [] then FL.pick [0, 1] zs else [])
  kb_centres_0_1 : KBinds K d_centres ["roads", "people"] ["roads", "people"] (fun us ws => if us = [] then FL.pick [0, 1] ws else []) (fun vs zs => if vs = [] then FL.pick [0, 1] zs else [])
  z_abs : mg "abs" = none
  z_dict : mg "dict" = none
  z_int : mg "int" = none
  z_isinstance : mg "isinstance" = none
  z_len : mg "len" = none
  z_list : mg "list" = none
  z_max : mg "max" = none
  z_min : mg "min" = none
  z_range : mg "range" = none
  z_repr : mg "repr" = none
  z_set : mg "set" = none
  z_sorted : mg "sorted" = none
  z_sum : mg "sum" = none
  z_tuple : mg "tuple" = none
  z_zip : mg "zip" = none
/-! ### the mirrors -/
def mb_next_to : SM := (mSeq (mAsg (mFrz (mComp (mSeqOf (mUn (gFld [c_Roads] "lines") (mVar 0))) (mgTup 3 (mgCons (mgName 3) (mgCons (mgName 4) (mgCons (mgName 5) mgNil)))) (mB (mOp gEq (mVar 3) (mVar 1))) (mTup (mCons (mVar 4) (mCons (mVar 5) mNil))) [3, 4, 5])) (mgName 2))
  (mRet (mFrz (mCallO gSortedA (mCons (mOp gAdd (mVar 2) (mFrz (mComp (mSeqOf (mUn (gFld [c_Roads] "lines") (mVar 0))) (mgTup 3 (mgCons (mgName 3) (mgCons (mgName 4) (mgCons (mgName 5) mgNil)))) (mB (mOp gEq (mVar 4) (mVar 1))) (mTup (mCons (mVar 3) (mCons (mVar 5) mNil))) [3, 4, 5]))) mNil)))))
def m_next_to : List D → M D := fnM 2 6 mb_next_to
def mb_least_places : SM := (mRet (mCall gTuple (mCons (mFrz (mComp (mSrc gZips2 (mCons (mUn (gFld [c_Roads] "places") (mVar 0)) (mCons (mVar 1) mNil))) (mgTup 2 (mgCons (mgName 2) (mgCons (mgName 3) mgNil))) (mB (mOp gEq (mVar 3) (mCall gMin (mCons (mVar 1) mNil)))) (mVar 2) [2, 3])) mNil)))
def m_least_places : List D → M D := fnM 2 4 mb_least_places
def mb__law_deal : SM := (mSeq (mAsg (mFrz (mComp (mSeqOf (mSl (mVar 0) mNoP (mSomeP (mC (.int 63))))) (mgName 4) mYes (mCall gAbs (mCons (mCall gIntOf (mCons (mVar 4) mNil)) mNil)) [4])) (mgName 2))
  (mSeq (mAsg (mOp gAdd (mOp gMulW (mC (.int 40127)) (mVar 1)) (mC (.int 863))) (mgName 3))
  (mSeq (mFor (mSeqOf (mVar 2)) (mgName 4) (mAsg (mOp gMod (mCall gIntOf (mCons (mOp gAdd (mOp gAdd (mOp gMulW (mVar 3) (mC (.int 48271))) (mOp gMod (mVar 4) (mC (.int 2147483579)))) (mC (.int 61))) mNil)) (mC (.int 2147483647))) (mgName 3)))
  (mRet (mLst (mCons (mUn gRev (mFrz (mComp (mSeqOf (mVar 2)) (mgName 4) (mB (mOp gGe (mVar 4) (mOp gPow (mC (.int 10)) (mC (.int 18))))) (mVar 4) [4]))) (mCons (mVar 3) mNil)))))))
def m__law_deal : List D → M D := fnM 2 5 mb__law_deal
def m__law_any : List D → M D := gAnyD 83
def mb__law_ways : SM := (mSeq (mSetT 2 mTNew)
  (mSeq (mFor (mSeqOf (mVar 0)) (mgName 3) (mFor (mSeqOf (mVar 0)) (mgName 4) (mTPut 2 (mIf (mB (mOp gEq (mVar 3) (mVar 4))) (mC (.int 0)) (mOp gPow (mC (.int 10)) (mC (.int 9)))) (mCons (mVar 3) (mCons (mVar 4) mNil)))))
  (mSeq (mFor (mSeqOf (mVar 1)) (mgTup 3 (mgCons (mgName 3) (mgCons (mgName 4) (mgCons (mgName 5) mgNil)))) (mSeq (mTPut 2 (mVar 5) (mCons (mVar 3) (mCons (mVar 4) mNil)))
  (mTPut 2 (mVar 5) (mCons (mVar 4) (mCons (mVar 3) mNil)))))
  (mSeq (mFor (mSeqOf (mVar 0)) (mgName 6) (mFor (mSeqOf (mVar 0)) (mgName 3) (mFor (mSeqOf (mVar 0)) (mgName 4) (mTPut 2 (mCall gMinA (mCons (mTGet 2 (mCons (mVar 3) (mCons (mVar 4) mNil))) (mCons (mOp gAdd (mTGet 2 (mCons (mVar 3) (mCons (mVar 6) mNil))) (mTGet 2 (mCons (mVar 6) (mCons (mVar 4) mNil)))) mNil))) (mCons (mVar 3) (mCons (mVar 4) mNil))))))
  (mFrzT 2 (mRet (mVar 2)))))))
def m__law_ways : List D → M D := fnM 2 7 mb__law_ways
def mb_ways_from : SM := (mSeq (mParX 2 3 (gDi (mDOne (mVar 1) (mC (.int 0)))) (gOw (mDisp (mCons (mVar 1) mNil))))
  (mSeq (whileS (mBorT 3 (mB (mOp gNe (mVar 3) (mLst mNil)))) (mSeq (mSetPop 4 3)
  (mFor (mSeqOf (mCall (fun ds => nxM (m_next_to ds)) (mCons (mVar 0) (mCons (mVar 4) mNil)))) (mgTup 2 (mgCons (mgName 5) (mgCons (mgName 6) mgNil))) (mIfS (mB (mDIn true (mVar 5) 2)) (mSeq (mDPut 2 (mOp gAdd (mDGet 2 (mVar 4)) (mVar 6)) (mVar 5))
  (mApp 3 (mVar 5))) mNext))) 1000)
  (mRet (mCall gTuple (mCons (mFrz (mComp (mSeqOf (mUn (gFld [c_Roads] "places") (mVar 0))) (mgName 7) mYes (mDGet 2 (mVar 7)) [7])) mNil)))))
def m_ways_from : List D → M D := fnM 2 8 mb_ways_from
def mb__law_of : SM := (mRet (mOp gIx (mVar 1) (mCall (fun ds => nxM (m__law_any ds)) (mCons (mVar 0) (mCons (mCall gLen (mCons (mVar 1) mNil)) mNil)))))
def m__law_of : List D → M D := fnM 2 2 mb__law_of
def mb_branches : SM := (mSeq (mParX 2 3 (gDa (mCall (fun ds => nxM (m_ways_from ds)) (mCons (mVar 0) (mCons (mVar 1) mNil)))) (gOw (mDisp mNil)))
  (mSeq (mFor (mSeqOf (mCall (fun ds => nxM (m_next_to ds)) (mCons (mVar 0) (mCons (mVar 1) mNil)))) (mgTup 2 (mgCons (mgName 4) (mgCons (mgName 5) mgNil))) (mSeq (mAsg (mCall (fun ds => nxM (m_ways_from ds)) (mCons (mVar 0) (mCons (mVar 4) mNil))) (mgName 6))
  (mApp 3 (mTup (mCons (mVar 4) (mCons (mCall gTuple (mCons (mFrz (mComp (mSrc gZips3 (mCons (mUn (gFld [c_Roads] "places") (mVar 0)) (mCons (mVar 2) (mCons (mVar 6) mNil)))) (mgTup 3 (mgCons (mgName 7) (mgCons (mgName 8) (mgCons (mgName 9) mgNil)))) (mB (mOp gLt (mVar 9) (mVar 8))) (mVar 7) [7, 8, 9])) mNil)) mNil))))))
  (mRet (mBor 3 (mCall gTuple (mCons (mVar 3) mNil))))))
def m_branches : List D → M D := fnM 2 10 mb_branches
def mb_ways_by_place : SM := (mRet (mFrzOD (mDZip (mCons (mUn (gFld [c_Roads] "places") (mVar 0)) (mCons (mCall (fun ds => nxM (m_ways_from ds)) (mCons (mVar 0) (mCons (mVar 1) mNil))) mNil)))))
def m_ways_by_place : List D → M D := fnM 2 2 mb_ways_by_place
def mb__law_word : SM := (mSeq (mAsg (mC (.str "")) (mgName 2))
  (mSeq (mFor (mSrc gRange1 (mCons (mVar 1) mNil)) (mgName 3) (mAsg (mOp gAdd (mVar 2) (mCall (fun ds => nxM (m__law_of ds)) (mCons (mVar 0) (mCons (mFrz (mCallO gListOfA (mCons (mC (.str "abcdefghijklmnopqrstuvwxyz")) mNil))) mNil)))) (mgName 2)))
  (mRet (mVar 2))))
def m__law_word : List D → M D := fnM 2 4 mb__law_word
def mb_people_ways : SM := (mSeq (mAsg (mCall (fun ds => nxM (m_ways_by_place ds)) (mCons (mVar 0) (mCons (mVar 2) mNil))) (mgName 3))
  (mRet (mFrz (mComp (mSeqOf (mVar 1)) (mgTup 3 (mgCons (mgName 4) (mgCons (mgName 5) (mgCons (mgName 6) mgNil)))) mYes (mDIx (mVar 3) (mVar 5)) [4, 5, 6]))))
def m_people_ways : List D → M D := fnM 3 7 mb_people_ways
def mb_branch_counts : SM := (mSeq (mSetO 3 (mDisp mNil))
  (mSeq (mFor (mSeqOf (mCall (fun ds => nxM (m_branches ds)) (mCons (mVar 0) (mCons (mVar 2) mNil)))) (mgTup 2 (mgCons (mgName 4) (mgCons (mgName 5) mgNil))) (mApp 3 (mTup (mCons (mVar 4) (mCons (mCall gLen (mCons (mFrz (mComp (mSeqOf (mVar 1)) (mgTup 3 (mgCons (mgName 6) (mgCons (mgName 7) (mgCons (mgName 8) mgNil)))) (mB (mOp gInA (mVar 7) (mVar 5))) (mVar 6) [6, 7, 8])) mNil)) mNil)))))
  (mRet (mBor 3 (mCall gTuple (mCons (mVar 3) mNil))))))
def m_branch_counts : List D → M D := fnM 3 9 mb_branch_counts
def mb__law_names : SM := (mSeq (mParX 2 3 (gDa (mCall (fun ds => nxM (m__law_word ds)) (mCons (mVar 0) (mCons (mCall (fun ds => nxM (m__law_of ds)) (mCons (mVar 0) (mCons (mLst (mCons (mC (.int 0)) (mCons (mC (.int 0)) (mCons (mC (.int 1)) (mCons (mC (.int 5)) mNil))))) mNil))) mNil)))) (gOw (mDisp mNil)))
  (mSeq (mFor (mSrc gRange1 (mCons (mVar 1) mNil)) (mgName 4) (mApp 3 (mOp gAdd (mVar 2) (mCall (fun ds => nxM (m__law_word ds)) (mCons (mVar 0) (mCons (mCall (fun ds => nxM (m__law_of ds)) (mCons (mVar 0) (mCons (mLst (mCons (mC (.int 1)) (mCons (mC (.int 1)) (mCons (mC (.int 2)) (mCons (mC (.int 3)) mNil))))) mNil))) mNil))))))
  (mRet (mBor 3 (mFrz (mCallO gSortedA (mCons (mCall gSet (mCons (mVar 3) mNil)) mNil)))))))
def m__law_names : List D → M D := fnM 2 5 mb__law_names
def mb_sum_from : SM := (mRet (mCall gSum (mCons (mCall (fun ds => nxM (m_people_ways ds)) (mCons (mVar 0) (mCons (mVar 1) (mCons (mVar 2) mNil)))) mNil)))
def m_sum_from : List D → M D := fnM 3 3 mb_sum_from
def mb_farthest_from : SM := (mRet (mMaxD (mCons (mCall (fun ds => nxM (m_people_ways ds)) (mCons (mVar 0) (mCons (mVar 1) (mCons (mVar 2) mNil)))) mNil) (mC (.int 0))))
def m_farthest_from : List D → M D := fnM 3 3 mb_farthest_from
def mb__law_land : SM := (mSeq (mParX 2 3 (gDa (mCall (fun ds => nxM (m__law_names ds)) (mCons (mVar 0) (mCons (mOp gAdd (mC (.int 1)) (mCall (fun ds => nxM (m__law_any ds)) (mCons (mVar 0) (mCons (mVar 1) mNil)))) mNil)))) (gOw (mDisp mNil)))
  (mSeq (mAsg (mTup (mCons (mSl (mVar 2) (mSomeP (mCall (fun ds => nxM (m__law_any ds)) (mCons (mVar 0) (mCons (mCall gLen (mCons (mVar 2) mNil)) mNil)))) mNoP) (mCons (mCall (fun ds => nxM (m__law_any ds)) (mCons (mVar 0) (mCons (mC (.int 3)) mNil))) mNil))) (mgTup 2 (mgCons (mgName 4) (mgCons (mgName 5) mgNil))))
  (mSeq (mAsg (mOp gAdd (mVar 4) (mFrz (mComp (mSeqOf (mVar 2)) (mgName 9) (mB (mOp gNotInA (mVar 9) (mVar 4))) (mVar 9) [9]))) (mgName 4))
  (mSeq (mFor (mSrc gRange2 (mCons (mC (.int 1)) (mCons (mCall gLen (mCons (mVar 4) mNil)) mNil))) (mgName 6) (mSeq (mAsg (mIf (mB (mOp gEq (mVar 5) (mC (.int 0)))) (mOp gIx (mVar 4) (mOp gSub (mVar 6) (mC (.int 1)))) (mOp gIx (mVar 4) (mCall (fun ds => nxM (m__law_any ds)) (mCons (mVar 0) (mCons (mVar 6) mNil))))) (mgName 7))
  (mSeq (mAsg (mOp gAdd (mC (.int 1)) (mOp gIx (mLst (mCons (mC (.int 0)) (mCons (mCall (fun ds => nxM (m__law_any ds)) (mCons (mVar 0) (mCons (mC (.int 3)) mNil))) (mCons (mCall (fun ds => nxM (m__law_any ds)) (mCons (mVar 0) (mCons (mC (.int 9)) mNil))) (mCons (mCall (fun ds => nxM (m__law_any ds)) (mCons (mVar 0) (mCons (mC (.int 50)) mNil))) (mCons (mCall (fun ds => nxM (m__law_any ds)) (mCons (mVar 0) (mCons (mC (.int 1000000)) mNil))) mNil)))))) (mCall (fun ds => nxM (m__law_any ds)) (mCons (mVar 0) (mCons (mC (.int 5)) mNil))))) (mgName 8))
  (mApp 3 (mTup (mCons (mCall gMinA (mCons (mVar 7) (mCons (mOp gIx (mVar 4) (mVar 6)) mNil))) (mCons (mCall gMaxA (mCons (mVar 7) (mCons (mOp gIx (mVar 4) (mVar 6)) mNil))) (mCons (mVar 8) mNil))))))))
  (mRet (mBor 3 (mTup (mCons (mVar 2) (mCons (mFrz (mCallO gSortedA (mCons (mVar 3) mNil))) mNil)))))))))
def m__law_land : List D → M D := fnM 2 10 mb__law_land
def mb__law_seats : SM := (mSeq (mSetO 3 (mDisp mNil))
  (mSeq (mFor (mSeqOf (mCall (fun ds => nxM (m__law_names ds)) (mCons (mVar 0) (mCons (mCall (fun ds => nxM (m__law_any ds)) (mCons (mVar 0) (mCons (mOp gAdd (mVar 2) (mC (.int 1))) mNil))) mNil)))) (mgName 4) (mSeq (mAsg (mOp gIx (mLst (mCons (mC (.int 0)) (mCons (mC (.int 0)) (mCons (mCall (fun ds => nxM (m__law_any ds)) (mCons (mVar 0) (mCons (mC (.int 4)) mNil))) (mCons (mCall (fun ds => nxM (m__law_any ds)) (mCons (mVar 0) (mCons (mC (.int 12)) mNil))) (mCons (mCall (fun ds => nxM (m__law_any ds)) (mCons (mVar 0) (mCons (mC (.int 40)) mNil))) (mCons (mCall (fun ds => nxM (m__law_any ds)) (mCons (mVar 0) (mCons (mC (.int 1000001)) mNil))) mNil))))))) (mCall (fun ds => nxM (m__law_any ds)) (mCons (mVar 0) (mCons (mC (.int 6)) mNil)))) (mgName 5))
  (mApp 3 (mTup (mCons (mVar 4) (mCons (mCall (fun ds => nxM (m__law_of ds)) (mCons (mVar 0) (mCons (mVar 1) mNil))) (mCons (mVar 5) mNil)))))))
  (mRet (mBor 3 (mCall gTuple (mCons (mVar 3) mNil))))))
def m__law_seats : List D → M D := fnM 3 6 mb__law_seats
def mb_middles : SM := (mRet (mCall (fun ds => nxM (m_least_places ds)) (mCons (mVar 0) (mCons (mFrz (mComp (mSeqOf (mUn (gFld [c_Roads] "places") (mVar 0))) (mgName 2) mYes (mCall (fun ds => nxM (m_sum_from ds)) (mCons (mVar 0) (mCons (mVar 1) (mCons (mVar 2) mNil)))) [2])) mNil))))
def m_middles : List D → M D := fnM 2 3 mb_middles
def mb_centres : SM := (mRet (mCall (fun ds => nxM (m_least_places ds)) (mCons (mVar 0) (mCons (mFrz (mComp (mSeqOf (mUn (gFld [c_Roads] "places") (mVar 0))) (mgName 2) mYes (mCall (fun ds => nxM (m_farthest_from ds)) (mCons (mVar 0) (mCons (mVar 1) (mCons (mVar 2) mNil)))) [2])) mNil))))
def m_centres : List D → M D := fnM 2 3 mb_centres
def mb_law : SM := (mSeq (mAsg (mCall (fun ds => nxM (m__law_land ds)) (mCons (mVar 1) (mCons (mC (.int 9)) mNil))) (mgTup 2 (mgCons (mgName 2) (mgCons (mgName 3) mgNil))))
  (mSeq (mAsg (mTup (mCons (mMk c_Roads ["places", "lines"] (mCons (mCall gTuple (mCons (mVar 2) mNil)) (mCons (mCall gTuple (mCons (mVar 3) mNil)) mNil))) (mCons (mCall (fun ds => nxM (m__law_ways ds)) (mCons (mVar 2) (mCons (mVar 3) mNil))) mNil))) (mgTup 2 (mgCons (mgName 4) (mgCons (mgName 5) mgNil))))
  (mSeq (mAsg (mCall (fun ds => nxM (m__law_seats ds)) (mCons (mVar 1) (mCons (mVar 2) (mCons (mC (.int 8)) mNil)))) (mgName 6))
  (mSeq (mSetD 7 (mDPairs (mCons (mFrz (mComp (mSeqOf (mVar 2)) (mgName 11) mYes (mTup (mCons (mVar 11) (mCons (mCall gSum (mCons (mFrz (mComp (mSeqOf (mVar 6)) (mgName 17) mYes (mTIx (mVar 5) (mCons (mVar 11) (mCons (mOp gIx (mVar 17) (mC (.int 1))) mNil))) [17])) mNil)) mNil))) [11])) mNil)))
  (mSeq (mSetD 8 (mDPairs (mCons (mFrz (mComp (mSeqOf (mVar 2)) (mgName 11) mYes (mTup (mCons (mVar 11) (mCons (mMaxD (mCons (mFrz (mComp (mSeqOf (mVar 6)) (mgName 17) mYes (mTIx (mVar 5) (mCons (mVar 11) (mCons (mOp gIx (mVar 17) (mC (.int 1))) mNil))) [17])) mNil) (mC (.int 0))) mNil))) [11])) mNil)))
  (mSeq (mAsg (mFrz (mComp (mSeqOf (mVar 2)) (mgName 11) (mB (mOp gEq (mDGet 7 (mVar 11)) (mCall gMin (mCons (mFrz (mComp (mSeqOf (mVar 2)) (mgName 14) mYes (mDGet 7 (mVar 14)) [14])) mNil)))) (mVar 11) [11])) (mgName 9))
  (mSeq (mAsg (mFrz (mComp (mSeqOf (mVar 2)) (mgName 11) (mB (mOp gEq (mDGet 8 (mVar 11)) (mCall gMin (mCons (mFrz (mComp (mSeqOf (mVar 2)) (mgName 14) mYes (mDGet 8 (mVar 14)) [14])) mNil)))) (mVar 11) [11])) (mgName 10))
  (mSeq (mIfS (mB (mOp gNe (mCall gRepr (mCons (mCall (fun ds => nxM (m_middles (FL.pick [0, 1] ds))) (mCons (mVar 4) (mCons (mVar 6) mNil))) mNil)) (mCall gRepr (mCons (mCall gTuple (mCons (mVar 9) mNil)) mNil)))) (mRet (mC (.bl false))) mNext)
  (mSeq (mIfS (mB (mOp gNe (mCall gRepr (mCons (mCall (fun ds => nxM (m_centres (FL.pick [0, 1] ds))) (mCons (mVar 4) (mCons (mVar 6) mNil))) mNil)) (mCall gRepr (mCons (mCall gTuple (mCons (mVar 10) mNil)) mNil)))) (mRet (mC (.bl false))) mNext)
  (mSeq (mFor (mSeqOf (mVar 2)) (mgName 11) (mSeq (mIfS (mB (mOp gNe (mCall gRepr (mCons (mCall (fun ds => nxM (m_sum_from (FL.pick [0, 1, 2] ds))) (mCons (mVar 4) (mCons (mVar 6) (mCons (mVar 11) mNil)))) mNil)) (mCall gRepr (mCons (mDGet 7 (mVar 11)) mNil)))) (mRet (mC (.bl false))) mNext)
  (mSeq (mIfS (mB (mOp gNe (mCall gRepr (mCons (mCall (fun ds => nxM (m_farthest_from (FL.pick [0, 1, 2] ds))) (mCons (mVar 4) (mCons (mVar 6) (mCons (mVar 11) mNil)))) mNil)) (mCall gRepr (mCons (mDGet 8 (mVar 11)) mNil)))) (mRet (mC (.bl false))) mNext)
  (mSeq (mAsg (mFrz (mCallO gSortedA (mCons (mOp gAdd (mFrz (mComp (mSeqOf (mVar 3)) (mgTup 3 (mgCons (mgName 14) (mgCons (mgName 16) (mgCons (mgName 18) mgNil)))) (mB (mOp gEq (mVar 16) (mVar 11))) (mVar 14) [14, 16, 18])) (mFrz (mComp (mSeqOf (mVar 3)) (mgTup 3 (mgCons (mgName 14) (mgCons (mgName 16) (mgCons (mgName 18) mgNil)))) (mB (mOp gEq (mVar 14) (mVar 11))) (mVar 16) [14, 16, 18]))) mNil))) (mgName 12))
  (mSeq (mSetO 13 (mDisp mNil))
  (mSeq (mFor (mSeqOf (mVar 12)) (mgName 14) (mSeq (mAsg (mFrz (mComp (mSeqOf (mVar 6)) (mgName 17) (mB (mOp gEq (mOp gAdd (mTIx (mVar 5) (mCons (mVar 11) (mCons (mVar 14) mNil))) (mTIx (mVar 5) (mCons (mVar 14) (mCons (mOp gIx (mVar 17) (mC (.int 1))) mNil)))) (mTIx (mVar 5) (mCons (mVar 11) (mCons (mOp gIx (mVar 17) (mC (.int 1))) mNil))))) (mVar 17) [17])) (mgName 15))
  (mApp 13 (mTup (mCons (mVar 14) (mCons (mCall gLen (mCons (mVar 15) mNil)) mNil))))))
  (mSeq (mIfS (mBorT 13 (mB (mOp gNe (mCall gRepr (mCons (mCall (fun ds => nxM (m_branch_counts (FL.pick [0, 1, 2] ds))) (mCons (mVar 4) (mCons (mVar 6) (mCons (mVar 11) mNil)))) mNil)) (mCall gRepr (mCons (mCall gTuple (mCons (mVar 13) mNil)) mNil))))) (mRet (mC (.bl false))) mNext)
  (mSeq (mIfS (mBorT 13 (mB (mOp gNe (mOp gInA (mVar 11) (mVar 9)) (mOp gEq (mFrz (mComp (mSeqOf (mVar 13)) (mgTup 2 (mgCons (mgName 14) (mgCons (mgName 19) mgNil))) (mB (mOp gGt (mOp gMulW (mC (.int 2)) (mVar 19)) (mCall gLen (mCons (mVar 6) mNil)))) (mVar 14) [14, 19])) (mLst mNil))))) (mRet (mC (.bl false))) mNext)
  (mSeq (mIfS (mB (mOp gNe (mOp gInA (mVar 11) (mVar 9)) (mOp gEq (mFrz (mComp (mSeqOf (mVar 12)) (mgName 14) (mB (mOp gLt (mDGet 7 (mVar 14)) (mDGet 7 (mVar 11)))) (mVar 14) [14])) (mLst mNil)))) (mRet (mC (.bl false))) mNext)
  (mSeq (mIfS (mB (mOp gNe (mOp gInA (mVar 11) (mVar 10)) (mOp gEq (mFrz (mComp (mSeqOf (mVar 12)) (mgName 14) (mB (mOp gLt (mDGet 8 (mVar 14)) (mDGet 8 (mVar 11)))) (mVar 14) [14])) (mLst mNil)))) (mRet (mC (.bl false))) mNext)
  (mFor (mSeqOf (mVar 9)) (mgName 14) (mFor (mSeqOf (mVar 9)) (mgName 16) (mIfS (mAndT (mB (mOp gEq (mOp gAdd (mTIx (mVar 5) (mCons (mVar 14) (mCons (mVar 11) mNil))) (mTIx (mVar 5) (mCons (mVar 11) (mCons (mVar 16) mNil)))) (mTIx (mVar 5) (mCons (mVar 14) (mCons (mVar 16) mNil))))) (mB (mOp gNotInA (mVar 11) (mVar 9)))) (mRet (mC (.bl false))) mNext)))))))))))))
  (mRet (mC (.bl true)))))))))))))
/-! ### the walks -/
section
variable {P : Program} {w : World} {K : PySem.W.Frag} {T : List (Addr × Str)} {mg : Str → Option Value} {base : Heap}
theorem mak_Roads (t : Txt P K mg) : C8.Mak P w K mg base 1 "Roads" c_Roads (spI c_Roads ["places", "lines"]) [] := mak_of t.C_Roads t.M_Roads sci_Roads (by decide) (by decide) fun f cdv A outer s H E => (pss_cons (ps_init 1 t.C_Roads.cl (t.C_Roads.no _ (.head _))) (pss_cons (ps_init 2 t.C_Roads.cl (t.C_Roads.no _ (.tail _ (.head _)))) pss_nil))
theorem ok_next_to (t : Txt P K mg) : FnG P w K T mg base 1 t.f_next_to t.d_next_to ["roads", "place"] m_next_to := by
  unfold m_next_to
  refine ok_def t.F_next_to sc_next_to fun cdv A outer s H E on dl cl B hr gd => ?_
  exact (b_cons (s_lc rfl sc_next_to.nd (i := 2) (sw_true rfl rfl rfl (by decide +kernel)) (i_seq (e_fld [c_Roads] (cs_cons (t.C_Roads.fl (.tail _ (.head _))) cs_nil) (e_var 0))) (own := [("one", 3), ("other", 4), ("length", 5)]) (blk_by rfl) (by decide) (fun _ _ _ _ _ => (g_tup rfl (gs_cons (g_name (i := 3) sc_next_to.nd) (gs_cons (g_name (i := 4) sc_next_to.nd) (gs_cons (g_name (i := 5) sc_next_to.nd) gs_nil))))) (fun _ _ _ _ _ => (ts_one (t_cmp (s_eq (u64 hr)) (e_var 3) (e_var 1)))) (fun _ _ _ _ _ => (e_tup (a_cons (e_var 4) (a_cons (e_var 5) a_nil)))))
    (b_one (s_ret (e_frz (o_blt (T := "sorted") (c_sortedA (u80 hr)) (by rfl) t.z_sorted bt_sorted (a_cons (e_op s_add (e_var 2) (e_frz (o_comp rfl sc_next_to.nd (i_seq (e_fld [c_Roads] (cs_cons (t.C_Roads.fl (.tail _ (.head _))) cs_nil) (e_var 0))) (own := [("one", 3), ("other", 4), ("length", 5)]) (blk_by rfl) (by decide) (fun _ _ _ _ _ => (g_tup rfl (gs_cons (g_name (i := 3) sc_next_to.nd) (gs_cons (g_name (i := 4) sc_next_to.nd) (gs_cons (g_name (i := 5) sc_next_to.nd) gs_nil))))) (fun _ _ _ _ _ => (ts_one (t_cmp (s_eq (u64 hr)) (e_var 4) (e_var 1)))) (fun _ _ _ _ _ => (e_tup (a_cons (e_var 3) (a_cons (e_var 5) a_nil))))))) a_nil))))))
theorem ok_least_places (t : Txt P K mg) : FnG P w K T mg base 1 t.f_least_places t.d_least_places ["roads", "numbers"] m_least_places := by
  unfold m_least_places
  refine ok_def t.F_least_places sc_least_places fun cdv A outer s H E on dl cl B hr gd => ?_
  exact (b_one (s_ret (e_ty (T := "tuple") c_tuple (by rfl) t.z_tuple bt_tuple (a_cons (e_frz (o_comp rfl sc_least_places.nd (i_zipS2 (by rfl) t.z_zip (a_cons (e_fld [c_Roads] (cs_cons (t.C_Roads.fl (.head _)) cs_nil) (e_var 0)) (a_cons (e_var 1) a_nil))) (own := [("place", 2), ("number", 3)]) (blk_by rfl) (by decide) (fun _ _ _ _ _ => (g_tup rfl (gs_cons (g_name (i := 2) sc_least_places.nd) (gs_cons (g_name (i := 3) sc_least_places.nd) gs_nil)))) (fun _ _ _ _ _ => (ts_one (t_cmp (s_eq (u64 hr)) (e_var 3) (e_blt (id := "min") c_min (by rfl) t.z_min bt_min (a_cons (e_var 1) a_nil))))) (fun _ _ _ _ _ => (e_var 2)))) a_nil))))
theorem ok__law_deal (t : Txt P K mg) : FnG P w K T mg base 1 t.f__law_deal t.d__law_deal ["_law_script", "_law_base"] m__law_deal := by
  unfold m__law_deal
  refine ok_def t.F__law_deal sc__law_deal fun cdv A outer s H E on dl cl B hr gd => ?_
  exact (b_cons (s_lc rfl sc__law_deal.nd (i := 2) (sw_true rfl rfl rfl (by decide +kernel)) (i_seq (e_sl (e_var 0) p_none (p_some (e_int)))) (own := [("_law_cell", 4)]) (blk_by rfl) (by decide) (fun _ _ _ _ _ => (g_name (i := 4) sc__law_deal.nd)) (fun _ _ _ _ _ => ts_nil) (fun _ _ _ _ _ => (e_blt (id := "abs") c_abs (by rfl) t.z_abs bt_abs (a_cons (e_ty (T := "int") c_int (by rfl) t.z_int bt_int (a_cons (e_var 4) a_nil)) a_nil))))
    (b_cons (s_set (i := 3) sc__law_deal.nd (e_op s_add (e_op s_mulW (e_int) (e_var 1)) (e_int)))
    (b_cons (s_for PassesOwn.never rfl (i_seq (e_var 2)) (g_name (i := 4) sc__law_deal.nd) (b_one (s_set (i := 3) sc__law_deal.nd (e_op s_mod (e_ty (T := "int") c_int (by rfl) t.z_int bt_int (a_cons (e_op s_add (e_op s_add (e_op s_mulW (e_var 3) (e_int)) (e_op s_mod (e_var 4) (e_int))) (e_int)) a_nil)) (e_int)))))
    (b_one (s_ret (e_lst (a_cons (e_rev (e_frz (o_comp rfl sc__law_deal.nd (i_seq (e_var 2)) (own := [("_law_cell", 4)]) (blk_by rfl) (by decide) (fun _ _ _ _ _ => (g_name (i := 4) sc__law_deal.nd)) (fun _ _ _ _ _ => (ts_one (t_cmp s_ge (e_var 4) (e_op s_pow (e_int) (e_int))))) (fun _ _ _ _ _ => (e_var 4))))) (a_cons (e_var 3) a_nil))))))))
theorem ok__law_any (t : Txt P K mg) : FnG P w K T mg base 1 t.f__law_any t.d__law_any ["_law_deal_here", "_law_bound"] m__law_any := by
  refine any_fn 83 t.F__law_any sc__law_any fun cdv A outs s H E hr => ?_
  exact pss_cons (ps_while PassesOwn.never (pw_and (pt_cmpR (op_neD (u64 hr)) (pe_ix ix_seq (pv 0) pe_int (fun _ _ => rfl)) (pe_lst pa_nil) (by first | exact nomark _ | rfl)) (pw_and1 (pt_cmpR (op_eqD (u64 hr)) (pe_ix ix_seq (pe_ix ix_seq (pv 0) pe_int (fun _ _ => rfl)) (pe_un un_neg pe_int) (fun _ _ => rfl)) pe_int (by first | exact nomark _ | rfl)))).pt
      (pss_one (ps_expr (pe_bm0 PySem.F.plainAttrs_list PySem.F.slot_list_pop PySem.F.type_list_pop mt_pop (pe_ix ix_seq (pv 0) pe_int (fun _ _ => rfl))))))
    (pss_cons (ps_if (pt_cmpR (op_neD (u64 hr)) (pe_ix ix_seq (pv 0) pe_int (fun _ _ => rfl)) (pe_lst pa_nil) (by first | exact nomark _ | rfl))
      (pss_cons (ps_set (i := 2) sc__law_any.nd rfl (.inl rfl) (pe_callTy call_int1 (by rfl) t.z_int bt_int (pa_cons (pe_bm0 PySem.F.plainAttrs_list PySem.F.slot_list_pop PySem.F.type_list_pop mt_pop (pe_ix ix_seq (pv 0) pe_int (fun _ _ => rfl))) pa_nil)))
        (pss_cons (ps_expr (pe_bm PySem.F.plainAttrs_list PySem.F.slot_list_append PySem.F.type_list_append mt_append (pe_ix ix_seq (pv 0) pe_int (fun _ _ => rfl)) (pa_cons (pe_op op_fdivW (pv 2) (pv 1)) pa_nil)))
          (pss_one (ps_ret (pe_op op_mod (pv 2) (pv 1)))))) pss_nil)
    (pss_cons (ps_asg (pe_op op_mod (pe_callTy call_int1 (by rfl) t.z_int bt_int (pa_cons (pe_op op_add (pe_op op_mul (pe_ix ix_seq (pv 0) pe_int (fun _ _ => rfl)) pe_int) pe_int) pa_nil)) pe_int) (pg_sub (pv 0) pe_int set_list))
      (pss_one (ps_ret (pe_op op_mod (pe_callTy call_int1 (by rfl) t.z_int bt_int (pa_cons (pe_op op_fdiv (pe_ix ix_seq (pv 0) pe_int (fun _ _ => rfl)) pe_int) pa_nil)) (pv 1))))))
theorem ok__law_ways (t : Txt P K mg) : FnG P w K T mg base 1 t.f__law_ways t.d__law_ways ["_law_places", "_law_lines"] m__law_ways := by
  unfold m__law_ways
  refine ok_def t.F__law_ways sc__law_ways fun cdv A outer s H E on dl cl B hr gd => ?_
  exact (b_cons (s_setT (i := 2) sc__law_ways.nd ot_new)
    (b_cons (s_for PassesOwn.never rfl (i_seq (e_var 0)) (g_name (i := 3) sc__law_ways.nd) (b_one (s_for PassesOwn.never rfl (i_seq (e_var 0)) (g_name (i := 4) sc__law_ways.nd) (b_one (s_tput 2 (u80 hr) (e_if (t_cmp (s_eq (u64 hr)) (e_var 3) (e_var 4)) (e_int) (e_op s_pow (e_int) (e_int))) (a_cons (e_var 3) (a_cons (e_var 4) a_nil)))))))
    (b_cons (s_for PassesOwn.never rfl (i_seq (e_var 1)) (g_tup rfl (gs_cons (g_name (i := 3) sc__law_ways.nd) (gs_cons (g_name (i := 4) sc__law_ways.nd) (gs_cons (g_name (i := 5) sc__law_ways.nd) gs_nil)))) (b_cons (s_tput 2 (u80 hr) (e_var 5) (a_cons (e_var 3) (a_cons (e_var 4) a_nil)))
    (b_one (s_tput 2 (u80 hr) (e_var 5) (a_cons (e_var 4) (a_cons (e_var 3) a_nil))))))
    (b_cons (s_for PassesOwn.never rfl (i_seq (e_var 0)) (g_name (i := 6) sc__law_ways.nd) (b_one (s_for PassesOwn.never rfl (i_seq (e_var 0)) (g_name (i := 3) sc__law_ways.nd) (b_one (s_for PassesOwn.never rfl (i_seq (e_var 0)) (g_name (i := 4) sc__law_ways.nd) (b_one (s_tput 2 (u80 hr) (e_blt (id := "min") (c_minA (u80 hr)) (by rfl) t.z_min bt_min (a_cons (e_tget 2 (u80 hr) (a_cons (e_var 3) (a_cons (e_var 4) a_nil))) (a_cons (e_op s_add (e_tget 2 (u80 hr) (a_cons (e_var 3) (a_cons (e_var 6) a_nil))) (e_tget 2 (u80 hr) (a_cons (e_var 6) (a_cons (e_var 4) a_nil)))) a_nil))) (a_cons (e_var 3) (a_cons (e_var 4) a_nil)))))))))
    (b_one (s_frzT 2 (s_ret (e_var 2))))))))
theorem ok_ways_from (t : Txt P K mg) : FnG P w K T mg base 2 t.f_ways_from t.d_ways_from ["roads", "place"] m_ways_from := by
  unfold m_ways_from
  refine ok_def t.F_ways_from sc_ways_from fun cdv A outer s H E on dl cl B hr gd => ?_
  exact (b_cons (s_asg2X (i := 2) (j := 3) rfl sc_ways_from.nd (.di (od_one (e_var 1) (e_int))) (.ow (o_lst (a_cons (e_var 1) a_nil))))
    (b_cons (s_while 1000 PassesOwn.never (t_bor 3 fun B => (t_cmp (s_ne (u64 hr)) (e_var 3) (e_lst a_nil))) (b_cons (s_setPop 4 3 sc_ways_from.nd)
    (b_one (s_for PassesOwn.never rfl (i_seq (e_call (ok_next_to t) (hr.mono (by decide)) gd (by rfl) t.g_next_to t.F_next_to.kp t.b_next_to (a_cons (e_var 0) (a_cons (e_var 4) a_nil)))) (g_tup rfl (gs_cons (g_name (i := 5) sc_ways_from.nd) (gs_cons (g_name (i := 6) sc_ways_from.nd) gs_nil))) (b_one (s_if (t_dnotin 2 (u80 hr) (e_var 5)) (b_cons (s_dput 2 (u80 hr) (e_op s_add (e_dget 2 (u80 hr) (e_var 4)) (e_var 6)) (e_var 5))
    (b_one (s_app 3 (e_var 5)))) b_nil))))))
    (b_one (s_ret (e_ty (T := "tuple") c_tuple (by rfl) t.z_tuple bt_tuple (a_cons (e_frz (o_comp rfl sc_ways_from.nd (i_seq (e_fld [c_Roads] (cs_cons (t.C_Roads.fl (.head _)) cs_nil) (e_var 0))) (own := [("one", 7)]) (blk_by rfl) (by decide) (fun _ _ _ _ _ => (g_name (i := 7) sc_ways_from.nd)) (fun _ _ _ _ _ => ts_nil) (fun _ _ _ _ _ => (e_dget 2 (u80 hr) (e_var 7))))) a_nil))))))
theorem ok__law_of (t : Txt P K mg) : FnG P w K T mg base 2 t.f__law_of t.d__law_of ["_law_deal_here", "_law_some"] m__law_of := by
  unfold m__law_of
  refine ok_def t.F__law_of sc__law_of fun cdv A outer s H E on dl cl B hr gd => ?_
  exact (b_one (s_ret (e_ix (e_var 1) (e_call (ok__law_any t) (hr.mono (by decide)) gd (by rfl) t.g__law_any t.F__law_any.kp t.b__law_any (a_cons (e_var 0) (a_cons (e_blt (id := "len") c_len (by rfl) t.z_len bt_len (a_cons (e_var 1) a_nil)) a_nil))))))
theorem ok_branches (t : Txt P K mg) : FnG P w K T mg base 3 t.f_branches t.d_branches ["roads", "place"] m_branches := by
  unfold m_branches
  refine ok_def t.F_branches sc_branches fun cdv A outer s H E on dl cl B hr gd => ?_
  exact (b_cons (s_parX (i := 2) (j := 3) rfl sc_branches.nd (.da (e_call (ok_ways_from t) (hr.mono (by decide)) gd (by rfl) t.g_ways_from t.F_ways_from.kp t.b_ways_from (a_cons (e_var 0) (a_cons (e_var 1) a_nil)))) (.ow (o_lst a_nil)) (by decide))
    (b_cons (s_for PassesOwn.never rfl (i_seq (e_call (ok_next_to t) (hr.mono (by decide)) gd (by rfl) t.g_next_to t.F_next_to.kp t.b_next_to (a_cons (e_var 0) (a_cons (e_var 1) a_nil)))) (g_tup rfl (gs_cons (g_name (i := 4) sc_branches.nd) (gs_cons (g_name (i := 5) sc_branches.nd) gs_nil))) (b_cons (s_set (i := 6) sc_branches.nd (e_call (ok_ways_from t) (hr.mono (by decide)) gd (by rfl) t.g_ways_from t.F_ways_from.kp t.b_ways_from (a_cons (e_var 0) (a_cons (e_var 4) a_nil))))
    (b_one (s_app 3 (e_tup (a_cons (e_var 4) (a_cons (e_ty (T := "tuple") c_tuple (by rfl) t.z_tuple bt_tuple (a_cons (e_frz (o_comp rfl sc_branches.nd (i_zipS3 (by rfl) t.z_zip (a_cons (e_fld [c_Roads] (cs_cons (t.C_Roads.fl (.head _)) cs_nil) (e_var 0)) (a_cons (e_var 2) (a_cons (e_var 6) a_nil)))) (own := [("one", 7), ("near", 8), ("far", 9)]) (blk_by rfl) (by decide) (fun _ _ _ _ _ => (g_tup rfl (gs_cons (g_name (i := 7) sc_branches.nd) (gs_cons (g_name (i := 8) sc_branches.nd) (gs_cons (g_name (i := 9) sc_branches.nd) gs_nil))))) (fun _ _ _ _ _ => (ts_one (t_cmp s_lt (e_var 9) (e_var 8)))) (fun _ _ _ _ _ => (e_var 7)))) a_nil)) a_nil)))))))
    (b_one (s_ret (e_bor 3 fun B => (e_ty (T := "tuple") c_tuple (by rfl) t.z_tuple bt_tuple (a_cons (e_var 3) a_nil)))))))
theorem ok_ways_by_place (t : Txt P K mg) : FnG P w K T mg base 3 t.f_ways_by_place t.d_ways_by_place ["roads", "place"] m_ways_by_place := by
  unfold m_ways_by_place
  refine ok_def t.F_ways_by_place sc_ways_by_place fun cdv A outer s H E on dl cl B hr gd => ?_
  exact (b_one (s_ret (e_frzOD (od_zip (by rfl) t.z_dict (by rfl) t.z_zip (a_cons (e_fld [c_Roads] (cs_cons (t.C_Roads.fl (.head _)) cs_nil) (e_var 0)) (a_cons (e_call (ok_ways_from t) (hr.mono (by decide)) gd (by rfl) t.g_ways_from t.F_ways_from.kp t.b_ways_from (a_cons (e_var 0) (a_cons (e_var 1) a_nil))) a_nil))))))
theorem ok__law_word (t : Txt P K mg) : FnG P w K T mg base 3 t.f__law_word t.d__law_word ["_law_deal_here", "_law_size"] m__law_word := by
  unfold m__law_word
  refine ok_def t.F__law_word sc__law_word fun cdv A outer s H E on dl cl B hr gd => ?_
  exact (b_cons (s_set (i := 2) sc__law_word.nd (e_str))
    (b_cons (s_for PassesOwn.never rfl (i_range1 (by rfl) t.z_range (a_cons (e_var 1) a_nil)) (g_name (i := 3) sc__law_word.nd) (b_one (s_set (i := 2) sc__law_word.nd (e_op s_add (e_var 2) (e_call (ok__law_of t) (hr.mono (by decide)) gd (by rfl) t.g__law_of t.F__law_of.kp t.b__law_of (a_cons (e_var 0) (a_cons (e_frz (o_ty (T := "list") c_listA (by rfl) t.z_list bt_list (a_cons (e_str) a_nil))) a_nil)))))))
    (b_one (s_ret (e_var 2)))))
theorem ok_people_ways (t : Txt P K mg) : FnG P w K T mg base 4 t.f_people_ways t.d_people_ways ["roads", "people", "place"] m_people_ways := by
  unfold m_people_ways
  refine ok_def t.F_people_ways sc_people_ways fun cdv A outer s H E on dl cl B hr gd => ?_
  exact (b_cons (s_set (i := 3) sc_people_ways.nd (e_call (ok_ways_by_place t) (hr.mono (by decide)) gd (by rfl) t.g_ways_by_place t.F_ways_by_place.kp t.b_ways_by_place (a_cons (e_var 0) (a_cons (e_var 2) a_nil))))
    (b_one (s_ret (e_frz (o_comp rfl sc_people_ways.nd (i_seq (e_var 1)) (own := [("name", 4), ("there", 5), ("reach", 6)]) (blk_by rfl) (by decide) (fun _ _ _ _ _ => (g_tup rfl (gs_cons (g_name (i := 4) sc_people_ways.nd) (gs_cons (g_name (i := 5) sc_people_ways.nd) (gs_cons (g_name (i := 6) sc_people_ways.nd) gs_nil))))) (fun _ _ _ _ _ => ts_nil) (fun _ _ _ _ _ => (e_dix (u80 hr) (e_var 3) (e_var 5))))))))
theorem ok_branch_counts (t : Txt P K mg) : FnG P w K T mg base 4 t.f_branch_counts t.d_branch_counts ["roads", "people", "place"] m_branch_counts := by
  unfold m_branch_counts
  refine ok_def t.F_branch_counts sc_branch_counts fun cdv A outer s H E on dl cl B hr gd => ?_
  exact (b_cons (s_setO (i := 3) sc_branch_counts.nd (o_lst a_nil))
    (b_cons (s_for PassesOwn.never rfl (i_seq (e_call (ok_branches t) (hr.mono (by decide)) gd (by rfl) t.g_branches t.F_branches.kp t.b_branches (a_cons (e_var 0) (a_cons (e_var 2) a_nil)))) (g_tup rfl (gs_cons (g_name (i := 4) sc_branch_counts.nd) (gs_cons (g_name (i := 5) sc_branch_counts.nd) gs_nil))) (b_one (s_app 3 (e_tup (a_cons (e_var 4) (a_cons (e_blt (id := "len") c_len (by rfl) t.z_len bt_len (a_cons (e_frz (o_comp rfl sc_branch_counts.nd (i_seq (e_var 1)) (own := [("name", 6), ("spot", 7), ("reach", 8)]) (blk_by rfl) (by decide) (fun _ _ _ _ _ => (g_tup rfl (gs_cons (g_name (i := 6) sc_branch_counts.nd) (gs_cons (g_name (i := 7) sc_branch_counts.nd) (gs_cons (g_name (i := 8) sc_branch_counts.nd) gs_nil))))) (fun _ _ _ _ _ => (ts_one (t_cmp (s_inA (u80 hr)) (e_var 7) (e_var 5)))) (fun _ _ _ _ _ => (e_var 6)))) a_nil)) a_nil))))))
    (b_one (s_ret (e_bor 3 fun B => (e_ty (T := "tuple") c_tuple (by rfl) t.z_tuple bt_tuple (a_cons (e_var 3) a_nil)))))))
theorem ok__law_names (t : Txt P K mg) : FnG P w K T mg base 4 t.f__law_names t.d__law_names ["_law_deal_here", "_law_many"] m__law_names := by
  unfold m__law_names
  refine ok_def t.F__law_names sc__law_names fun cdv A outer s H E on dl cl B hr gd => ?_
  exact (b_cons (s_parX (i := 2) (j := 3) rfl sc__law_names.nd (.da (e_call (ok__law_word t) (hr.mono (by decide)) gd (by rfl) t.g__law_word t.F__law_word.kp t.b__law_word (a_cons (e_var 0) (a_cons (e_call (ok__law_of t) (hr.mono (by decide)) gd (by rfl) t.g__law_of t.F__law_of.kp t.b__law_of (a_cons (e_var 0) (a_cons (e_lst (a_cons (e_int) (a_cons (e_int) (a_cons (e_int) (a_cons (e_int) a_nil))))) a_nil))) a_nil)))) (.ow (o_lst a_nil)) (by decide))
    (b_cons (s_for PassesOwn.never rfl (i_range1 (by rfl) t.z_range (a_cons (e_var 1) a_nil)) (g_name (i := 4) sc__law_names.nd) (b_one (s_app 3 (e_op s_add (e_var 2) (e_call (ok__law_word t) (hr.mono (by decide)) gd (by rfl) t.g__law_word t.F__law_word.kp t.b__law_word (a_cons (e_var 0) (a_cons (e_call (ok__law_of t) (hr.mono (by decide)) gd (by rfl) t.g__law_of t.F__law_of.kp t.b__law_of (a_cons (e_var 0) (a_cons (e_lst (a_cons (e_int) (a_cons (e_int) (a_cons (e_int) (a_cons (e_int) a_nil))))) a_nil))) a_nil)))))))
    (b_one (s_ret (e_bor 3 fun B => (e_frz (o_blt (T := "sorted") (c_sortedA (u80 hr)) (by rfl) t.z_sorted bt_sorted (a_cons (e_ty (T := "set") c_set (by rfl) t.z_set bt_set (a_cons (e_var 3) a_nil)) a_nil))))))))
theorem ok_sum_from (t : Txt P K mg) : FnG P w K T mg base 5 t.f_sum_from t.d_sum_from ["roads", "people", "place"] m_sum_from := by
  unfold m_sum_from
  refine ok_def t.F_sum_from sc_sum_from fun cdv A outer s H E on dl cl B hr gd => ?_
  exact (b_one (s_ret (e_blt (id := "sum") c_sum (by rfl) t.z_sum bt_sum (a_cons (e_call (ok_people_ways t) (hr.mono (by decide)) gd (by rfl) t.g_people_ways t.F_people_ways.kp t.b_people_ways (a_cons (e_var 0) (a_cons (e_var 1) (a_cons (e_var 2) a_nil)))) a_nil))))
theorem ok_farthest_from (t : Txt P K mg) : FnG P w K T mg base 5 t.f_farthest_from t.d_farthest_from ["roads", "people", "place"] m_farthest_from := by
  unfold m_farthest_from
  refine ok_def t.F_farthest_from sc_farthest_from fun cdv A outer s H E on dl cl B hr gd => ?_
  exact (b_one (s_ret (e_maxD (u80 hr) rfl (by rfl) t.z_max (a_cons (e_call (ok_people_ways t) (hr.mono (by decide)) gd (by rfl) t.g_people_ways t.F_people_ways.kp t.b_people_ways (a_cons (e_var 0) (a_cons (e_var 1) (a_cons (e_var 2) a_nil)))) a_nil) (e_int))))
theorem ok__law_land (t : Txt P K mg) : FnG P w K T mg base 5 t.f__law_land t.d__law_land ["_law_deal_here", "_law_most"] m__law_land := by
  unfold m__law_land
  refine ok_def t.F__law_land sc__law_land fun cdv A outer s H E on dl cl B hr gd => ?_
  exact (b_cons (s_parX (i := 2) (j := 3) rfl sc__law_land.nd (.da (e_call (ok__law_names t) (hr.mono (by decide)) gd (by rfl) t.g__law_names t.F__law_names.kp t.b__law_names (a_cons (e_var 0) (a_cons (e_op s_add (e_int) (e_call (ok__law_any t) (hr.mono (by decide)) gd (by rfl) t.g__law_any t.F__law_any.kp t.b__law_any (a_cons (e_var 0) (a_cons (e_var 1) a_nil)))) a_nil)))) (.ow (o_lst a_nil)) (by decide))
    (b_cons (s_asg (e_tup (a_cons (e_sl (e_var 2) (p_some (e_call (ok__law_any t) (hr.mono (by decide)) gd (by rfl) t.g__law_any t.F__law_any.kp t.b__law_any (a_cons (e_var 0) (a_cons (e_blt (id := "len") c_len (by rfl) t.z_len bt_len (a_cons (e_var 2) a_nil)) a_nil)))) p_none) (a_cons (e_call (ok__law_any t) (hr.mono (by decide)) gd (by rfl) t.g__law_any t.F__law_any.kp t.b__law_any (a_cons (e_var 0) (a_cons (e_int) a_nil))) a_nil))) (g_tup rfl (gs_cons (g_name (i := 4) sc__law_land.nd) (gs_cons (g_name (i := 5) sc__law_land.nd) gs_nil))))
    (b_cons (s_set (i := 4) sc__law_land.nd (e_op s_add (e_var 4) (e_frz (o_comp rfl sc__law_land.nd (i_seq (e_var 2)) (own := [("_law_place", 9)]) (blk_by rfl) (by decide) (fun _ _ _ _ _ => (g_name (i := 9) sc__law_land.nd)) (fun _ _ _ _ _ => (ts_one (t_cmp (s_notinA (u80 hr)) (e_var 9) (e_var 4)))) (fun _ _ _ _ _ => (e_var 9))))))
    (b_cons (s_for PassesOwn.never rfl (i_range2 (by rfl) t.z_range (a_cons (e_int) (a_cons (e_blt (id := "len") c_len (by rfl) t.z_len bt_len (a_cons (e_var 4) a_nil)) a_nil))) (g_name (i := 6) sc__law_land.nd) (b_cons (s_set (i := 7) sc__law_land.nd (e_if (t_cmp (s_eq (u64 hr)) (e_var 5) (e_int)) (e_ix (e_var 4) (e_op s_sub (e_var 6) (e_int))) (e_ix (e_var 4) (e_call (ok__law_any t) (hr.mono (by decide)) gd (by rfl) t.g__law_any t.F__law_any.kp t.b__law_any (a_cons (e_var 0) (a_cons (e_var 6) a_nil))))))
    (b_cons (s_set (i := 8) sc__law_land.nd (e_op s_add (e_int) (e_ix (e_lst (a_cons (e_int) (a_cons (e_call (ok__law_any t) (hr.mono (by decide)) gd (by rfl) t.g__law_any t.F__law_any.kp t.b__law_any (a_cons (e_var 0) (a_cons (e_int) a_nil))) (a_cons (e_call (ok__law_any t) (hr.mono (by decide)) gd (by rfl) t.g__law_any t.F__law_any.kp t.b__law_any (a_cons (e_var 0) (a_cons (e_int) a_nil))) (a_cons (e_call (ok__law_any t) (hr.mono (by decide)) gd (by rfl) t.g__law_any t.F__law_any.kp t.b__law_any (a_cons (e_var 0) (a_cons (e_int) a_nil))) (a_cons (e_call (ok__law_any t) (hr.mono (by decide)) gd (by rfl) t.g__law_any t.F__law_any.kp t.b__law_any (a_cons (e_var 0) (a_cons (e_int) a_nil))) a_nil)))))) (e_call (ok__law_any t) (hr.mono (by decide)) gd (by rfl) t.g__law_any t.F__law_any.kp t.b__law_any (a_cons (e_var 0) (a_cons (e_int) a_nil))))))
    (b_one (s_app 3 (e_tup (a_cons (e_blt (id := "min") (c_minA (u80 hr)) (by rfl) t.z_min bt_min (a_cons (e_var 7) (a_cons (e_ix (e_var 4) (e_var 6)) a_nil))) (a_cons (e_blt (id := "max") (c_maxA (u80 hr)) (by rfl) t.z_max bt_max (a_cons (e_var 7) (a_cons (e_ix (e_var 4) (e_var 6)) a_nil))) (a_cons (e_var 8) a_nil)))))))))
    (b_one (s_ret (e_bor 3 fun B => (e_tup (a_cons (e_var 2) (a_cons (e_frz (o_blt (T := "sorted") (c_sortedA (u80 hr)) (by rfl) t.z_sorted bt_sorted (a_cons (e_var 3) a_nil))) a_nil))))))))))
theorem ok__law_seats (t : Txt P K mg) : FnG P w K T mg base 5 t.f__law_seats t.d__law_seats ["_law_deal_here", "_law_places", "_law_most"] m__law_seats := by
  unfold m__law_seats
  refine ok_def t.F__law_seats sc__law_seats fun cdv A outer s H E on dl cl B hr gd => ?_
  exact (b_cons (s_setO (i := 3) sc__law_seats.nd (o_lst a_nil))
    (b_cons (s_for PassesOwn.never rfl (i_seq (e_call (ok__law_names t) (hr.mono (by decide)) gd (by rfl) t.g__law_names t.F__law_names.kp t.b__law_names (a_cons (e_var 0) (a_cons (e_call (ok__law_any t) (hr.mono (by decide)) gd (by rfl) t.g__law_any t.F__law_any.kp t.b__law_any (a_cons (e_var 0) (a_cons (e_op s_add (e_var 2) (e_int)) a_nil))) a_nil)))) (g_name (i := 4) sc__law_seats.nd) (b_cons (s_set (i := 5) sc__law_seats.nd (e_ix (e_lst (a_cons (e_int) (a_cons (e_int) (a_cons (e_call (ok__law_any t) (hr.mono (by decide)) gd (by rfl) t.g__law_any t.F__law_any.kp t.b__law_any (a_cons (e_var 0) (a_cons (e_int) a_nil))) (a_cons (e_call (ok__law_any t) (hr.mono (by decide)) gd (by rfl) t.g__law_any t.F__law_any.kp t.b__law_any (a_cons (e_var 0) (a_cons (e_int) a_nil))) (a_cons (e_call (ok__law_any t) (hr.mono (by decide)) gd (by rfl) t.g__law_any t.F__law_any.kp t.b__law_any (a_cons (e_var 0) (a_cons (e_int) a_nil))) (a_cons (e_call (ok__law_any t) (hr.mono (by decide)) gd (by rfl) t.g__law_any t.F__law_any.kp t.b__law_any (a_cons (e_var 0) (a_cons (e_int) a_nil))) a_nil))))))) (e_call (ok__law_any t) (hr.mono (by decide)) gd (by rfl) t.g__law_any t.F__law_any.kp t.b__law_any (a_cons (e_var 0) (a_cons (e_int) a_nil)))))
    (b_one (s_app 3 (e_tup (a_cons (e_var 4) (a_cons (e_call (ok__law_of t) (hr.mono (by decide)) gd (by rfl) t.g__law_of t.F__law_of.kp t.b__law_of (a_cons (e_var 0) (a_cons (e_var 1) a_nil))) (a_cons (e_var 5) a_nil))))))))
    (b_one (s_ret (e_bor 3 fun B => (e_ty (T := "tuple") c_tuple (by rfl) t.z_tuple bt_tuple (a_cons (e_var 3) a_nil)))))))
theorem ok_middles (t : Txt P K mg) : FnG P w K T mg base 6 t.f_middles t.d_middles ["roads", "people"] m_middles := by
  unfold m_middles
  refine ok_def t.F_middles sc_middles fun cdv A outer s H E on dl cl B hr gd => ?_
  exact (b_one (s_ret (e_call (ok_least_places t) (hr.mono (by decide)) gd (by rfl) t.g_least_places t.F_least_places.kp t.b_least_places (a_cons (e_var 0) (a_cons (e_frz (o_comp rfl sc_middles.nd (i_seq (e_fld [c_Roads] (cs_cons (t.C_Roads.fl (.head _)) cs_nil) (e_var 0))) (own := [("place", 2)]) (blk_by rfl) (by decide) (fun _ _ _ _ _ => (g_name (i := 2) sc_middles.nd)) (fun _ _ _ _ _ => ts_nil) (fun _ _ _ _ _ => (e_call (ok_sum_from t) (hr.mono (by decide)) gd (by rfl) t.g_sum_from t.F_sum_from.kp t.b_sum_from (a_cons (e_var 0) (a_cons (e_var 1) (a_cons (e_var 2) a_nil))))))) a_nil)))))
theorem ok_centres (t : Txt P K mg) : FnG P w K T mg base 6 t.f_centres t.d_centres ["roads", "people"] m_centres := by
  unfold m_centres
  refine ok_def t.F_centres sc_centres fun cdv A outer s H E on dl cl B hr gd => ?_
  exact (b_one (s_ret (e_call (ok_least_places t) (hr.mono (by decide)) gd (by rfl) t.g_least_places t.F_least_places.kp t.b_least_places (a_cons (e_var 0) (a_cons (e_frz (o_comp rfl sc_centres.nd (i_seq (e_fld [c_Roads] (cs_cons (t.C_Roads.fl (.head _)) cs_nil) (e_var 0))) (own := [("place", 2)]) (blk_by rfl) (by decide) (fun _ _ _ _ _ => (g_name (i := 2) sc_centres.nd)) (fun _ _ _ _ _ => ts_nil) (fun _ _ _ _ _ => (e_call (ok_farthest_from t) (hr.mono (by decide)) gd (by rfl) t.g_farthest_from t.F_farthest_from.kp t.b_farthest_from (a_cons (e_var 0) (a_cons (e_var 1) (a_cons (e_var 2) a_nil))))))) a_nil)))))
/-- what is left: the law of the mirrors -/
def Plain : Prop := ∀ ns : List Int, ns.length ≤ 63 → ∃ cs b st0 st1, cs.length ≤ 63 ∧ m__law_deal (.kl (ns.map D.int) :: [.int 56]) ([], 0) = .ok (.lst [.lst (cs.map D.int), .int b]) st0 ∧ mb_law ((List.replicate 20 none).set 1 (some (.dat .deal))) (cs, b) = .ok (.rt (.bl true)) st1
theorem ok_law (hp : Plain) (t : Txt P K mg) : LawG P w K T mg base 7 t.f_law t.d_law "_law_script" 63 := by
  refine law_go (gd := m__law_deal) (i := 1) (mr := mb_law) (targs := L2.tCons (tVar 0) (L2.tCons (tC (.int 56)) L2.tNil)) [.int 56] [.int 56] t.F_law sc_law (show _ = _ :: _ from rfl) (by decide) (fun cdv A outer s H E hr gd => ?_) (fun cdv A outer s H E on dl cl B hr gd => ?_) (fun σ H Q v e q => ⟨v, e, q⟩) (fun _ _ => .cons (.int _) (.nil)) hp
  · exact ps_set (i := 1) sc_law.nd rfl (by first | exact Or.inl rfl | exact Or.inr rfl) (pe_fn (k := ⟨K, true, 0, 0, fun _ => none, T, P, w⟩) (ok__law_deal t) (hr.mono (by decide)) gd (by rfl) t.g__law_deal t.F__law_deal.kp t.b__law_deal (E' := fun _ => E0) (fun _ => pass0At) (pa_cons (pv 0) (pa_cons pe_int pa_nil)))
  · exact (b_cons (s_asg (e_call (ok__law_land t) (hr.mono (by decide)) gd (by rfl) t.g__law_land t.F__law_land.kp t.b__law_land (a_cons (e_var 1) (a_cons (e_int) a_nil))) (g_tup rfl (gs_cons (g_name (i := 2) sc_law.nd) (gs_cons (g_name (i := 3) sc_law.nd) gs_nil))))
    (b_cons (s_asg (e_tup (a_cons (e_mk (mak_Roads t) hr (by decide) (by rfl) (a_cons (e_ty (T := "tuple") c_tuple (by rfl) t.z_tuple bt_tuple (a_cons (e_var 2) a_nil)) (a_cons (e_ty (T := "tuple") c_tuple (by rfl) t.z_tuple bt_tuple (a_cons (e_var 3) a_nil)) a_nil))) (a_cons (e_call (ok__law_ways t) (hr.mono (by decide)) gd (by rfl) t.g__law_ways t.F__law_ways.kp t.b__law_ways (a_cons (e_var 2) (a_cons (e_var 3) a_nil))) a_nil))) (g_tup rfl (gs_cons (g_name (i := 4) sc_law.nd) (gs_cons (g_name (i := 5) sc_law.nd) gs_nil))))
    (b_cons (s_set (i := 6) sc_law.nd (e_call (ok__law_seats t) (hr.mono (by decide)) gd (by rfl) t.g__law_seats t.F__law_seats.kp t.b__law_seats (a_cons (e_var 1) (a_cons (e_var 2) (a_cons (e_int) a_nil)))))
    (b_cons (s_setD (i := 7) sc_law.nd (od_pairs (by rfl) t.z_dict (a_cons (e_frz (o_comp rfl sc_law.nd (i_seq (e_var 2)) (own := [("_law_place", 11)]) (blk_by rfl) (by decide) (fun _ _ _ _ _ => (g_name (i := 11) sc_law.nd)) (fun _ _ _ _ _ => ts_nil) (fun _ _ _ _ _ => (e_tup (a_cons (e_var 11) (a_cons (e_blt (id := "sum") c_sum (by rfl) t.z_sum bt_sum (a_cons (e_frz (o_comp rfl sc_law.nd (i_seq (e_var 6)) (own := [("_law_seat", 17)]) (blk_by rfl) (by decide) (fun _ _ _ _ _ => (g_name (i := 17) sc_law.nd)) (fun _ _ _ _ _ => ts_nil) (fun _ _ _ _ _ => (e_tix (u80 hr) (e_var 5) (a_cons (e_var 11) (a_cons (e_ix (e_var 17) (e_int)) a_nil)))))) a_nil)) a_nil)))))) a_nil)))
    (b_cons (s_setD (i := 8) sc_law.nd (od_pairs (by rfl) t.z_dict (a_cons (e_frz (o_comp rfl sc_law.nd (i_seq (e_var 2)) (own := [("_law_place", 11)]) (blk_by rfl) (by decide) (fun _ _ _ _ _ => (g_name (i := 11) sc_law.nd)) (fun _ _ _ _ _ => ts_nil) (fun _ _ _ _ _ => (e_tup (a_cons (e_var 11) (a_cons (e_maxD (u80 hr) rfl (by rfl) t.z_max (a_cons (e_frz (o_comp rfl sc_law.nd (i_seq (e_var 6)) (own := [("_law_seat", 17)]) (blk_by rfl) (by decide) (fun _ _ _ _ _ => (g_name (i := 17) sc_law.nd)) (fun _ _ _ _ _ => ts_nil) (fun _ _ _ _ _ => (e_tix (u80 hr) (e_var 5) (a_cons (e_var 11) (a_cons (e_ix (e_var 17) (e_int)) a_nil)))))) a_nil) (e_int)) a_nil)))))) a_nil)))
    (b_cons (s_lc rfl sc_law.nd (i := 9) (sw_true rfl rfl rfl (by decide +kernel)) (i_seq (e_var 2)) (own := [("_law_place", 11)]) (blk_by rfl) (by decide) (fun _ _ _ _ _ => (g_name (i := 11) sc_law.nd)) (fun _ _ _ _ _ => (ts_one (t_cmp (s_eq (u64 hr)) (e_dget 7 (u80 hr) (e_var 11)) (e_blt (id := "min") c_min (by rfl) t.z_min bt_min (a_cons (e_frz (o_comp rfl sc_law.nd (i_seq (e_var 2)) (own := [("_law_one", 14)]) (blk_by rfl) (by decide) (fun _ _ _ _ _ => (g_name (i := 14) sc_law.nd)) (fun _ _ _ _ _ => ts_nil) (fun _ _ _ _ _ => (e_dget 7 (u80 hr) (e_var 14))))) a_nil))))) (fun _ _ _ _ _ => (e_var 11)))
    (b_cons (s_lc rfl sc_law.nd (i := 10) (sw_true rfl rfl rfl (by decide +kernel)) (i_seq (e_var 2)) (own := [("_law_place", 11)]) (blk_by rfl) (by decide) (fun _ _ _ _ _ => (g_name (i := 11) sc_law.nd)) (fun _ _ _ _ _ => (ts_one (t_cmp (s_eq (u64 hr)) (e_dget 8 (u80 hr) (e_var 11)) (e_blt (id := "min") c_min (by rfl) t.z_min bt_min (a_cons (e_frz (o_comp rfl sc_law.nd (i_seq (e_var 2)) (own := [("_law_one", 14)]) (blk_by rfl) (by decide) (fun _ _ _ _ _ => (g_name (i := 14) sc_law.nd)) (fun _ _ _ _ _ => ts_nil) (fun _ _ _ _ _ => (e_dget 8 (u80 hr) (e_var 14))))) a_nil))))) (fun _ _ _ _ _ => (e_var 11)))
    (b_cons (s_if (t_cmp (s_ne (u64 hr)) (e_blt (id := "repr") (c_repr gd (u64 hr)) (by rfl) t.z_repr bt_repr (a_cons (e_callK (π := [0, 1]) (ok_middles t) (hr.mono (by decide)) gd (by rfl) t.g_middles t.F_middles.kp (t.kb_middles_0_1) (k_cons (e_var 4) (k_cons (e_var 6) k_nil))) a_nil)) (e_blt (id := "repr") (c_repr gd (u64 hr)) (by rfl) t.z_repr bt_repr (a_cons (e_ty (T := "tuple") c_tuple (by rfl) t.z_tuple bt_tuple (a_cons (e_var 9) a_nil)) a_nil))) (b_one (s_ret (e_bl))) b_nil)
    (b_cons (s_if (t_cmp (s_ne (u64 hr)) (e_blt (id := "repr") (c_repr gd (u64 hr)) (by rfl) t.z_repr bt_repr (a_cons (e_callK (π := [0, 1]) (ok_centres t) (hr.mono (by decide)) gd (by rfl) t.g_centres t.F_centres.kp (t.kb_centres_0_1) (k_cons (e_var 4) (k_cons (e_var 6) k_nil))) a_nil)) (e_blt (id := "repr") (c_repr gd (u64 hr)) (by rfl) t.z_repr bt_repr (a_cons (e_ty (T := "tuple") c_tuple (by rfl) t.z_tuple bt_tuple (a_cons (e_var 10) a_nil)) a_nil))) (b_one (s_ret (e_bl))) b_nil)
    (b_cons (s_for PassesOwn.never rfl (i_seq (e_var 2)) (g_name (i := 11) sc_law.nd) (b_cons (s_if (t_cmp (s_ne (u64 hr)) (e_blt (id := "repr") (c_repr gd (u64 hr)) (by rfl) t.z_repr bt_repr (a_cons (e_callK (π := [0, 1, 2]) (ok_sum_from t) (hr.mono (by decide)) gd (by rfl) t.g_sum_from t.F_sum_from.kp (t.kb_sum_from_0_1_2) (k_cons (e_var 4) (k_cons (e_var 6) (k_cons (e_var 11) k_nil)))) a_nil)) (e_blt (id := "repr") (c_repr gd (u64 hr)) (by rfl) t.z_repr bt_repr (a_cons (e_dget 7 (u80 hr) (e_var 11)) a_nil))) (b_one (s_ret (e_bl))) b_nil)
    (b_cons (s_if (t_cmp (s_ne (u64 hr)) (e_blt (id := "repr") (c_repr gd (u64 hr)) (by rfl) t.z_repr bt_repr (a_cons (e_callK (π := [0, 1, 2]) (ok_farthest_from t) (hr.mono (by decide)) gd (by rfl) t.g_farthest_from t.F_farthest_from.kp (t.kb_farthest_from_0_1_2) (k_cons (e_var 4) (k_cons (e_var 6) (k_cons (e_var 11) k_nil)))) a_nil)) (e_blt (id := "repr") (c_repr gd (u64 hr)) (by rfl) t.z_repr bt_repr (a_cons (e_dget 8 (u80 hr) (e_var 11)) a_nil))) (b_one (s_ret (e_bl))) b_nil)
    (b_cons (s_set (i := 12) sc_law.nd (e_frz (o_blt (T := "sorted") (c_sortedA (u80 hr)) (by rfl) t.z_sorted bt_sorted (a_cons (e_op s_add (e_frz (o_comp rfl sc_law.nd (i_seq (e_var 3)) (own := [("_law_one", 14), ("_law_other", 16), ("_law_length", 18)]) (blk_by rfl) (by decide) (fun _ _ _ _ _ => (g_tup rfl (gs_cons (g_name (i := 14) sc_law.nd) (gs_cons (g_name (i := 16) sc_law.nd) (gs_cons (g_name (i := 18) sc_law.nd) gs_nil))))) (fun _ _ _ _ _ => (ts_one (t_cmp (s_eq (u64 hr)) (e_var 16) (e_var 11)))) (fun _ _ _ _ _ => (e_var 14)))) (e_frz (o_comp rfl sc_law.nd (i_seq (e_var 3)) (own := [("_law_one", 14), ("_law_other", 16), ("_law_length", 18)]) (blk_by rfl) (by decide) (fun _ _ _ _ _ => (g_tup rfl (gs_cons (g_name (i := 14) sc_law.nd) (gs_cons (g_name (i := 16) sc_law.nd) (gs_cons (g_name (i := 18) sc_law.nd) gs_nil))))) (fun _ _ _ _ _ => (ts_one (t_cmp (s_eq (u64 hr)) (e_var 14) (e_var 11)))) (fun _ _ _ _ _ => (e_var 16))))) a_nil))))
    (b_cons (s_setO (i := 13) sc_law.nd (o_lst a_nil))
    (b_cons (s_for PassesOwn.never rfl (i_seq (e_var 12)) (g_name (i := 14) sc_law.nd) (b_cons (s_lc rfl sc_law.nd (i := 15) (sw_true rfl rfl rfl (by decide +kernel)) (i_seq (e_var 6)) (own := [("_law_seat", 17)]) (blk_by rfl) (by decide) (fun _ _ _ _ _ => (g_name (i := 17) sc_law.nd)) (fun _ _ _ _ _ => (ts_one (t_cmp (s_eq (u64 hr)) (e_op s_add (e_tix (u80 hr) (e_var 5) (a_cons (e_var 11) (a_cons (e_var 14) a_nil))) (e_tix (u80 hr) (e_var 5) (a_cons (e_var 14) (a_cons (e_ix (e_var 17) (e_int)) a_nil)))) (e_tix (u80 hr) (e_var 5) (a_cons (e_var 11) (a_cons (e_ix (e_var 17) (e_int)) a_nil)))))) (fun _ _ _ _ _ => (e_var 17)))
    (b_one (s_app 13 (e_tup (a_cons (e_var 14) (a_cons (e_blt (id := "len") c_len (by rfl) t.z_len bt_len (a_cons (e_var 15) a_nil)) a_nil)))))))
    (b_cons (s_if (t_bor 13 fun B => (t_cmp (s_ne (u64 hr)) (e_blt (id := "repr") (c_repr gd (u64 hr)) (by rfl) t.z_repr bt_repr (a_cons (e_callK (π := [0, 1, 2]) (ok_branch_counts t) (hr.mono (by decide)) gd (by rfl) t.g_branch_counts t.F_branch_counts.kp (t.kb_branch_counts_0_1_2) (k_cons (e_var 4) (k_cons (e_var 6) (k_cons (e_var 11) k_nil)))) a_nil)) (e_blt (id := "repr") (c_repr gd (u64 hr)) (by rfl) t.z_repr bt_repr (a_cons (e_ty (T := "tuple") c_tuple (by rfl) t.z_tuple bt_tuple (a_cons (e_var 13) a_nil)) a_nil)))) (b_one (s_ret (e_bl))) b_nil)
    (b_cons (s_if (t_bor 13 fun B => (t_cmp (s_ne (u64 hr)) (e_cmp (s_inA (u80 hr)) (e_var 11) (e_var 9)) (e_cmp (s_eq (u64 hr)) (e_frz (o_comp rfl sc_law.nd (i_seq (e_var 13)) (own := [("_law_one", 14), ("_law_number", 19)]) (blk_by rfl) (by decide) (fun _ _ _ _ _ => (g_tup rfl (gs_cons (g_name (i := 14) sc_law.nd) (gs_cons (g_name (i := 19) sc_law.nd) gs_nil)))) (fun _ _ _ _ _ => (ts_one (t_cmp s_gt (e_op s_mulW (e_int) (e_var 19)) (e_blt (id := "len") c_len (by rfl) t.z_len bt_len (a_cons (e_var 6) a_nil))))) (fun _ _ _ _ _ => (e_var 14)))) (e_lst a_nil)))) (b_one (s_ret (e_bl))) b_nil)
    (b_cons (s_if (t_cmp (s_ne (u64 hr)) (e_cmp (s_inA (u80 hr)) (e_var 11) (e_var 9)) (e_cmp (s_eq (u64 hr)) (e_frz (o_comp rfl sc_law.nd (i_seq (e_var 12)) (own := [("_law_one", 14)]) (blk_by rfl) (by decide) (fun _ _ _ _ _ => (g_name (i := 14) sc_law.nd)) (fun _ _ _ _ _ => (ts_one (t_cmp s_lt (e_dget 7 (u80 hr) (e_var 14)) (e_dget 7 (u80 hr) (e_var 11))))) (fun _ _ _ _ _ => (e_var 14)))) (e_lst a_nil))) (b_one (s_ret (e_bl))) b_nil)
    (b_cons (s_if (t_cmp (s_ne (u64 hr)) (e_cmp (s_inA (u80 hr)) (e_var 11) (e_var 10)) (e_cmp (s_eq (u64 hr)) (e_frz (o_comp rfl sc_law.nd (i_seq (e_var 12)) (own := [("_law_one", 14)]) (blk_by rfl) (by decide) (fun _ _ _ _ _ => (g_name (i := 14) sc_law.nd)) (fun _ _ _ _ _ => (ts_one (t_cmp s_lt (e_dget 8 (u80 hr) (e_var 14)) (e_dget 8 (u80 hr) (e_var 11))))) (fun _ _ _ _ _ => (e_var 14)))) (e_lst a_nil))) (b_one (s_ret (e_bl))) b_nil)
    (b_one (s_for PassesOwn.never rfl (i_seq (e_var 9)) (g_name (i := 14) sc_law.nd) (b_one (s_for PassesOwn.never rfl (i_seq (e_var 9)) (g_name (i := 16) sc_law.nd) (b_one (s_if (PW.pt (w_and (t_cmp (s_eq (u64 hr)) (e_op s_add (e_tix (u80 hr) (e_var 5) (a_cons (e_var 14) (a_cons (e_var 11) a_nil))) (e_tix (u80 hr) (e_var 5) (a_cons (e_var 11) (a_cons (e_var 16) a_nil)))) (e_tix (u80 hr) (e_var 5) (a_cons (e_var 14) (a_cons (e_var 16) a_nil)))) (w_and1 (t_cmp (s_notinA (u80 hr)) (e_var 11) (e_var 9))))) (b_one (s_ret (e_bl))) b_nil))))))))))))))))
    (b_one (s_ret (e_bl)))))))))))))
end
/-! ### the top -/
set_option maxHeartbeats 0 in
theorem all_mk {P : Program} {K : PySem.W.Frag} {h : Heap} {mg : Str → Option Value} {fa : Addr} {f0 f1 f2 f3 f4 f5 f6 f7 f8 f9 f10 f11 f12 f13 f14 f15 f16 f17 f18 f19 : Addr} (X : K.In h) (G : h.Ns mainGlobals mg) (hfa : mg "law" = some (.ref fa)) {od0 an0 od1 an1 od2 an2 od3 an3 od4 an4 od5 an5 od6 an6 od7 an7 od8 an8 od9 an9 od10 an10 od11 an11 od12 an12 od13 an13 od14 an14 od15 an15 od16 an16 od17 an17 od18 an18 od19 an19 : Option Addr} {sl0 sl1 sl2 sl3 sl4 sl5 sl6 sl7 sl8 sl9 sl10 sl11 sl12 sl13 sl14 sl15 sl16 sl17 sl18 sl19 : Array (Option Value)} {oc0 kV0 dc0 pm0 ct0 cd0 oc1 kV1 dc1 pm1 ct1 cd1 oc2 kV2 dc2 pm2 ct2 cd2 oc3 kV3 dc3 pm3 ct3 cd3 oc4 kV4 dc4 pm4 ct4 cd4 oc5 kV5 dc5 pm5 ct5 cd5 oc6 kV6 dc6 pm6 ct6 cd6 oc7 kV7 dc7 pm7 ct7 cd7 oc8 kV8 dc8 pm8 ct8 cd8 oc9 kV9 dc9 pm9 ct9 cd9 oc10 kV10 dc10 pm10 ct10 cd10 oc11 kV11 dc11 pm11 ct11 cd11 oc12 kV12 dc12 pm12 ct12 cd12 oc13 kV13 dc13 pm13 ct13 cd13 oc14 kV14 dc14 pm14 ct14 cd14 oc15 kV15 dc15 pm15 ct15 cd15 oc16 kV16 dc16 pm16 ct16 cd16 oc17 kV17 dc17 pm17 ct17 cd17 oc18 kV18 dc18 pm18 ct18 cd18 oc19 kV19 dc19 pm19 ct19 cd19 : Value}
    (a0 : PySem.W.nsIn K mainGlobals "next_to" = some (some (.ref f0))) (l0 : K.lookup f0 = some ⟨oc0, od0, .func (PySem.W.fnOf "next_to" "next_to" (defArgs s_next_to) (defBody s_next_to) (defScope s_next_to) .none kV0 dc0 pm0 an0 cd0 ct0), sl0⟩) (c0 : PySem.W.codeIn K cd0 "next_to" = true) (k0 : PySem.W.keepIn K (.ref f0) = true)
    (a1 : PySem.W.nsIn K mainGlobals "least_places" = some (some (.ref f1))) (l1 : K.lookup f1 = some ⟨oc1, od1, .func (PySem.W.fnOf "least_places" "least_places" (defArgs s_least_places) (defBody s_least_places) (defScope s_least_places) .none kV1 dc1 pm1 an1 cd1 ct1), sl1⟩) (c1 : PySem.W.codeIn K cd1 "least_places" = true) (k1 : PySem.W.keepIn K (.ref f1) = true)
    (a2 : PySem.W.nsIn K mainGlobals "_law_deal" = some (some (.ref f2))) (l2 : K.lookup f2 = some ⟨oc2, od2, .func (PySem.W.fnOf "_law_deal" "_law_deal" (defArgs s__law_deal) (defBody s__law_deal) (defScope s__law_deal) .none kV2 dc2 pm2 an2 cd2 ct2), sl2⟩) (c2 : PySem.W.codeIn K cd2 "_law_deal" = true) (k2 : PySem.W.keepIn K (.ref f2) = true)
    (a3 : PySem.W.nsIn K mainGlobals "_law_any" = some (some (.ref f3))) (l3 : K.lookup f3 = some ⟨oc3, od3, .func (PySem.W.fnOf "_law_any" "_law_any" (defArgs s__law_any) (defBody s__law_any) (defScope s__law_any) .none kV3 dc3 pm3 an3 cd3 ct3), sl3⟩) (c3 : PySem.W.codeIn K cd3 "_law_any" = true) (k3 : PySem.W.keepIn K (.ref f3) = true)
    (a4 : PySem.W.nsIn K mainGlobals "_law_ways" = some (some (.ref f4))) (l4 : K.lookup f4 = some ⟨oc4, od4, .func (PySem.W.fnOf "_law_ways" "_law_ways" (defArgs s__law_ways) (defBody s__law_ways) (defScope s__law_ways) .none kV4 dc4 pm4 an4 cd4 ct4), sl4⟩) (c4 : PySem.W.codeIn K cd4 "_law_ways" = true) (k4 : PySem.W.keepIn K (.ref f4) = true)
    (a5 : PySem.W.nsIn K mainGlobals "ways_from" = some (some (.ref f5))) (l5 : K.lookup f5 = some ⟨oc5, od5, .func (PySem.W.fnOf "ways_from" "ways_from" (defArgs s_ways_from) (defBody s_ways_from) (defScope s_ways_from) .none kV5 dc5 pm5 an5 cd5 ct5), sl5⟩) (c5 : PySem.W.codeIn K cd5 "ways_from" = true) (k5 : PySem.W.keepIn K (.ref f5) = true)
    (a6 : PySem.W.nsIn K mainGlobals "_law_of" = some (some (.ref f6))) (l6 : K.lookup f6 = some ⟨oc6, od6, .func (PySem.W.fnOf "_law_of" "_law_of" (defArgs s__law_of) (defBody s__law_of) (defScope s__law_of) .none kV6 dc6 pm6 an6 cd6 ct6), sl6⟩) (c6 : PySem.W.codeIn K cd6 "_law_of" = true) (k6 : PySem.W.keepIn K (.ref f6) = true)
    (a7 : PySem.W.nsIn K mainGlobals "branches" = some (some (.ref f7))) (l7 : K.lookup f7 = some ⟨oc7, od7, .func (PySem.W.fnOf "branches" "branches" (defArgs s_branches) (defBody s_branches) (defScope s_branches) .none kV7 dc7 pm7 an7 cd7 ct7), sl7⟩) (c7 : PySem.W.codeIn K cd7 "branches" = true) (k7 : PySem.W.keepIn K (.ref f7) = true)
    (a8 : PySem.W.nsIn K mainGlobals "ways_by_place" = some (some (.ref f8))) (l8 : K.lookup f8 = some ⟨oc8, od8, .func (PySem.W.fnOf "ways_by_place" "ways_by_place" (defArgs s_ways_by_place) (defBody s_ways_by_place) (defScope s_ways_by_place) .none kV8 dc8 pm8 an8 cd8 ct8), sl8⟩) (c8 : PySem.W.codeIn K cd8 "ways_by_place" = true) (k8 : PySem.W.keepIn K (.ref f8) = true)
    (a9 : PySem.W.nsIn K mainGlobals "_law_word" = some (some (.ref f9))) (l9 : K.lookup f9 = some ⟨oc9, od9, .func (PySem.W.fnOf "_law_word" "_law_word" (defArgs s__law_word) (defBody s__law_word) (defScope s__law_word) .none kV9 dc9 pm9 an9 cd9 ct9), sl9⟩) (c9 : PySem.W.codeIn K cd9 "_law_word" = true) (k9 : PySem.W.keepIn K (.ref f9) = true)
    (a10 : PySem.W.nsIn K mainGlobals "people_ways" = some (some (.ref f10))) (l10 : K.lookup f10 = some ⟨oc10, od10, .func (PySem.W.fnOf "people_ways" "people_ways" (defArgs s_people_ways) (defBody s_people_ways) (defScope s_people_ways) .none kV10 dc10 pm10 an10 cd10 ct10), sl10⟩) (c10 : PySem.W.codeIn K cd10 "people_ways" = true) (k10 : PySem.W.keepIn K (.ref f10) = true)
    (a11 : PySem.W.nsIn K mainGlobals "branch_counts" = some (some (.ref f11))) (l11 : K.lookup f11 = some ⟨oc11, od11, .func (PySem.W.fnOf "branch_counts" "branch_counts" (defArgs s_branch_counts) (defBody s_branch_counts) (defScope s_branch_counts) .none kV11 dc11 pm11 an11 cd11 ct11), sl11⟩) (c11 : PySem.W.codeIn K cd11 "branch_counts" = true) (k11 : PySem.W.keepIn K (.ref f11) = true)
    (a12 : PySem.W.nsIn K mainGlobals "_law_names" = some (some (.ref f12))) (l12 : K.lookup f12 = some ⟨oc12, od12, .func (PySem.W.fnOf "_law_names" "_law_names" (defArgs s__law_names) (defBody s__law_names) (defScope s__law_names) .none kV12 dc12 pm12 an12 cd12 ct12), sl12⟩) (c12 : PySem.W.codeIn K cd12 "_law_names" = true) (k12 : PySem.W.keepIn K (.ref f12) = true)
    (a13 : PySem.W.nsIn K mainGlobals "sum_from" = some (some (.ref f13))) (l13 : K.lookup f13 = some ⟨oc13, od13, .func (PySem.W.fnOf "sum_from" "sum_from" (defArgs s_sum_from) (defBody s_sum_from) (defScope s_sum_from) .none kV13 dc13 pm13 an13 cd13 ct13), sl13⟩) (c13 : PySem.W.codeIn K cd13 "sum_from" = true) (k13 : PySem.W.keepIn K (.ref f13) = true)
    (a14 : PySem.W.nsIn K mainGlobals "farthest_from" = some (some (.ref f14))) (l14 : K.lookup f14 = some ⟨oc14, od14, .func (PySem.W.fnOf "farthest_from" "farthest_from" (defArgs s_farthest_from) (defBody s_farthest_from) (defScope s_farthest_from) .none kV14 dc14 pm14 an14 cd14 ct14), sl14⟩) (c14 : PySem.W.codeIn K cd14 "farthest_from" = true) (k14 : PySem.W.keepIn K (.ref f14) = true)
    (a15 : PySem.W.nsIn K mainGlobals "_law_land" = some (some (.ref f15))) (l15 : K.lookup f15 = some ⟨oc15, od15, .func (PySem.W.fnOf "_law_land" "_law_land" (defArgs s__law_land) (defBody s__law_land) (defScope s__law_land) .none kV15 dc15 pm15 an15 cd15 ct15), sl15⟩) (c15 : PySem.W.codeIn K cd15 "_law_land" = true) (k15 : PySem.W.keepIn K (.ref f15) = true)
    (a16 : PySem.W.nsIn K mainGlobals "_law_seats" = some (some (.ref f16))) (l16 : K.lookup f16 = some ⟨oc16, od16, .func (PySem.W.fnOf "_law_seats" "_law_seats" (defArgs s__law_seats) (defBody s__law_seats) (defScope s__law_seats) .none kV16 dc16 pm16 an16 cd16 ct16), sl16⟩) (c16 : PySem.W.codeIn K cd16 "_law_seats" = true) (k16 : PySem.W.keepIn K (.ref f16) = true)
    (a17 : PySem.W.nsIn K mainGlobals "middles" = some (some (.ref f17))) (l17 : K.lookup f17 = some ⟨oc17, od17, .func (PySem.W.fnOf "middles" "middles" (defArgs s_middles) (defBody s_middles) (defScope s_middles) .none kV17 dc17 pm17 an17 cd17 ct17), sl17⟩) (c17 : PySem.W.codeIn K cd17 "middles" = true) (k17 : PySem.W.keepIn K (.ref f17) = true)
    (a18 : PySem.W.nsIn K mainGlobals "centres" = some (some (.ref f18))) (l18 : K.lookup f18 = some ⟨oc18, od18, .func (PySem.W.fnOf "centres" "centres" (defArgs s_centres) (defBody s_centres) (defScope s_centres) .none kV18 dc18 pm18 an18 cd18 ct18), sl18⟩) (c18 : PySem.W.codeIn K cd18 "centres" = true) (k18 : PySem.W.keepIn K (.ref f18) = true)
    (a19 : PySem.W.nsIn K mainGlobals "law" = some (some (.ref f19))) (l19 : K.lookup f19 = some ⟨oc19, od19, .func (PySem.W.fnOf "law" "law" (defArgs s_law) (defBody s_law) (defScope s_law) .none kV19 dc19 pm19 an19 cd19 ct19), sl19⟩) (c19 : PySem.W.codeIn K cd19 "law" = true) (k19 : PySem.W.keepIn K (.ref f19) = true)
    (z0 : PySem.W.nsIn K mainGlobals "abs" = some none)
    (z1 : PySem.W.nsIn K mainGlobals "dict" = some none)
    (z2 : PySem.W.nsIn K mainGlobals "int" = some none)
    (z3 : PySem.W.nsIn K mainGlobals "isinstance" = some none)
    (z4 : PySem.W.nsIn K mainGlobals "len" = some none)
    (z5 : PySem.W.nsIn K mainGlobals "list" = some none)
    (z6 : PySem.W.nsIn K mainGlobals "max" = some none)
    (z7 : PySem.W.nsIn K mainGlobals "min" = some none)
    (z8 : PySem.W.nsIn K mainGlobals "range" = some none)
    (z9 : PySem.W.nsIn K mainGlobals "repr" = some none)
    (z10 : PySem.W.nsIn K mainGlobals "set" = some none)
    (z11 : PySem.W.nsIn K mainGlobals "sorted" = some none)
    (z12 : PySem.W.nsIn K mainGlobals "sum" = some none)
    (z13 : PySem.W.nsIn K mainGlobals "tuple" = some none)
    (z14 : PySem.W.nsIn K mainGlobals "zip" = some none)
    (yc_Roads : CTxt K mg "Roads" c_Roads ["places", "lines"])
    (ym_Roads : MTxt K c_Roads ["places", "lines"] "Roads.__init__" s_Roads)
    : ∃ t : Txt P K mg, t.f_law = fa := by
  have e := hfa.symm.trans (PySem.W.mg_of X G a19)
  cases e
  exact ⟨{
    C_Roads := yc_Roads
    M_Roads := ym_Roads
    f_next_to := f0, d_next_to := _, F_next_to := fun_mk (st := s_next_to) l0 c0 k0
    g_next_to := PySem.W.mg_of X G a0
    b_next_to := (fun_mk (st := s_next_to) l0 c0 k0).binds (ps := ["roads", "place"]) fun _ _ _ _ _ _ us hl => match us, hl with | [_, _], _ => rfl
    f_least_places := f1, d_least_places := _, F_least_places := fun_mk (st := s_least_places) l1 c1 k1
    g_least_places := PySem.W.mg_of X G a1
    b_least_places := (fun_mk (st := s_least_places) l1 c1 k1).binds (ps := ["roads", "numbers"]) fun _ _ _ _ _ _ us hl => match us, hl with | [_, _], _ => rfl
    f__law_deal := f2, d__law_deal := _, F__law_deal := fun_mk (st := s__law_deal) l2 c2 k2
    g__law_deal := PySem.W.mg_of X G a2
    b__law_deal := (fun_mk (st := s__law_deal) l2 c2 k2).binds (ps := ["_law_script", "_law_base"]) fun _ _ _ _ _ _ us hl => match us, hl with | [_, _], _ => rfl
    f__law_any := f3, d__law_any := _, F__law_any := fun_mk (st := s__law_any) l3 c3 k3
    g__law_any := PySem.W.mg_of X G a3
    b__law_any := (fun_mk (st := s__law_any) l3 c3 k3).binds (ps := ["_law_deal_here", "_law_bound"]) fun _ _ _ _ _ _ us hl => match us, hl with | [_, _], _ => rfl
    f__law_ways := f4, d__law_ways := _, F__law_ways := fun_mk (st := s__law_ways) l4 c4 k4
    g__law_ways := PySem.W.mg_of X G a4
    b__law_ways := (fun_mk (st := s__law_ways) l4 c4 k4).binds (ps := ["_law_places", "_law_lines"]) fun _ _ _ _ _ _ us hl => match us, hl with | [_, _], _ => rfl
    f_ways_from := f5, d_ways_from := _, F_ways_from := fun_mk (st := s_ways_from) l5 c5 k5
    g_ways_from := PySem.W.mg_of X G a5
    b_ways_from := (fun_mk (st := s_ways_from) l5 c5 k5).binds (ps := ["roads", "place"]) fun _ _ _ _ _ _ us hl => match us, hl with | [_, _], _ => rfl
    f__law_of := f6, d__law_of := _, F__law_of := fun_mk (st := s__law_of) l6 c6 k6
    g__law_of := PySem.W.mg_of X G a6
    b__law_of := (fun_mk (st := s__law_of) l6 c6 k6).binds (ps := ["_law_deal_here", "_law_some"]) fun _ _ _ _ _ _ us hl => match us, hl with | [_, _], _ => rfl
    f_branches := f7, d_branches := _, F_branches := fun_mk (st := s_branches) l7 c7 k7
    g_branches := PySem.W.mg_of X G a7
    b_branches := (fun_mk (st := s_branches) l7 c7 k7).binds (ps := ["roads", "place"]) fun _ _ _ _ _ _ us hl => match us, hl with | [_, _], _ => rfl
    f_ways_by_place := f8, d_ways_by_place := _, F_ways_by_place := fun_mk (st := s_ways_by_place) l8 c8 k8
    g_ways_by_place := PySem.W.mg_of X G a8
    b_ways_by_place := (fun_mk (st := s_ways_by_place) l8 c8 k8).binds (ps := ["roads", "place"]) fun _ _ _ _ _ _ us hl => match us, hl with | [_, _], _ => rfl
    f__law_word := f9, d__law_word := _, F__law_word := fun_mk (st := s__law_word) l9 c9 k9
    g__law_word := PySem.W.mg_of X G a9
    b__law_word := (fun_mk (st := s__law_word) l9 c9 k9).binds (ps := ["_law_deal_here", "_law_size"]) fun _ _ _ _ _ _ us hl => match us, hl with | [_, _], _ => rfl
    f_people_ways := f10, d_people_ways := _, F_people_ways := fun_mk (st := s_people_ways) l10 c10 k10
    g_people_ways := PySem.W.mg_of X G a10
    b_people_ways := (fun_mk (st := s_people_ways) l10 c10 k10).binds (ps := ["roads", "people", "place"]) fun _ _ _ _ _ _ us hl => match us, hl with | [_, _, _], _ => rfl
    f_branch_counts := f11, d_branch_counts := _, F_branch_counts := fun_mk (st := s_branch_counts) l11 c11 k11
    g_branch_counts := PySem.W.mg_of X G a11
    b_branch_counts := (fun_mk (st := s_branch_counts) l11 c11 k11).binds (ps := ["roads", "people", "place"]) fun _ _ _ _ _ _ us hl => match us, hl with | [_, _, _], _ => rfl
    kb_branch_counts_0_1_2 := kbinds [0, 1, 2] (by decide) fun ws hl => match ws, hl with | [_, _, _], _ => rfl
    f__law_names := f12, d__law_names := _, F__law_names := fun_mk (st := s__law_names) l12 c12 k12
    g__law_names := PySem.W.mg_of X G a12
    b__law_names := (fun_mk (st := s__law_names) l12 c12 k12).binds (ps := ["_law_deal_here", "_law_many"]) fun _ _ _ _ _ _ us hl => match us, hl with | [_, _], _ => rfl
    f_sum_from := f13, d_sum_from := _, F_sum_from := fun_mk (st := s_sum_from) l13 c13 k13
    g_sum_from := PySem.W.mg_of X G a13
    b_sum_from := (fun_mk (st := s_sum_from) l13 c13 k13).binds (ps := ["roads", "people", "place"]) fun _ _ _ _ _ _ us hl => match us, hl with | [_, _, _], _ => rfl
    kb_sum_from_0_1_2 := kbinds [0, 1, 2] (by decide) fun ws hl => match ws, hl with | [_, _, _], _ => rfl
    f_farthest_from := f14, d_farthest_from := _, F_farthest_from := fun_mk (st := s_farthest_from) l14 c14 k14
    g_farthest_from := PySem.W.mg_of X G a14
    b_farthest_from := (fun_mk (st := s_farthest_from) l14 c14 k14).binds (ps := ["roads", "people", "place"]) fun _ _ _ _ _ _ us hl => match us, hl with | [_, _, _], _ => rfl
    kb_farthest_from_0_1_2 := kbinds [0, 1, 2] (by decide) fun ws hl => match ws, hl with | [_, _, _], _ => rfl
    f__law_land := f15, d__law_land := _, F__law_land := fun_mk (st := s__law_land) l15 c15 k15
    g__law_land := PySem.W.mg_of X G a15
    b__law_land := (fun_mk (st := s__law_land) l15 c15 k15).binds (ps := ["_law_deal_here", "_law_most"]) fun _ _ _ _ _ _ us hl => match us, hl with | [_, _], _ => rfl
    f__law_seats := f16, d__law_seats := _, F__law_seats := fun_mk (st := s__law_seats) l16 c16 k16
    g__law_seats := PySem.W.mg_of X G a16
    b__law_seats := (fun_mk (st := s__law_seats) l16 c16 k16).binds (ps := ["_law_deal_here", "_law_places", "_law_most"]) fun _ _ _ _ _ _ us hl => match us, hl with | [_, _, _], _ => rfl
    f_middles := f17, d_middles := _, F_middles := fun_mk (st := s_middles) l17 c17 k17
    g_middles := PySem.W.mg_of X G a17
    b_middles := (fun_mk (st := s_middles) l17 c17 k17).binds (ps := ["roads", "people"]) fun _ _ _ _ _ _ us hl => match us, hl with | [_, _], _ => rfl
    kb_middles_0_1 := kbinds [0, 1] (by decide) fun ws hl => match ws, hl with | [_, _], _ => rfl
    f_centres := f18, d_centres := _, F_centres := fun_mk (st := s_centres) l18 c18 k18
    g_centres := PySem.W.mg_of X G a18
    b_centres := (fun_mk (st := s_centres) l18 c18 k18).binds (ps := ["roads", "people"]) fun _ _ _ _ _ _ us hl => match us, hl with | [_, _], _ => rfl
    kb_centres_0_1 := kbinds [0, 1] (by decide) fun ws hl => match ws, hl with | [_, _], _ => rfl
    f_law := fa, d_law := _, F_law := fun_mk (st := s_law) l19 c19 k19
    b_law := fun s v => .of_eq rfl
    z_abs := PySem.W.mg_none_of X G z0
    z_dict := PySem.W.mg_none_of X G z1
    z_int := PySem.W.mg_none_of X G z2
    z_isinstance := PySem.W.mg_none_of X G z3
    z_len := PySem.W.mg_none_of X G z4
    z_list := PySem.W.mg_none_of X G z5
    z_max := PySem.W.mg_none_of X G z6
    z_min := PySem.W.mg_none_of X G z7
    z_range := PySem.W.mg_none_of X G z8
    z_repr := PySem.W.mg_none_of X G z9
    z_set := PySem.W.mg_none_of X G z10
    z_sorted := PySem.W.mg_none_of X G z11
    z_sum := PySem.W.mg_none_of X G z12
    z_tuple := PySem.W.mg_none_of X G z13
    z_zip := PySem.W.mg_none_of X G z14
    }, rfl⟩
end Lk56

/-! P56t: the law's words, names and land -/
namespace Lk56
open PySem L2 FL
theorem any_w {b : Int} (hb : 0 < b) (hl : b ≤ 2 ^ 100) : W (m__law_any [.deal, .int b]) fun d => ∃ v : Int, d = .int v ∧ 0 ≤ v ∧ v < b := anyC_w hb hl
theorem any_n {b : Nat} (hb : 0 < b) (hl : b ≤ 100000000) : W (m__law_any [.deal, .int (b : Nat)]) fun d => ∃ v : Nat, d = .int (v : Nat) ∧ v < b := by
  refine (any_w (b := (b : Nat)) (by omega) (Int.le_trans (show ((b : Nat) : Int) ≤ 100000000 by omega) (by decide +kernel))).mono fun d ⟨v, e, h0, h1⟩ => ⟨v.toNat, ?_, by omega⟩
  rw [e, Int.toNat_of_nonneg h0]
theorem of_w {d : D} {xs : List D} (hd : d = .lst xs ∨ d = .tup xs) (h0 : xs ≠ []) (hl : xs.length ≤ 1000000) : W (m__law_of [.deal, d]) (· ∈ xs) := by
  refine w_gd fun st => ?_
  unfold m__law_of mb__law_of
  have hp : 0 < xs.length := List.length_pos_iff.mpr h0
  have gl : gLen [d] st = .ok (.int (xs.length : Nat)) st := by rcases hd with rfl | rfl <;> rfl
  have gx : ∀ (v : Nat) (hv : v < xs.length) (s : DS), gIx d (.int (v : Nat)) s = .ok xs[v] s := fun v hv s => by
    rcases hd with rfl | rfl
    · exact gIx_lst (List.getElem?_eq_getElem hv)
    · exact gIx_tup (List.getElem?_eq_getElem hv)
  refine gd_fn rfl (gd_ret (gd_op (gd_eq (a := d) (s := st) rfl (gd_callN (gd_cons (gd_eq (a := .deal) (s := st) rfl (gd_cons (gd_call (gd_cons (gd_eq (a := d) (s := st) rfl (gd_nil (gd_eq gl (gd_nil ?_)))))))))))))
  refine W.gd (any_n hp (by omega)) fun a s ⟨v, e, hv⟩ => ?_
  subst e
  exact gd_eq (gx v hv s) (List.getElem_mem hv)
def EvW (n : Nat) (x : Str) (y : Option Sl) : Ev := [some (.dat .deal), some (.dat (.int (n : Nat))), some (.dat (.str x)), y]
theorem word_w {n : Nat} (hn : n ≤ 5) : W (m__law_word [.deal, .int (n : Nat)]) fun d => ∃ x, d = .str x ∧ Sw n x := by
  refine w_gd fun st => ?_
  unfold m__law_word mb__law_word
  refine gd_fn rfl (gd_seq (gd_asgN (gd_eq (a := .str "") (s := st) rfl ?_)))
  rw [ks_nx]
  refine gd_seq (gd_for (gd_src (gd_eq (a := [.int (n : Nat)]) (s := st) rfl (gd_eq (range1 (by omega)) ?_))))
  refine gd_loop (fun r Γ s => ∃ x y k, Γ = EvW n x y ∧ Sw k x ∧ k + r.length = n) ⟨"", none, 0, rfl, Sw.empty, by simp⟩ ?_ ?_
  · rintro u r Γ s ⟨x, y, k, rfl, hx, hl⟩
    rw [List.length_cons] at hl
    have ea : mCons (mVar 0) (mCons (mFrz (mCallO gListOfA (mCons (mC (.str abc)) mNil))) mNil) ((EvW n x y).set 3 (some (.dat (.int (u : Nat))))) s = .ok [.deal, .lst ((signs abc).map D.str)] s :=
      eq_gd (gd_cons (gd_eq (a := .deal) (s := s) rfl (gd_cons (gd_frz (gd_callO (gd_cons (gd_eq (a := .str abc) (s := s) rfl (gd_nil (gd_eq abc_ok (gd_nil ⟨rfl, rfl⟩))))))))))
    refine ⟨_, rfl, gd_asgN (gd_op (gd_eq (a := .str x) (s := s) rfl (gd_callN (gd_eq ea ?_))))⟩
    refine W.gd (of_w (.inl rfl) (fun e => by have := abc_len; rw [e] at this; cases this) (by rw [abc_len]; decide)) fun d s' hd => ?_
    obtain ⟨z, hz, rfl⟩ := List.mem_map.mp hd
    have sz := abc_sw z hz
    have hle : x.length + z.length ≤ sizeLine := big_line (by have := hx.2; have := sz.2; omega)
    rw [add_s, if_pos hle]
    exact .mk ⟨_, .inl rfl, x ++ z, some (.dat (.int (u : Nat))), k + 1, rfl, hx.app sz, by omega⟩
  · rintro Γ s ⟨x, y, k, rfl, hx, hl⟩
    rw [ks_nx]
    exact gd_ret (gd_eq (a := .str x) (s := s) rfl ⟨x, rfl, by rw [← hl]; exact hx⟩)
def EvN (n : Nat) (f : Str) (fd : List Nm) (x : Option Sl) : Ev := [some (.dat .deal), some (.dat (.int (n : Nat))), some (.dat (.str f)), some (.own (.ls (fd.map nm))), x]
theorem names_w {n : Nat} (hn : n ≤ 100) : W (m__law_names [.deal, .int (n : Nat)]) fun d => ∃ xs : List Nm, d = .lst (xs.map nm) ∧ Asc xs ∧ xs.length ≤ n ∧ (0 < n → xs ≠ []) := by
  refine w_gd fun st => ?_
  unfold m__law_names mb__law_names
  refine gd_fn rfl (gd_seq (gd_parX (gd_gDa (gd_callN (gd_cons (gd_eq (a := .deal) (s := st) rfl (gd_cons (gd_callN (gd_eq (a := [.deal, .lst [.int 0, .int 0, .int 1, .int 5]]) (s := st) rfl ?_)))))))))
  refine W.gd (of_w (.inl rfl) (by simp) (by simp)) fun d s hd => ?_
  obtain ⟨k, rfl, hk⟩ : ∃ k : Nat, d = .int (k : Nat) ∧ k ≤ 5 := by
    simp only [List.mem_cons, List.not_mem_nil, or_false] at hd
    rcases hd with rfl | rfl | rfl | rfl
    · exact ⟨0, rfl, by decide⟩
    · exact ⟨0, rfl, by decide⟩
    · exact ⟨1, rfl, by decide⟩
    · exact ⟨5, rfl, by decide⟩
  refine gd_nil (W.gd (word_w hk) fun d s ⟨f, e, hf⟩ => ?_)
  subst e
  have hf : Sw 5 f := hf.le hk
  refine gd_gOw (gd_disp (gd_nil ⟨Nat.zero_le _, ?_⟩))
  rw [ks_nx]
  refine gd_seq (gd_for (gd_src (gd_eq (a := [.int (n : Nat)]) (s := s) rfl (gd_eq (range1 (by omega)) ?_))))
  refine gd_loop (fun r Γ s => ∃ fd x, Γ = EvN n f fd x ∧ fd.length + r.length = n) ⟨[], none, rfl, by simp⟩ ?_ ?_
  · rintro u r Γ s ⟨fd, x, rfl, hl⟩
    rw [List.length_cons] at hl
    refine ⟨_, rfl, gd_app (xs := fd.map nm) rfl (by rw [List.length_map]; exact Nat.lt_of_le_of_lt (show fd.length ≤ 100 by omega) (by decide)) (gd_op (gd_eq (a := .str f) (s := s) rfl (gd_callN (gd_cons (gd_eq (a := .deal) (s := s) rfl (gd_cons (gd_callN (gd_eq (a := [.deal, .lst [.int 1, .int 1, .int 2, .int 3]]) (s := s) rfl ?_))))))))⟩
    refine W.gd (of_w (.inl rfl) (by simp) (by simp)) fun d s hd => ?_
    obtain ⟨k, rfl, hk⟩ : ∃ k : Nat, d = .int (k : Nat) ∧ k ≤ 5 := by
      simp only [List.mem_cons, List.not_mem_nil, or_false] at hd
      rcases hd with rfl | rfl | rfl | rfl
      · exact ⟨1, rfl, by decide⟩
      · exact ⟨1, rfl, by decide⟩
      · exact ⟨2, rfl, by decide⟩
      · exact ⟨3, rfl, by decide⟩
    refine gd_nil (W.gd (word_w hk) fun d s ⟨g, e, hg⟩ => ?_)
    subst e
    have hg : Sw 5 g := hg.le hk
    have hle : f.length + g.length ≤ sizeLine := big_line (by have := hf.2; have := hg.2; omega)
    rw [add_s, if_pos hle]
    refine .mk ⟨_, .inl rfl, fd ++ [(hf.app hg).nm (by decide)], some (.dat (.int (u : Nat))), ?_, by simp; omega⟩
    unfold EvN
    rw [List.map_append]
    rfl
  · rintro Γ s ⟨fd, x, rfl, hl⟩
    rw [List.length_nil, Nat.add_zero] at hl
    rw [ks_nx]
    obtain ⟨ys, es, asc, mm, ly⟩ := sortS_nm (st := s) (xs := fd) (by omega)
    refine gd_ret (gd_bor (xs := fd.map nm) rfl (gd_frz (gd_callO (gd_cons (gd_call (gd_eq (a := [.bor (fd.map nm)]) (s := s) rfl (gd_eq (set_nm (by omega)) (gd_nil (gd_eq es ?_)))))))))
    refine ⟨noBor_lstM (fun a => noBor_nm) ys, ys, rfl, asc, by omega, fun h0 e => ?_⟩
    subst e
    cases fd with
    | nil => simp at hl; omega
    | cons z fd => exact (List.not_mem_nil ((mm z).mpr List.mem_cons_self)).elim
end Lk56

/-! P56l: the law's land -/
namespace Lk56
open PySem L2 FL
def EvL (n : Nat) (us o : List Nm) (t : Nat) (ls : List (Nm × Nm × Nat)) (x6 x7 x8 : Option Sl) : Ev := [some (.dat .deal), some (.dat (.int (n : Nat))), some (.dat (.lst (us.map nm))), some (.own (.ls (ls.map ln))), some (.dat (.lst (o.map nm))), some (.dat (.int (t : Nat))), x6, x7, x8, none]
structure Land (n : Nat) (us : List Nm) (ls : List (Nm × Nm × Nat)) : Prop where
  asc : Asc us
  few : us.length ≤ n
  ne : us ≠ []
  grow : Grow us ls
  len : ls.length ≤ n
/-- a length is drawn -/
abbrev lenB : EM := mOp gAdd (mC (.int 1)) (mOp gIx (mLst (mCons (mC (.int 0)) (mCons (mCall (fun ds => nxM (m__law_any ds)) (mCons (mVar 0) (mCons (mC (.int 3)) mNil))) (mCons (mCall (fun ds => nxM (m__law_any ds)) (mCons (mVar 0) (mCons (mC (.int 9)) mNil))) (mCons (mCall (fun ds => nxM (m__law_any ds)) (mCons (mVar 0) (mCons (mC (.int 50)) mNil))) (mCons (mCall (fun ds => nxM (m__law_any ds)) (mCons (mVar 0) (mCons (mC (.int 1000000)) mNil))) mNil)))))) (mCall (fun ds => nxM (m__law_any ds)) (mCons (mVar 0) (mCons (mC (.int 5)) mNil))))
theorem draw {Γ : Ev} {s : DS} {b : Nat} {P : D → DS → Prop} (h0 : Γ[0]? = some (some (.dat .deal))) (hb : 0 < b ∧ b ≤ 100000000) (h : ∀ v s, v < b → P (.int ((v : Nat) : Int)) s) : Gd (mCall (fun ds => nxM (m__law_any ds)) (mCons (mVar 0) (mCons (mC (.int (b : Nat))) mNil)) Γ s) P := by
  refine gd_callN (gd_cons (gd_eq (mVar_at h0) (gd_cons (gd_eq (a := .int (b : Nat)) (s := s) rfl (gd_nil (W.gd (any_n hb.1 hb.2) fun d s ⟨v, e, hv⟩ => ?_))))))
  rw [e]
  exact h v s hv
theorem len_w {Γ : Ev} {s : DS} {P : D → DS → Prop} (h0 : Γ[0]? = some (some (.dat .deal))) (h : ∀ c s, 1 ≤ c ∧ c ≤ 1000000 → P (.int ((c : Nat) : Int)) s) : Gd (lenB Γ s) P := by
  refine gd_op (gd_eq (a := .int 1) (s := s) rfl (gd_op (gd_lst (gd_cons (gd_eq (a := .int 0) (s := s) rfl (gd_cons (draw (b := 3) h0 (by decide) fun v1 s h1 => gd_cons (draw (b := 9) h0 (by decide) fun v2 s h2 => gd_cons (draw (b := 50) h0 (by decide) fun v3 s h3 => gd_cons (draw (b := 1000000) h0 (by decide) fun v4 s h4 => gd_nil ⟨show 5 ≤ 1000000 by decide, draw (b := 5) h0 (by decide) fun v s hv => ?_⟩))))))))))
  have fin : ∀ (w : Nat) (d : D) (s : DS), d = .int (w : Nat) → w < 1000000 → Gd (gAdd (.int 1) d s) P := fun w d s e hw => by
    subst e
    rw [add_i, show ((1 : Int) + (w : Nat)) = ((1 + w : Nat) : Int) by omega]
    exact .mk (h _ s (by omega))
  match v, hv with
  | 0, _ => exact gd_eq (gIx_lst (i := 0) rfl) (fin 0 _ s rfl (by decide))
  | 1, _ => exact gd_eq (gIx_lst (i := 1) rfl) (fin v1 _ s rfl (by omega))
  | 2, _ => exact gd_eq (gIx_lst (i := 2) rfl) (fin v2 _ s rfl (by omega))
  | 3, _ => exact gd_eq (gIx_lst (i := 3) rfl) (fin v3 _ s rfl (by omega))
  | 4, _ => exact gd_eq (gIx_lst (i := 4) rfl) (fin v4 _ s rfl (by omega))
theorem range_drop {m i u : Nat} {r : List Nat} (h : (List.range m).drop i = u :: r) : u = i ∧ r = (List.range m).drop (i + 1) ∧ i < m := by
  have hi : i < m := by
    have := congrArg List.length h
    simp at this
    omega
  rw [List.drop_eq_getElem_cons (by simpa using hi)] at h
  injection h with h1 h2
  exact ⟨by rw [← h1]; simp, h2.symm, hi⟩
theorem ix_nmL {us : List Nm} {i : Nat} {st : DS} (h : i < us.length) : gIx (.lst (us.map nm)) (.int (i : Nat)) st = .ok (nm us[i]) st := gIx_lst (by rw [List.getElem?_map, List.getElem?_eq_getElem h]; rfl)
theorem range2 {n : Nat} {st : DS} (h : n ≤ 1000000) : gRange2 [.int 1, .int (n : Nat)] st = .ok ((List.range (n - 1)).map fun i => D.int (1 + (i : Nat))) st := by
  have z : ∀ a b : Int, a = 1 → b = (n : Nat) → gRange2 [.int a, .int b] st = .ok ((List.range (n - 1)).map fun i => D.int (1 + (i : Nat))) st := fun a b ea eb => by
    unfold gRange2
    dsimp only
    rw [if_pos (by rw [decide_eq_true_eq]; omega), show (b - a).toNat = n - 1 by omega, ea]
  exact z _ _ rfl rfl
theorem mm_ok (a b : Nm) (s : DS) : (gMinA [nm a, nm b] s = .ok (nm a) s ∧ gMaxA [nm a, nm b] s = .ok (nm b) s) ∨ (gMinA [nm a, nm b] s = .ok (nm b) s ∧ gMaxA [nm a, nm b] s = .ok (nm a) s) := by
  have h1 : gMinA [nm a, nm b] s = .ok (.str (minT a.1 b.1)) s := rfl
  have h2 : gMaxA [nm a, nm b] s = .ok (.str (maxT a.1 b.1)) s := rfl
  rw [h1, h2]
  rcases minT_maxT a b with ⟨e1, e2⟩ | ⟨e1, e2⟩
  · exact .inl ⟨by rw [e1]; rfl, by rw [e2]; rfl⟩
  · exact .inr ⟨by rw [e1]; rfl, by rw [e2]; rfl⟩
theorem grow_next {o : List Nm} {ls : List (Nm × Nm × Nat)} {i j c : Nat} {l : Nm × Nm × Nat} (nd : o.Nodup) (hi : i + 1 < o.length) (g : Grow (o.take (i + 1)) ls) (hj : j < i + 1) (hc : 1 ≤ c ∧ c ≤ 1000000) (e : l = (o[j]'(by omega), o[i + 1], c) ∨ l = (o[i + 1], o[j]'(by omega), c)) : Grow (o.take (i + 2)) (ls ++ [l]) := by
  have hp : o[j]'(by omega) ∈ o.take (i + 1) := List.mem_take_iff_getElem.mpr ⟨j, by omega, rfl⟩
  have et : o.take (i + 2) = o.take (i + 1) ++ [o[i + 1]] := (List.take_append_getElem hi).symm
  have hv : o[i + 1] ∉ o.take (i + 1) := fun q => by
    have : (o.take (i + 1) ++ [o[i + 1]]).Nodup := et ▸ nd.sublist (List.take_sublist _ _)
    exact (List.nodup_append.mp this).2.2 _ q _ (by simp) rfl
  refine (Grow.add g hp hv hc e).perm ?_ ?_
  · rw [et]; exact (List.perm_append_singleton _ _).symm
  · exact (List.perm_append_singleton _ _).symm
theorem order_perm {us : List Nm} (nd : us.Nodup) (k : Nat) : (us.drop k ++ us.filter fun x => !decide (x ∈ us.drop k)).Perm us := by
  have nd2 : (us.take k ++ us.drop k).Nodup := by rwa [List.take_append_drop]
  have dj := (List.nodup_append.mp nd2).2.2
  have e1 : (us.take k).filter (fun x => !decide (x ∈ us.drop k)) = us.take k := List.filter_eq_self.mpr fun x hx => by
    have : x ∉ us.drop k := fun q => dj x hx x q rfl
    simp [this]
  have e2 : (us.drop k).filter (fun x => !decide (x ∈ us.drop k)) = [] := List.filter_eq_nil_iff.mpr fun x hx => by simp [hx]
  have : us.filter (fun x => !decide (x ∈ us.drop k)) = us.take k := by
    conv => lhs; rw [← List.take_append_drop k us]
    rw [List.filter_append, List.take_append_drop, e1, e2, List.append_nil]
  rw [this]
  have p := List.perm_append_comm (l₁ := us.drop k) (l₂ := us.take k)
  rwa [List.take_append_drop] at p
theorem land_w {n : Nat} (hn : 0 < n ∧ n ≤ 50) : W (m__law_land [.deal, .int (n : Nat)]) fun d => ∃ us ls, d = .tup [.lst (us.map nm), .lst (ls.map ln)] ∧ Land n us ls := by
  refine w_gd fun st => ?_
  unfold m__law_land mb__law_land
  refine gd_fn rfl (gd_seq (gd_parX (gd_gDa (gd_callN (gd_cons (gd_eq (a := .deal) (s := st) rfl (gd_cons (gd_op (gd_eq (a := .int 1) (s := st) rfl (gd_callN (gd_eq (a := [.deal, .int (n : Nat)]) (s := st) rfl ?_)))))))))))
  refine W.gd (any_n hn.1 (by omega)) fun d s ⟨v, e, hv⟩ => ?_
  subst e
  rw [add_i, show ((1 : Int) + (v : Nat)) = ((1 + v : Nat) : Int) by omega]
  refine .mk (gd_nil (W.gd (names_w (n := 1 + v) (by omega)) fun d s ⟨us, e, asc, hl, h0⟩ => ?_))
  subst e
  have h0 := h0 (by omega)
  have hp : 0 < us.length := List.length_pos_iff.mpr h0
  have nd := asc.nodup
  refine gd_gOw (gd_disp (gd_nil ⟨Nat.zero_le _, ?_⟩))
  rw [ks_nx]
  -- the order
  refine gd_seq (gd_asg (gd_tup (gd_cons (gd_slD (gd_eq (a := .lst (us.map nm)) (s := s) rfl ⟨us.map nm, rfl, gd_callN (gd_cons (gd_eq (a := .deal) (s := s) rfl (gd_cons (gd_call (gd_cons (gd_eq (a := .lst (us.map nm)) (s := s) rfl (gd_nil (gd_eq (a := .int ((us.map nm).length : Nat)) (s := s) rfl (gd_nil ?_)))))))))⟩)))))
  rw [List.length_map]
  refine W.gd (any_n hp (by omega)) fun d s ⟨k, e, hk⟩ => ?_
  subst e
  refine ⟨k, rfl, by omega, gd_cons (draw (b := 3) rfl (by decide) fun t s ht => gd_nil ⟨show 2 ≤ 1000000 by decide, _, rfl, ?_⟩)⟩
  rw [ks_nx, ← List.map_drop]
  have ec : ∀ (Γ : Ev) (s : DS), Γ.length = 10 → Γ[2]? = some (some (.dat (.lst (us.map nm)))) → Γ[4]? = some (some (.dat (.lst ((us.drop k).map nm)))) → mComp (mSeqOf (mVar 2)) (mgName 9) (mB (mOp gNotInA (mVar 9) (mVar 4))) (mVar 9) [9] Γ s = .ok ((us.filter fun x => !decide (x ∈ us.drop k)).map nm) s := fun Γ s hl g2 g4 => by
    have hs : mSeqOf (mVar 2) Γ s = .ok (us.map nm) s := by rw [ev_seqOf, mVar_at g2]; rfl
    rw [ev_comp, hs, ob_ok, if_pos (by rw [List.length_map]; exact big_line (by omega)), compL_map]
    refine Eq.trans (compF_congr (b' := fun p s => if p ∈ us.drop k then .ok none s else .ok (some (nm p)) s) (fun p _ s => ?_) s) compF_if'
    rw [ev_stepF, ev_gName]
    dsimp only
    have v9 : mVar 9 ((wipeE Γ [9]).set 9 (some (.dat (nm p)))) s = .ok (nm p) s := mVar_at (by rw [ev_wipe, ev_wipe0, List.set_set]; simp [hl])
    have v4 : mVar 4 ((wipeE Γ [9]).set 9 (some (.dat (nm p)))) s = .ok (.lst ((us.drop k).map nm)) s := mVar_at (by rw [ev_wipe, ev_wipe0, List.set_set, List.getElem?_set_ne (by decide)]; exact g4)
    rw [ev_b, ev_op, v9, ob_ok, v4, ob_ok, show gNotInA (nm p) (.lst ((us.drop k).map nm)) s = .ok (.bl (true != decide (p ∈ us.drop k))) s from in_nmL]
    by_cases h : p ∈ us.drop k
    · rw [if_pos h, decide_eq_true h]; rfl
    · rw [if_neg h, decide_eq_false h]
      show ((mVar 9 _ s).nx).bind _ = _
      rw [v9]; rfl
  refine gd_seq (gd_asgN (gd_op (gd_eq (a := .lst ((us.drop k).map nm)) (s := s) rfl (gd_frz (gd_eq (ec _ s rfl rfl rfl) ?_)))))
  have po := order_perm nd k
  generalize ho : us.drop k ++ us.filter (fun x => !decide (x ∈ us.drop k)) = o at po
  have hlo : o.length = us.length := po.length_eq
  rw [add_l, if_pos (by rw [List.length_map, List.length_map]; exact big_line (by rw [← List.length_append, ho, hlo]; omega)), ← List.map_append, ho]
  refine .mk ?_
  rw [ks_nx]
  have ndo : o.Nodup := po.nodup_iff.mpr nd
  -- the lines
  refine gd_seq (gd_for (gd_src (gd_cons (gd_eq (a := .int 1) (s := s) rfl (gd_cons (gd_call (gd_cons (gd_eq (a := .lst (o.map nm)) (s := s) rfl (gd_nil (gd_eq (a := .int ((o.map nm).length : Nat)) (s := s) rfl (gd_nil ?_)))))))))))
  rw [List.length_map]
  refine gd_eq (range2 (by omega)) ?_
  refine gd_loop (fun r Γ s => ∃ ls x6 x7 x8 i, Γ = EvL n us o t ls x6 x7 x8 ∧ r = (List.range (o.length - 1)).drop i ∧ i ≤ o.length - 1 ∧ Grow (o.take (i + 1)) ls ∧ ls.length = i) ⟨[], none, none, none, 0, rfl, rfl, Nat.zero_le _, ?_, rfl⟩ ?_ ?_
  · have : o.take 1 = [o[0]'(by omega)] := by
      cases o with
      | nil => simp at hlo; omega
      | cons x o => rfl
    rw [this]
    exact .one _
  · rintro u r Γ s ⟨ls, x6, x7, x8, i, rfl, hr, hi, hg, hll⟩
    obtain ⟨rfl, hr, hi⟩ := range_drop hr.symm
    have hi1 : u + 1 < o.length := by omega
    refine ⟨_, rfl, ?_⟩
    have e6 : ((1 : Int) + (u : Nat)) = ((u + 1 : Nat) : Int) := by omega
    rw [e6]
    have ahead : Gd (mIf (mB (mOp gEq (mVar 5) (mC (.int 0)))) (mOp gIx (mVar 4) (mOp gSub (mVar 6) (mC (.int 1)))) (mOp gIx (mVar 4) (mCall (fun ds => nxM (m__law_any ds)) (mCons (mVar 0) (mCons (mVar 6) mNil)))) ((EvL n us o t ls x6 x7 x8).set 6 (some (.dat (.int ((u + 1 : Nat) : Int))))) s) fun d _ => ∃ j, ∃ hj : j < u + 1, d = nm (o[j]'(by omega)) := by
      refine gd_ifX (gd_b (gd_op (gd_eq (a := .int (t : Nat)) (s := s) rfl (gd_eq (a := .int 0) (s := s) rfl (gd_eq eq_i ⟨_, rfl, fun _ => ?_, fun _ => ?_⟩)))))
      · refine gd_op (gd_eq (a := .lst (o.map nm)) (s := s) rfl (gd_op (gd_eq (a := .int ((u + 1 : Nat) : Int)) (s := s) rfl (gd_eq (a := .int 1) (s := s) rfl ?_))))
        rw [sub_i, show (((u + 1 : Nat) : Int) - 1) = (u : Nat) by omega]
        exact .mk (gd_eq (ix_nmL (i := u) (by omega)) ⟨u, by omega, rfl⟩)
      · refine gd_op (gd_eq (a := .lst (o.map nm)) (s := s) rfl (gd_callN (gd_eq (a := [.deal, .int ((u + 1 : Nat) : Int)]) (s := s) rfl (W.gd (any_n (b := u + 1) (by omega) (by omega)) fun d s ⟨j, e, hj⟩ => ?_))))
        rw [e]
        exact gd_eq (ix_nmL (i := j) (by omega)) ⟨j, hj, rfl⟩
    refine gd_seq (gd_asgN (ahead.mono fun d s ⟨j, hj, e⟩ => ?_))
    subst e
    rw [ks_nx]
    refine gd_seq (gd_asgN (len_w rfl fun c s hc => ?_))
    rw [ks_nx]
    have last : ∀ (a b : Nm), ((gMinA [nm (o[j]'(by omega)), nm o[u + 1]] s = .ok (nm a) s ∧ gMaxA [nm (o[j]'(by omega)), nm o[u + 1]] s = .ok (nm b) s)) → (((a, b, c) : Nm × Nm × Nat) = (o[j]'(by omega), o[u + 1], c) ∨ ((a, b, c) : Nm × Nm × Nat) = (o[u + 1], o[j]'(by omega), c)) →
        Gd (mApp 3 (mTup (mCons (mCall gMinA (mCons (mVar 7) (mCons (mOp gIx (mVar 4) (mVar 6)) mNil))) (mCons (mCall gMaxA (mCons (mVar 7) (mCons (mOp gIx (mVar 4) (mVar 6)) mNil))) (mCons (mVar 8) mNil)))) (EvL n us o t ls (some (.dat (.int ((u + 1 : Nat) : Int)))) (some (.dat (nm (o[j]'(by omega))))) (some (.dat (.int (c : Nat))))) s) fun fl s => ∃ Γ2, (fl = .nx Γ2 ∨ fl = .ct Γ2) ∧ ∃ ls x6 x7 x8 i, Γ2 = EvL n us o t ls x6 x7 x8 ∧ r = (List.range (o.length - 1)).drop i ∧ i ≤ o.length - 1 ∧ Grow (o.take (i + 1)) ls ∧ ls.length = i := fun a b ⟨h1, h2⟩ he => by
      have args : ∀ s, mCons (mVar 7) (mCons (mOp gIx (mVar 4) (mVar 6)) mNil) (EvL n us o t ls (some (.dat (.int ((u + 1 : Nat) : Int)))) (some (.dat (nm (o[j]'(by omega))))) (some (.dat (.int (c : Nat))))) s = .ok [nm (o[j]'(by omega)), nm o[u + 1]] s := fun s =>
        eq_gd (gd_cons (gd_eq (a := nm (o[j]'(by omega))) (s := s) rfl (gd_cons (gd_op (gd_eq (a := .lst (o.map nm)) (s := s) rfl (gd_eq (a := .int ((u + 1 : Nat) : Int)) (s := s) rfl (gd_eq (ix_nmL hi1) (gd_nil ⟨rfl, rfl⟩))))))))
      refine gd_app (xs := ls.map ln) rfl (by rw [List.length_map]; exact Nat.lt_of_le_of_lt (show ls.length ≤ 100 by omega) (by decide)) (gd_tup (gd_cons (gd_call (gd_eq (args s) (gd_eq h1 (gd_cons (gd_call (gd_eq (args s) (gd_eq h2 (gd_cons (gd_eq (a := .int (c : Nat)) (s := s) rfl (gd_nil ⟨show 3 ≤ 1000000 by decide, _, .inl rfl, ls ++ [(a, b, c)], some (.dat (.int ((u + 1 : Nat) : Int))), some (.dat (nm (o[j]'(by omega)))), some (.dat (.int (c : Nat))), u + 1, ?_, hr, by omega, grow_next ndo hi1 hg hj hc he, by simp [hll]⟩))))))))))))
      unfold EvL
      rw [List.map_append]
      rfl
    rcases mm_ok (o[j]'(by omega)) o[u + 1] s with h | h
    · exact last _ _ h (.inl rfl)
    · exact last _ _ h (.inr rfl)
  · rintro Γ s ⟨ls, x6, x7, x8, i, rfl, hr, hi, hg, hll⟩
    rw [ks_nx]
    have hi2 : i = o.length - 1 := by
      have := congrArg List.length hr
      simp at this
      omega
    subst hi2
    rw [show o.length - 1 + 1 = o.length by omega, List.take_length] at hg
    obtain ⟨qs, pq, es, _⟩ := sorted_ln (st := s) (xs := ls) (by omega)
    refine gd_ret (gd_bor (xs := ls.map ln) rfl (gd_tup (gd_cons (gd_eq (a := .lst (us.map nm)) (s := s) rfl (gd_cons (gd_frz (gd_callO (gd_eq (a := [.bor (ls.map ln)]) (s := s) rfl (gd_eq es (gd_nil ⟨show 2 ≤ 1000000 by decide, ?_⟩))))))))))
    refine ⟨by simp only [noBor, noBors, noBors_map (fun _ => noBor_nm), noBors_map (fun _ => noBor_ln)]; rfl, us, qs, rfl, asc, by omega, h0, hg.perm po pq.symm, by rw [pq.length_eq]; omega⟩
end Lk56

/-! P56w: the ways, by walking -/
namespace Lk56
open PySem L2 FL
def rd (us : List Nm) (ls : List (Nm × Nm × Nat)) : D := .ins c_Roads ["places", "lines"] [.tup (us.map nm), .tup (ls.map ln)]
theorem fld_p {us : List Nm} {ls : List (Nm × Nm × Nat)} {st : DS} : gFld [c_Roads] "places" (rd us ls) st = .ok (.tup (us.map nm)) st := rfl
theorem fld_l {us : List Nm} {ls : List (Nm × Nm × Nat)} {st : DS} : gFld [c_Roads] "lines" (rd us ls) st = .ok (.tup (ls.map ln)) st := rfl
def nbr (ls : List (Nm × Nm × Nat)) (x : Nm) : List Nm := ((ls.filter fun l => decide (l.1 = x)).map fun l => l.2.1) ++ ((ls.filter fun l => decide (l.2.1 = x)).map fun l => l.1)
theorem next_w {us : List Nm} {ls : List (Nm × Nm × Nat)} {x : Nm} {st : DS} (hl : ls.length ≤ 100) : Gd (m_next_to [rd us ls, nm x] st) fun d s => s = st ∧ ∃ ys : List (Nm × Nat), d = .lst (ys.map pn) ∧ (∀ t c, (t, c) ∈ ys ↔ Eg ls x t c) ∧ ys.length ≤ 1000 ∧ (ys.map (·.1)).Perm (nbr ls x) ∧ Up (ys.map (·.1)) := by
  unfold m_next_to mb_next_to
  have src : ∀ (x2 : Option Sl) (s : DS), mSeqOf (mUn (gFld [c_Roads] "lines") (mVar 0)) [some (.dat (rd us ls)), some (.dat (nm x)), x2, none, none, none] s = .ok (ls.map ln) s := fun x2 s => rfl
  have c1 : ∀ (x2 : Option Sl) (s : DS), mComp (mSeqOf (mUn (gFld [c_Roads] "lines") (mVar 0))) (mgTup 3 (mgCons (mgName 3) (mgCons (mgName 4) (mgCons (mgName 5) mgNil)))) (mB (mOp gEq (mVar 3) (mVar 1))) (mTup (mCons (mVar 4) (mCons (mVar 5) mNil))) [3, 4, 5] [some (.dat (rd us ls)), some (.dat (nm x)), x2, none, none, none] s = .ok ((ls.filter fun l => decide (l.1 = x)).map fun l => pn (l.2.1, l.2.2)) s := fun x2 s =>
    comp_if (f := ln) (src x2 s) (by omega) fun l _ => ⟨_, rfl, fun s => eq_gd (gd_b (gd_op (gd_eq (a := nm l.1) (s := s) rfl (gd_eq (a := nm x) (s := s) rfl (gd_eq eq_nm ⟨_, rfl, rfl, rfl⟩))))), fun _ s => eq_gd (gd_tup (gd_cons (gd_eq (a := nm l.2.1) (s := s) rfl (gd_cons (gd_eq (a := inD l.2.2) (s := s) rfl (gd_nil ⟨show 2 ≤ 1000000 by decide, rfl, rfl⟩))))))⟩
  have c2 : ∀ (x2 : Option Sl) (s : DS), mComp (mSeqOf (mUn (gFld [c_Roads] "lines") (mVar 0))) (mgTup 3 (mgCons (mgName 3) (mgCons (mgName 4) (mgCons (mgName 5) mgNil)))) (mB (mOp gEq (mVar 4) (mVar 1))) (mTup (mCons (mVar 3) (mCons (mVar 5) mNil))) [3, 4, 5] [some (.dat (rd us ls)), some (.dat (nm x)), x2, none, none, none] s = .ok ((ls.filter fun l => decide (l.2.1 = x)).map fun l => pn (l.1, l.2.2)) s := fun x2 s =>
    comp_if (f := ln) (src x2 s) (by omega) fun l _ => ⟨_, rfl, fun s => eq_gd (gd_b (gd_op (gd_eq (a := nm l.2.1) (s := s) rfl (gd_eq (a := nm x) (s := s) rfl (gd_eq eq_nm ⟨_, rfl, rfl, rfl⟩))))), fun _ s => eq_gd (gd_tup (gd_cons (gd_eq (a := nm l.1) (s := s) rfl (gd_cons (gd_eq (a := inD l.2.2) (s := s) rfl (gd_nil ⟨show 2 ≤ 1000000 by decide, rfl, rfl⟩))))))⟩
  obtain ⟨zs, hz⟩ : ∃ zs : List (Nm × Nat), zs = ((ls.filter fun l => decide (l.1 = x)).map fun l => (l.2.1, l.2.2)) ++ ((ls.filter fun l => decide (l.2.1 = x)).map fun l => (l.1, l.2.2)) := ⟨_, rfl⟩
  have f1 := List.length_filter_le (fun l : Nm × Nm × Nat => decide (l.1 = x)) ls
  have f2 := List.length_filter_le (fun l : Nm × Nm × Nat => decide (l.2.1 = x)) ls
  have lz : zs.length ≤ 200 := by
    rw [hz, List.length_append, List.length_map, List.length_map]
    omega
  have ez : ((ls.filter fun l => decide (l.1 = x)).map fun l => pn (l.2.1, l.2.2)) ++ ((ls.filter fun l => decide (l.2.1 = x)).map fun l => pn (l.1, l.2.2)) = zs.map pn := by
    rw [hz, List.map_append, List.map_map, List.map_map]
    rfl
  obtain ⟨ys, py, es, up⟩ := sorted_pnO (st := st) (xs := zs) (by omega)
  refine gd_fn rfl (gd_seq (gd_asgN (gd_frz (gd_eq (c1 none st) ?_))))
  rw [ks_nx]
  refine gd_ret (gd_frz (gd_callO (gd_cons (gd_op (gd_eq (a := .lst ((ls.filter fun l => decide (l.1 = x)).map fun l => pn (l.2.1, l.2.2))) (s := st) rfl (gd_frz (gd_eq (c2 (some (.dat (.lst ((ls.filter fun l : Nm × Nm × Nat => decide (l.1 = x)).map fun l : Nm × Nm × Nat => pn (l.2.1, l.2.2))))) st) ?_)))))))
  rw [add_l, if_pos (by rw [List.length_map, List.length_map]; exact big_line (by omega)), ez]
  refine .mk (gd_nil (gd_eq es ⟨rfl, ys, rfl, fun t c => ?_, by rw [py.length_eq]; omega, ?_, up⟩))
  · rw [py.mem_iff]
    simp only [hz, List.mem_append, List.mem_map, List.mem_filter, decide_eq_true_eq, Prod.mk.injEq]
    unfold Eg
    constructor
    · rintro (⟨⟨a, b, e⟩, ⟨h, rfl⟩, rfl, rfl⟩ | ⟨⟨a, b, e⟩, ⟨h, rfl⟩, rfl, rfl⟩)
      · exact .inl h
      · exact .inr h
    · rintro (h | h)
      · exact .inl ⟨_, ⟨h, rfl⟩, rfl, rfl⟩
      · exact .inr ⟨_, ⟨h, rfl⟩, rfl, rfl⟩
  · have e : nbr ls x = zs.map (·.1) := by
      rw [hz, List.map_append, List.map_map, List.map_map]
      rfl
    rw [e]
    exact py.map _
theorem gd_eq_seq {us : List Nm} {ls : List (Nm × Nm × Nat)} {x : Nm} {Γ : Ev} {st : DS} {i j : Nat} {P : List D → DS → Prop} (hl : ls.length ≤ 100) (h0 : Γ[i]? = some (some (.dat (rd us ls)))) (h4 : Γ[j]? = some (some (.dat (nm x)))) (h : ∀ ys : List (Nm × Nat), (∀ t c, (t, c) ∈ ys ↔ Eg ls x t c) → ys.length ≤ 1000 → (ys.map (·.1)).Perm (nbr ls x) → Up (ys.map (·.1)) → P (ys.map pn) st) : Gd (mSeqOf (mCall (fun ds => nxM (m_next_to ds)) (mCons (mVar i) (mCons (mVar j) mNil))) Γ st) P := by
  rw [ev_seqOf, gd_bind]
  refine gd_callN (gd_cons (gd_eq (mVar_at h0) (gd_cons (gd_eq (mVar_at h4) (gd_nil ((next_w hl).mono fun d s ⟨e1, ys, e2, e3, e4, e5, e6⟩ => ?_))))))
  subst e1
  subst e2
  exact .mk (h ys e3 e4 e5 e6)
/-! ### the walk -/
section
variable {us : List Nm} {ls : List (Nm × Nm × Nat)} {d : Nm → Nm → Nat} {p : Nm} {st : DS}
def EvF (us : List Nm) (ls : List (Nm × Nm × Nat)) (d : Nm → Nm → Nat) (p : Nm) (F w : List Nm) (x4 x5 x6 : Option Sl) : Ev := [some (.dat (rd us ls)), some (.dat (nm p)), some (.own (.dk (dkN F fun x => inD (d p x)))), some (.own (.ls (w.map nm))), x4, x5, x6, none]
/-- what was met is met on ways that were -/
structure Seen (us : List Nm) (ls : List (Nm × Nm × Nat)) (d : Nm → Nm → Nat) (p : Nm) (F : List Nm) : Prop where
  nd : F.Nodup
  sub : ∀ x ∈ F, x ∈ us
  st : p ∈ F
  cl : ∀ x, x ∈ F → x = p ∨ ∃ x' c, x' ∈ F ∧ Eg ls x x' c ∧ d p x = d p x' + c
theorem Seen.add {F : List Nm} {h t : Nm} {c : Nat} (S : Seen us ls d p F) (M : Met us (Eg ls) d) (hp : p ∈ us) (hh : h ∈ F) (e : Eg ls h t c) (ht : t ∉ F) : Seen us ls d p (F ++ [t]) ∧ d p t = d p h + c := by
  have q := M.fresh hp S.cl hh e ht
  refine ⟨⟨?_, fun x hx => ?_, List.mem_append_left _ S.st, fun x hx => ?_⟩, q⟩
  · exact (List.perm_append_singleton t F).nodup_iff.mpr (List.nodup_cons.mpr ⟨ht, S.nd⟩)
  · rcases List.mem_append.mp hx with hx | hx
    · exact S.sub x hx
    · rw [List.mem_singleton.mp hx]; exact (M.edge _ _ _ e).2.1
  · rcases List.mem_append.mp hx with hx | hx
    · rcases S.cl x hx with h | ⟨x', c', h1, h2, h3⟩
      · exact .inl h
      · exact .inr ⟨x', c', List.mem_append_left _ h1, h2, h3⟩
    · rw [List.mem_singleton.mp hx]
      exact .inr ⟨h, c, List.mem_append_left _ hh, Or.symm e, q⟩
theorem ways_at (M : Met us (Eg ls) d) (hp : p ∈ us) (hl : ls.length ≤ 100) (hu : us.length ≤ 100) : m_ways_from [rd us ls, nm p] st = .ok (.tup (us.map fun x => inD (d p x))) st := by
  refine eq_gd ?_
  unfold m_ways_from mb_ways_from
  refine gd_fn rfl (gd_seq (gd_parX (gd_gDi (gd_dOne (gd_eq (a := nm p) (s := st) rfl (gd_eq (a := .int 0) (s := st) rfl ⟨_, rfl, gd_gOw (gd_disp (gd_cons (gd_eq (a := nm p) (s := st) rfl (gd_nil ⟨show 1 ≤ 1000000 by decide, ?_⟩))))⟩))))))
  rw [ks_nx]
  have e0 : [(kn p, D.int 0)] = dkN [p] fun x => inD (d p x) := by
    show [(kn p, D.int 0)] = [(kn p, inD (d p p))]
    rw [M.refl p hp]
    rfl
  refine gd_seq (gd_while (fun n Γ s => ∃ F w x4 x5 x6 k, Γ = EvF us ls d p F w x4 x5 x6 ∧ n + k = 1000 ∧ k + w.length = F.length ∧ Seen us ls d p F ∧ (∀ x ∈ w, x ∈ F) ∧ (∀ x ∈ F, x ∉ w → ∀ t c, Eg ls x t c → t ∈ F) ∧ s = st) ?_ (n := 1000) ⟨[p], [p], none, none, none, 0, ?_, rfl, rfl, ⟨by simp, fun x hx => by rw [List.mem_singleton.mp hx]; exact hp, by simp, fun x hx => .inl (List.mem_singleton.mp hx)⟩, fun x hx => hx, fun x hx hn => absurd hx hn, rfl⟩)
  · rintro n Γ s ⟨F, w, x4, x5, x6, k, rfl, hn, hk, S, hw, hc, rfl⟩
    have lF : F.length ≤ us.length := S.nd.length_le_of_subset fun x hx => S.sub x hx
    obtain ⟨q, rfl⟩ : ∃ q, n = q + 1 := ⟨n - 1, by omega⟩
    refine ⟨q, rfl, gd_borT (xs := w.map nm) rfl (gd_b (gd_op (gd_eq (a := .bor (w.map nm)) (s := s) rfl (gd_lst (gd_nil ⟨Nat.zero_le _, gd_eq (eqE_nm.ne_nilB (by decide) w) ⟨_, rfl, fun e => ?_, fun e => ?_⟩⟩)))))⟩
    · have h0 : w ≠ [] := by simpa using e
      obtain ⟨w', h, rfl⟩ : ∃ w' h, w = w' ++ [h] := ⟨w.dropLast, w.getLast h0, (List.dropLast_concat_getLast h0).symm⟩
      have hh : h ∈ F := hw h (by simp)
      refine gd_seq (gd_setPop (ys := w'.map nm) (d := nm h) (by simp [EvF, gOwn]) (by decide) ?_)
      rw [ks_nx]
      refine gd_for (gd_eq_seq (us := us) (ls := ls) (x := h) hl rfl rfl fun ys hy ly _ _ => ?_)
      refine gd_loop (fun r Γ s' => ∃ F w x5 x6, Γ = EvF us ls d p F w (some (.dat (nm h))) x5 x6 ∧ k + 1 + w.length = F.length ∧ Seen us ls d p F ∧ h ∈ F ∧ (∀ x ∈ w, x ∈ F) ∧ (∀ x ∈ F, x ∉ w → x ≠ h → ∀ t c, Eg ls x t c → t ∈ F) ∧ (∀ t c, Eg ls h t c → t ∈ F ∨ (t, c) ∈ r) ∧ (∀ t c, (t, c) ∈ r → Eg ls h t c) ∧ s' = s) ⟨F, w', x5, x6, rfl, by simp at hk; omega, S, hh, fun x hx => hw x (by simp [hx]), fun x hx hn he => hc x hx (by simp [hn, he]), fun t c e => .inr ((hy t c).mpr e), fun t c e => (hy t c).mp e, rfl⟩ ?_ ?_
      · rintro ⟨t, c⟩ r Γ s' ⟨F, w, x5, x6, rfl, hk, S, hh, hw, hc, hr, hE, rfl⟩
        have et : Eg ls h t c := hE t c List.mem_cons_self
        have lF : F.length ≤ us.length := S.nd.length_le_of_subset fun x hx => S.sub x hx
        refine ⟨_, rfl, gd_ifS (gd_b (gd_din (kv := dkN F fun x => inD (d p x)) rfl (gd_eq (a := nm t) (s := s') rfl ⟨_, keyD_nm t, _, rfl, fun e => ?_, fun e => ?_⟩)))⟩
        · have ht : t ∉ F := fun q => by rw [val_dkN q] at e; cases e
          obtain ⟨S2, q⟩ := S.add M hp hh et ht
          refine gd_seq (gd_dput (kv := dkN F fun x => inD (d p x)) rfl (by unfold dkN; rw [List.length_map]; exact Nat.lt_of_le_of_lt (show F.length ≤ 100 by omega) (by decide)) (gd_op (gd_dget (kv := dkN F fun x => inD (d p x)) rfl (gd_eq (a := nm h) (s := s') rfl ⟨_, _, keyD_nm h, val_dkN hh, gd_eq (a := inD c) (s := s') rfl (gd_eq (a := inD (d p t)) (s := s') ?_ (gd_eq (a := nm t) (s := s') rfl ⟨_, keyD_nm t, ?_⟩))⟩))))
          · show gAdd (.int _) (.int _) s' = _
            rw [add_i, q]
            rfl
          · rw [ks_nx]
            refine gd_app (xs := w.map nm) rfl (by rw [List.length_map]; exact Nat.lt_of_le_of_lt (show w.length ≤ 100 by omega) (by decide)) (gd_eq (a := nm t) (s := s') rfl ⟨_, .inl rfl, F ++ [t], w ++ [t], some (.dat (nm t)), some (.dat (inD c)), ?_, by simp; omega, S2, List.mem_append_left _ hh, ?_, ?_, ?_, fun t' c' e => hE t' c' (List.mem_cons_of_mem _ e), rfl⟩)
            · rw [put_new ht]
              unfold EvF dkN
              rw [List.map_append, List.map_append]
              rfl
            · intro x hx
              rcases List.mem_append.mp hx with hx | hx
              · exact List.mem_append_left _ (hw x hx)
              · exact List.mem_append_right _ hx
            · intro x hx hn hne t' c' e'
              rcases List.mem_append.mp hx with hx | hx
              · exact List.mem_append_left _ (hc x hx (fun q => hn (List.mem_append_left _ q)) hne t' c' e')
              · exact absurd (List.mem_append_right _ hx) hn
            · intro t' c' e'
              rcases hr t' c' e' with q | q
              · exact .inl (List.mem_append_left _ q)
              · rcases List.mem_cons.mp q with q | q
                · cases q; exact .inl (by simp)
                · exact .inr q
        · have ht : t ∈ F := by
            by_cases q : t ∈ F
            · exact q
            · rw [valD_none q] at e; cases e
          refine .mk ⟨_, .inl rfl, F, w, some (.dat (nm t)), some (.dat (inD c)), rfl, hk, S, hh, hw, hc, fun t' c' e' => ?_, fun t' c' e => hE t' c' (List.mem_cons_of_mem _ e), rfl⟩
          rcases hr t' c' e' with q | q
          · exact .inl q
          · rcases List.mem_cons.mp q with q | q
            · cases q; exact .inl ht
            · exact .inr q
      · rintro Γ s' ⟨F, w, x5, x6, rfl, hk, S, hh, hw, hc, hr, hE, rfl⟩
        refine ⟨_, .inl rfl, F, w, _, x5, x6, k + 1, rfl, by omega, hk, S, hw, fun x hx hn t c e' => ?_, rfl⟩
        by_cases q : x = h
        · subst q
          rcases hr t c e' with z | z
          · exact z
          · cases z
        · exact hc x hx hn q t c e'
    · have h0 : w = [] := by simpa using e
      subst h0
      rw [ks_nx]
      have all : ∀ x ∈ us, x ∈ F := fun x hx => (M.walk p hp x hx).reach (F := (· ∈ F)) (fun a b c fa e => hc a fa (by simp) b c e) S.st
      have ec : mComp (mSeqOf (mUn (gFld [c_Roads] "places") (mVar 0))) (mgName 7) mYes (mDGet 2 (mVar 7)) [7] (EvF us ls d p F [] x4 x5 x6) s = .ok (us.map fun x => inD (d p x)) s :=
        comp_all (f := nm) rfl (by omega) fun x hx => ⟨_, rfl, fun s => eq_gd (gd_dget (kv := dkN F fun x => inD (d p x)) rfl (gd_eq (a := nm x) (s := s) rfl ⟨_, _, keyD_nm x, val_dkN (all x hx), rfl, rfl⟩))⟩
      exact gd_ret (gd_call (gd_cons (gd_frz (gd_eq ec (gd_nil (gd_eq (a := .tup (us.map fun x => inD (d p x))) (s := s) rfl ⟨rfl, rfl⟩))))))
  · rw [e0]
    rfl
end
end Lk56

/-! P56f: the ways between all places -/
namespace Lk56
open PySem L2 FL
section
variable {us : List Nm} {ls : List (Nm × Nm × Nat)} {d : Nm → Nm → Nat} {st : DS} {kt : KT} {f : Nm → Nm → Nat} {x y : Nm} {v : Nat}
abbrev k2 (x y : Nm) : List Key := [kn x, kn y]
theorem k2_inj {a b : Nm} : k2 a b = k2 x y ↔ a = x ∧ b = y := by
  unfold k2
  constructor
  · intro h
    injection h with h1 h2
    injection h2 with h2 _
    exact ⟨kn_inj.mp h1, kn_inj.mp h2⟩
  · rintro ⟨rfl, rfl⟩
    rfl
structure Far (us : List Nm) (d : Nm → Nm → Nat) (kt : KT) (f : Nm → Nm → Nat) : Prop where
  val : ∀ x ∈ us, ∀ y ∈ us, valT kt (k2 x y) = some (inD (f x y))
  low : ∀ x ∈ us, ∀ y ∈ us, d x y ≤ f x y
  len : kt.length ≤ 10000
theorem Far.put (h : Far us d kt f) (hx : x ∈ us) (hy : y ∈ us) (h1 : d x y ≤ v) (h2 : v ≤ f x y) : ∃ f', Far us d (putT kt (k2 x y) (inD v)) f' ∧ (∀ a b, f' a b ≤ f a b) ∧ f' x y = v := by
  refine ⟨fun a b => if a = x ∧ b = y then v else f a b, ⟨fun a ha b hb => ?_, fun a ha b hb => ?_, ?_⟩, fun a b => ?_, by simp⟩
  · rw [valT_put]
    by_cases e : a = x ∧ b = y
    · rw [if_pos (k2_inj.mpr e)]
      simp only [if_pos e]
    · rw [if_neg fun q => e (k2_inj.mp q), h.val a ha b hb]
      simp only [if_neg e]
  · by_cases e : a = x ∧ b = y
    · simp only [if_pos e]; rw [e.1, e.2]; exact h1
    · simp only [if_neg e]; exact h.low a ha b hb
  · rw [putT_has (h.val x hx y hy)]; exact h.len
  · by_cases e : a = x ∧ b = y
    · simp only [if_pos e]; rw [e.1, e.2]; exact h2
    · simp only [if_neg e]; exact Nat.le_refl _
def EvA (us : List Nm) (ls : List (Nm × Nm × Nat)) (kt : KT) (x3 x4 x5 x6 : Option Sl) : Ev := [some (.dat (.lst (us.map nm))), some (.dat (.lst (ls.map ln))), some (.own (.dt kt)), x3, x4, x5, x6]
def f0 (x y : Nm) : Nat := if x = y then 0 else 1000000000
theorem keys2 (a b : Nm) : keysD [nm a, nm b] = some (k2 a b) := rfl
theorem pow9 : gPow (.int 10) (.int 9) st = .ok (inD 1000000000) st := rfl
abbrev inB1 : SM := mTPut 2 (mIf (mB (mOp gEq (mVar 3) (mVar 4))) (mC (.int 0)) (mOp gPow (mC (.int 10)) (mC (.int 9)))) (mCons (mVar 3) (mCons (mVar 4) mNil))
theorem first_w (hu : us.length ≤ 50) : Gd (mFor (mSeqOf (mVar 0)) (mgName 3) (mFor (mSeqOf (mVar 0)) (mgName 4) inB1) (EvA us ls [] none none none none) st) fun fl s => s = st ∧ ∃ kt x3 x4, fl = .nx (EvA us ls kt x3 x4 none none) ∧ kt.length ≤ 10000 ∧ ∀ x ∈ us, ∀ y ∈ us, valT kt (k2 x y) = some (inD (f0 x y)) := by
  have sq : us.length * us.length ≤ 50 * 50 := Nat.mul_le_mul hu hu
  refine gd_for (gd_eq (a := us.map nm) (s := st) rfl ?_)
  refine gd_loop (fun r Γ s => s = st ∧ ∃ kt dn x3 x4, Γ = EvA us ls kt x3 x4 none none ∧ us = dn ++ r ∧ kt.length ≤ dn.length * us.length ∧ ∀ x ∈ dn, ∀ y ∈ us, valT kt (k2 x y) = some (inD (f0 x y))) ⟨rfl, [], [], none, none, rfl, rfl, by simp, fun x hx => (nomatch hx)⟩ ?_ ?_
  · rintro x r Γ s ⟨rfl, kt, dn, x3, x4, rfl, e, hl, hv⟩
    refine ⟨_, rfl, gd_for (gd_eq (a := us.map nm) (s := s) rfl ?_)⟩
    have dl : dn.length + 1 ≤ us.length := by rw [e]; simp
    have dm : (dn.length + 1) * us.length ≤ us.length * us.length := Nat.mul_le_mul_right _ dl
    rw [Nat.add_mul, Nat.one_mul] at dm
    refine gd_loop (fun r2 Γ s' => s' = s ∧ ∃ kt dn2 x4, Γ = EvA us ls kt (some (.dat (nm x))) x4 none none ∧ us = dn2 ++ r2 ∧ kt.length ≤ dn.length * us.length + dn2.length ∧ (∀ x ∈ dn, ∀ y ∈ us, valT kt (k2 x y) = some (inD (f0 x y))) ∧ ∀ y ∈ dn2, valT kt (k2 x y) = some (inD (f0 x y))) ⟨rfl, kt, [], x4, rfl, rfl, by simpa using hl, hv, fun x hx => (nomatch hx)⟩ ?_ ?_
    · rintro y r2 Γ s' ⟨rfl, kt, dn2, x4, rfl, e2, hl, hv, hw⟩
      have dl2 : dn2.length + 1 ≤ us.length := by rw [e2]; simp
      refine ⟨_, rfl, gd_tput (kt := kt) rfl (Nat.lt_of_le_of_lt (show kt.length ≤ 10000 by omega) (by decide)) ?_⟩
      have ev : Gd (mIf (mB (mOp gEq (mVar 3) (mVar 4))) (mC (.int 0)) (mOp gPow (mC (.int 10)) (mC (.int 9))) ((EvA us ls kt (some (.dat (nm x))) x4 none none).set 4 (some (.dat (nm y)))) s') fun v s => v = inD (f0 x y) ∧ s = s' := by
        refine gd_ifX (gd_b (gd_op (gd_eq (a := nm x) (s := s') rfl (gd_eq (a := nm y) (s := s') rfl (gd_eq eq_nm ⟨_, rfl, fun q => ?_, fun q => ?_⟩)))))
        · exact gd_eq (a := inD 0) (s := s') rfl ⟨by unfold f0; rw [if_pos (by simpa using q)], rfl⟩
        · exact gd_op (gd_eq (a := .int 10) (s := s') rfl (gd_eq (a := .int 9) (s := s') rfl (gd_eq pow9 ⟨by unfold f0; rw [if_neg (by simpa using q)], rfl⟩)))
      refine ev.mono fun v s2 ⟨e1, e2'⟩ => ?_
      subst e1; subst e2'
      have keep : ∀ a b, valT kt (k2 a b) = some (inD (f0 a b)) → valT (putT kt (k2 x y) (inD (f0 x y))) (k2 a b) = some (inD (f0 a b)) := fun a b q => by
        rw [valT_put]
        by_cases z : k2 a b = k2 x y
        · rw [if_pos z, (k2_inj.mp z).1, (k2_inj.mp z).2]
        · rw [if_neg z, q]
      refine gd_cons (gd_eq (a := nm x) (s := s2) rfl (gd_cons (gd_eq (a := nm y) (s := s2) rfl (gd_nil ⟨_, keys2 x y, show 2 ≤ sizeLine by decide, _, .inl rfl, rfl, _, dn2 ++ [y], some (.dat (nm y)), rfl, by rw [e2]; simp, ?_, fun a ha b hb => keep a b (hv a ha b hb), fun b hb => ?_⟩))))
      · have := putT_len (kt := kt) (k := k2 x y) (d := inD (f0 x y))
        simp
        omega
      · rcases List.mem_append.mp hb with hb | hb
        · exact keep x b (hw b hb)
        · rw [List.mem_singleton.mp hb, valT_put, if_pos rfl]
    · rintro Γ s' ⟨rfl, kt, dn2, x4, rfl, e2, hl, hv, hw⟩
      rw [List.append_nil] at e2
      subst e2
      refine ⟨_, .inl rfl, rfl, kt, dn ++ [x], some (.dat (nm x)), x4, rfl, by rw [e]; simp, ?_, fun a ha b hb => ?_⟩
      · rw [List.length_append, List.length_singleton, Nat.add_mul, Nat.one_mul]
        exact hl
      · rcases List.mem_append.mp ha with ha | ha
        · exact hv a ha b hb
        · rw [List.mem_singleton.mp ha]; exact hw b hb
  · rintro Γ s ⟨rfl, kt, dn, x3, x4, rfl, e, hl, hv⟩
    rw [List.append_nil] at e
    subst e
    exact ⟨rfl, kt, x3, x4, rfl, by omega, hv⟩
abbrev linB : SM := mSeq (mTPut 2 (mVar 5) (mCons (mVar 3) (mCons (mVar 4) mNil))) (mTPut 2 (mVar 5) (mCons (mVar 4) (mCons (mVar 3) mNil)))
theorem lines_w (M : Met us (Eg ls) d) (hF : Far us d kt f) (hz : ∀ x ∈ us, f x x = 0) {x3 x4 : Option Sl} : Gd (mFor (mSeqOf (mVar 1)) (mgTup 3 (mgCons (mgName 3) (mgCons (mgName 4) (mgCons (mgName 5) mgNil)))) linB (EvA us ls kt x3 x4 none none) st) fun fl s => s = st ∧ ∃ kt f x3 x4 x5, fl = .nx (EvA us ls kt x3 x4 x5 none) ∧ Far us d kt f ∧ (∀ x ∈ us, f x x = 0) ∧ ∀ a b c, Eg ls a b c → f a b ≤ c := by
  refine gd_for (gd_eq (a := ls.map ln) (s := st) rfl ?_)
  refine gd_loop (fun r Γ s => s = st ∧ ∃ kt f dn x3 x4 x5, Γ = EvA us ls kt x3 x4 x5 none ∧ Far us d kt f ∧ (∀ x ∈ us, f x x = 0) ∧ ls = dn ++ r ∧ ∀ l ∈ dn, f l.1 l.2.1 ≤ l.2.2 ∧ f l.2.1 l.1 ≤ l.2.2) ⟨rfl, kt, f, [], x3, x4, none, rfl, hF, hz, rfl, fun l hl => (nomatch hl)⟩ ?_ ?_
  · rintro ⟨a, b, c⟩ r Γ s ⟨rfl, kt, f, dn, x3, x4, x5, rfl, hF, hz, e, hd⟩
    have hE : Eg ls a b c := .inl (by rw [e]; simp)
    have hE2 : Eg ls b a c := .inr (by rw [e]; simp)
    obtain ⟨ha, hb, hc, q⟩ := M.edge a b c hE
    obtain ⟨_, _, _, q2⟩ := M.edge b a c hE2
    obtain ⟨f1, F1, le1, v1⟩ := hF.put (v := c) ha hb (by omega) (by have := hF.low a ha b hb; omega)
    obtain ⟨f2, F2, le2, v2⟩ := F1.put (v := c) hb ha (by omega) (by have := F1.low b hb a ha; omega)
    refine ⟨_, rfl, gd_seq (gd_tput (kt := kt) rfl (Nat.lt_of_le_of_lt hF.len (by decide)) (gd_eq (a := inD c) (s := s) rfl (gd_cons (gd_eq (a := nm a) (s := s) rfl (gd_cons (gd_eq (a := nm b) (s := s) rfl (gd_nil ⟨_, keys2 a b, show 2 ≤ sizeLine by decide, ?_⟩)))))))⟩
    rw [ks_nx]
    refine gd_tput (kt := putT kt (k2 a b) (inD c)) rfl (Nat.lt_of_le_of_lt F1.len (by decide)) (gd_eq (a := inD c) (s := s) rfl (gd_cons (gd_eq (a := nm b) (s := s) rfl (gd_cons (gd_eq (a := nm a) (s := s) rfl (gd_nil ⟨_, keys2 b a, show 2 ≤ sizeLine by decide, _, .inl rfl, rfl, _, f2, dn ++ [(a, b, c)], some (.dat (nm a)), some (.dat (nm b)), some (.dat (inD c)), rfl, F2, fun x hx => ?_, by rw [e]; simp, fun l hl => ?_⟩))))))
    · have := hz x hx
      have := le1 x x
      have := le2 x x
      omega
    · rcases List.mem_append.mp hl with hl | hl
      · have := hd l hl
        have := le1 l.1 l.2.1
        have := le2 l.1 l.2.1
        have := le1 l.2.1 l.1
        have := le2 l.2.1 l.1
        omega
      · rw [List.mem_singleton.mp hl]
        have := le2 a b
        exact ⟨show f2 a b ≤ c by omega, show f2 b a ≤ c by omega⟩
  · rintro Γ s ⟨rfl, kt, f, dn, x3, x4, x5, rfl, hF, hz, e, hd⟩
    rw [List.append_nil] at e
    subst e
    refine ⟨rfl, kt, f, x3, x4, x5, rfl, hF, hz, fun a b c q => ?_⟩
    rcases q with q | q
    · exact (hd _ q).1
    · exact (hd _ q).2
abbrev minB : SM := mTPut 2 (mCall gMinA (mCons (mTGet 2 (mCons (mVar 3) (mCons (mVar 4) mNil))) (mCons (mOp gAdd (mTGet 2 (mCons (mVar 3) (mCons (mVar 6) mNil))) (mTGet 2 (mCons (mVar 6) (mCons (mVar 4) mNil)))) mNil))) (mCons (mVar 3) (mCons (mVar 4) mNil))
theorem min_nat {a b : Nat} : gMinA [inD a, inD b] st = .ok (inD (min a b)) st := by
  show Out.ok (D.int (if ((b : Nat) : Int) < (a : Nat) then ((b : Nat) : Int) else (a : Nat))) st = _
  have : (if ((b : Nat) : Int) < (a : Nat) then ((b : Nat) : Int) else ((a : Nat) : Int)) = ((min a b : Nat) : Int) := by split <;> omega
  rw [this]
  rfl
theorem get_at {Γ : Ev} {i j : Nat} {P : D → DS → Prop} (hF : Far us d kt f) (g2 : gOwnT 2 Γ = some kt) (hi : Γ[i]? = some (some (.dat (nm x)))) (hj : Γ[j]? = some (some (.dat (nm y)))) (hx : x ∈ us) (hy : y ∈ us) (h : P (inD (f x y)) st) : Gd (mTGet 2 (mCons (mVar i) (mCons (mVar j) mNil)) Γ st) P :=
  gd_tget g2 (gd_cons (gd_eq (mVar_at hi) (gd_cons (gd_eq (mVar_at hj) (gd_nil ⟨_, _, keys2 x y, show 2 ≤ sizeLine by decide, hF.val x hx y hy, h⟩)))))
theorem mid_w {g : Nm → Nm → Nat} {m : Nm} {x3 x4 x5 : Option Sl} (M : Met us (Eg ls) d) (hF : Far us d kt g) (hm : m ∈ us) : Gd (mFor (mSeqOf (mVar 0)) (mgName 3) (mFor (mSeqOf (mVar 0)) (mgName 4) minB) (EvA us ls kt x3 x4 x5 (some (.dat (nm m)))) st) fun fl s => s = st ∧ ∃ kt f x3 x4, fl = .nx (EvA us ls kt x3 x4 x5 (some (.dat (nm m)))) ∧ Far us d kt f ∧ (∀ a b, f a b ≤ g a b) ∧ ∀ x ∈ us, ∀ y ∈ us, f x y ≤ g x m + g m y := by
  refine gd_for (gd_eq (a := us.map nm) (s := st) rfl ?_)
  refine gd_loop (fun r Γ s => s = st ∧ ∃ kt f dn x3 x4, Γ = EvA us ls kt x3 x4 x5 (some (.dat (nm m))) ∧ us = dn ++ r ∧ Far us d kt f ∧ (∀ a b, f a b ≤ g a b) ∧ ∀ x ∈ dn, ∀ y ∈ us, f x y ≤ g x m + g m y) ⟨rfl, kt, g, [], x3, x4, rfl, rfl, hF, fun _ _ => Nat.le_refl _, fun x hx => (nomatch hx)⟩ ?_ ?_
  · rintro x r Γ s ⟨rfl, kt, f, dn, x3, x4, rfl, e, hF, hg, hv⟩
    have hx : x ∈ us := by rw [e]; simp
    refine ⟨_, rfl, gd_for (gd_eq (a := us.map nm) (s := s) rfl ?_)⟩
    refine gd_loop (fun r2 Γ s' => s' = s ∧ ∃ kt f dn2 x4, Γ = EvA us ls kt (some (.dat (nm x))) x4 x5 (some (.dat (nm m))) ∧ us = dn2 ++ r2 ∧ Far us d kt f ∧ (∀ a b, f a b ≤ g a b) ∧ (∀ x ∈ dn, ∀ y ∈ us, f x y ≤ g x m + g m y) ∧ ∀ y ∈ dn2, f x y ≤ g x m + g m y) ⟨rfl, kt, f, [], x4, rfl, rfl, hF, hg, hv, fun x hx => (nomatch hx)⟩ ?_ ?_
    · rintro y r2 Γ s' ⟨rfl, kt, f, dn2, x4, rfl, e2, hF, hg, hv, hw⟩
      have hy : y ∈ us := by rw [e2]; simp
      have lo := hF.low x hx y hy
      have lo1 := hF.low x hx m hm
      have lo2 := hF.low m hm y hy
      have tr := M.tri x hx m hm y hy
      obtain ⟨f1, F1, le1, v1⟩ := hF.put (v := min (f x y) (f x m + f m y)) hx hy (by omega) (by omega)
      refine ⟨_, rfl, gd_tput (kt := kt) rfl (Nat.lt_of_le_of_lt hF.len (by decide)) ?_⟩
      refine gd_call (gd_cons (get_at hF rfl (x := x) (y := y) rfl rfl hx hy (gd_cons (gd_op (get_at hF rfl (x := x) (y := m) rfl rfl hx hm (get_at hF rfl (x := m) (y := y) rfl rfl hm hy (gd_eq (a := inD (f x m + f m y)) (s := s') ?_ (gd_nil (gd_eq min_nat (gd_cons (gd_eq (a := nm x) (s := s') rfl (gd_cons (gd_eq (a := nm y) (s := s') rfl (gd_nil ⟨_, keys2 x y, show 2 ≤ sizeLine by decide, _, .inl rfl, rfl, _, f1, dn2 ++ [y], some (.dat (nm y)), rfl, by rw [e2]; simp, F1, fun a b => Nat.le_trans (le1 a b) (hg a b), fun a ha b hb => Nat.le_trans (le1 a b) (hv a ha b hb), fun b hb => ?_⟩))))))))))))))
      · show gAdd (.int _) (.int _) s' = _
        rw [add_i]
        rfl
      · rcases List.mem_append.mp hb with hb | hb
        · exact Nat.le_trans (le1 x b) (hw b hb)
        · rw [List.mem_singleton.mp hb, v1]
          have := hg x m
          have := hg m y
          omega
    · rintro Γ s' ⟨rfl, kt, f, dn2, x4, rfl, e2, hF, hg, hv, hw⟩
      rw [List.append_nil] at e2
      subst e2
      refine ⟨_, .inl rfl, rfl, kt, f, dn ++ [x], some (.dat (nm x)), x4, rfl, by rw [e]; simp, hF, hg, fun a ha b hb => ?_⟩
      rcases List.mem_append.mp ha with ha | ha
      · exact hv a ha b hb
      · rw [List.mem_singleton.mp ha]; exact hw b hb
  · rintro Γ s ⟨rfl, kt, f, dn, x3, x4, rfl, e, hF, hg, hv⟩
    rw [List.append_nil] at e
    subst e
    exact ⟨rfl, kt, f, x3, x4, rfl, hF, hg, hv⟩
theorem lways_w (M : Met us (Eg ls) d) (hu : us.length ≤ 50) : Gd (m__law_ways [.lst (us.map nm), .lst (ls.map ln)] st) fun D s => s = st ∧ ∃ kt : KT, D = .dct (kt.map (·.1)) (kt.map (·.2)) ∧ ∀ x ∈ us, ∀ y ∈ us, valT kt (k2 x y) = some (inD (d x y)) := by
  unfold m__law_ways mb__law_ways
  refine gd_fn rfl (gd_seq (gd_setT (gd_eq (a := []) (s := st) rfl ?_)))
  rw [ks_nx]
  refine gd_seq ((first_w (us := us) (ls := ls) (st := st) hu).mono fun fl s ⟨e1, kt, x3, x4, e2, hl, hv⟩ => ?_)
  subst e1; subst e2
  rw [ks_nx]
  have F0 : Far us d kt f0 := ⟨hv, fun x hx y hy => by
    unfold f0
    by_cases e : x = y
    · rw [if_pos e, e, M.refl y hy]; exact Nat.le_refl _
    · rw [if_neg e]; have := M.top x hx y hy; omega, hl⟩
  refine gd_seq ((lines_w M F0 (fun x hx => by simp [f0])).mono fun fl s' ⟨e1, kt, f, x3, x4, x5, e2, hF, hz, hE⟩ => ?_)
  subst e1; subst e2
  rw [ks_nx]
  refine gd_seq (gd_for (gd_eq (a := us.map nm) (s := s') rfl ?_))
  refine gd_loop (fun r Γ s => s = s' ∧ ∃ kt f dn x3 x4 x6, Γ = EvA us ls kt x3 x4 x5 x6 ∧ us = dn ++ r ∧ Far us d kt f ∧ ∀ x ∈ us, ∀ y ∈ us, ∀ l, Wk (Eg ls) (· ∈ dn) x y l → f x y ≤ l) ⟨rfl, kt, f, [], x3, x4, none, rfl, rfl, hF, fun x hx y hy l w => ?_⟩ ?_ ?_
  · cases w with
    | nil => rw [hz x hx]; exact Nat.zero_le _
    | one e => exact hE _ _ _ e
    | cons _ m _ => cases m
  · rintro m r Γ s ⟨rfl, kt, f, dn, x3, x4, x6, rfl, e, hF, hw⟩
    have hm : m ∈ us := by rw [e]; simp
    refine ⟨_, rfl, (mid_w (kt := kt) (x3 := x3) (x4 := x4) (x5 := x5) M hF hm).mono fun fl s2 ⟨e1, kt, f', x3, x4, e2, F2, hg, hv⟩ => ?_⟩
    subst e1; subst e2
    refine ⟨_, .inl rfl, rfl, kt, f', dn ++ [m], x3, x4, some (.dat (nm m)), rfl, by rw [e]; simp, F2, fun x hx y hy l w => ?_⟩
    have w2 : Wk (Eg ls) (fun z => z ∈ dn ∨ z = m) x y l := w.mono (fun _ _ _ q => q) fun a ha => by simpa using ha
    rcases w2.split with ⟨l', hl, w3⟩ | ⟨a, b, hab, w3, w4⟩
    · have := hg x y
      have := hw x hx y hy l' w3
      omega
    · have := hv x hx y hy
      have := hw x hx m hm a w3
      have := hw m hm y hy b w4
      omega
  · rintro Γ s ⟨rfl, kt, f, dn, x3, x4, x6, rfl, e, hF, hw⟩
    rw [List.append_nil] at e
    rw [ks_nx]
    refine gd_frzT (kt := kt) rfl (gd_ret (gd_eq (a := .dct (kt.map (·.1)) (kt.map (·.2))) (s := s) rfl ⟨rfl, kt, rfl, fun x hx y hy => ?_⟩))
    have h1 := hF.low x hx y hy
    have h2 := hw x hx y hy _ ((M.walk x hx y hy).mono (fun _ _ _ q => q) fun a ha => by rw [← e]; exact ha)
    rw [hF.val x hx y hy, show f x y = d x y by omega]
end
end Lk56

/-! P56s: seats; the ways by place -/
namespace Lk56
open PySem L2 FL
abbrev Seat := Nm × Nm × Nat
structure Seats (n : Nat) (us : List Nm) (ss : List Seat) : Prop where
  asc : ss.Pairwise fun a b => ltN a.1 b.1
  at_ : ∀ s ∈ ss, s.2.1 ∈ us
  few : ss.length ≤ n
def EvS (us : List Nm) (n : Nat) (ss : List Seat) (x4 x5 : Option Sl) : Ev := [some (.dat .deal), some (.dat (.lst (us.map nm))), some (.dat (.int (n : Nat))), some (.own (.ls (ss.map ln))), x4, x5]
abbrev reachB : EM := mOp gIx (mLst (mCons (mC (.int 0)) (mCons (mC (.int 0)) (mCons (mCall (fun ds => nxM (m__law_any ds)) (mCons (mVar 0) (mCons (mC (.int 4)) mNil))) (mCons (mCall (fun ds => nxM (m__law_any ds)) (mCons (mVar 0) (mCons (mC (.int 12)) mNil))) (mCons (mCall (fun ds => nxM (m__law_any ds)) (mCons (mVar 0) (mCons (mC (.int 40)) mNil))) (mCons (mCall (fun ds => nxM (m__law_any ds)) (mCons (mVar 0) (mCons (mC (.int 1000001)) mNil))) mNil))))))) (mCall (fun ds => nxM (m__law_any ds)) (mCons (mVar 0) (mCons (mC (.int 6)) mNil)))
theorem reach_w {Γ : Ev} {s : DS} {P : D → DS → Prop} (h0 : Γ[0]? = some (some (.dat .deal))) (h : ∀ c s, c ≤ 1000000 → P (.int ((c : Nat) : Int)) s) : Gd (reachB Γ s) P := by
  refine gd_op (gd_lst (gd_cons (gd_eq (a := .int 0) (s := s) rfl (gd_cons (gd_eq (a := .int 0) (s := s) rfl (gd_cons (draw (b := 4) h0 (by decide) fun v1 s h1 => gd_cons (draw (b := 12) h0 (by decide) fun v2 s h2 => gd_cons (draw (b := 40) h0 (by decide) fun v3 s h3 => gd_cons (draw (b := 1000001) h0 (by decide) fun v4 s h4 => gd_nil ⟨show 6 ≤ 1000000 by decide, draw (b := 6) h0 (by decide) fun v s hv => ?_⟩))))))))))
  match v, hv with
  | 0, _ => exact gd_eq (gIx_lst (i := 0) rfl) (h 0 s (by decide))
  | 1, _ => exact gd_eq (gIx_lst (i := 1) rfl) (h 0 s (by decide))
  | 2, _ => exact gd_eq (gIx_lst (i := 2) rfl) (h v1 s (by omega))
  | 3, _ => exact gd_eq (gIx_lst (i := 3) rfl) (h v2 s (by omega))
  | 4, _ => exact gd_eq (gIx_lst (i := 4) rfl) (h v3 s (by omega))
  | 5, _ => exact gd_eq (gIx_lst (i := 5) rfl) (h v4 s (by omega))
theorem seats_w {us : List Nm} {n : Nat} (h0 : us ≠ []) (hu : us.length ≤ 50) (hn : n ≤ 50) : W (m__law_seats [.deal, .lst (us.map nm), .int (n : Nat)]) fun d => ∃ ss : List Seat, d = .tup (ss.map ln) ∧ Seats n us ss := by
  refine w_gd fun st => ?_
  unfold m__law_seats mb__law_seats
  refine gd_fn rfl (gd_seq (gd_setO (gd_disp (gd_nil ⟨Nat.zero_le _, ?_⟩))))
  rw [ks_nx]
  refine gd_seq (gd_for ?_)
  rw [ev_seqOf, gd_bind]
  refine gd_callN (gd_cons (gd_eq (a := .deal) (s := st) rfl (gd_cons (gd_callN (gd_cons (gd_eq (a := .deal) (s := st) rfl (gd_cons (gd_op (gd_eq (a := .int (n : Nat)) (s := st) rfl (gd_eq (a := .int 1) (s := st) rfl ?_))))))))))
  rw [add_i, show (((n : Nat) : Int) + 1) = ((n + 1 : Nat) : Int) by omega]
  refine .mk (gd_nil (W.gd (any_n (b := n + 1) (by omega) (by omega)) fun d s ⟨v, e, hv⟩ => ?_))
  subst e
  refine gd_nil (W.gd (names_w (n := v) (by omega)) fun d s ⟨xs, e, asc, hl, _⟩ => ?_)
  subst e
  refine gd_eq (a := xs.map nm) (s := s) rfl ?_
  refine gd_loop (fun r Γ s => ∃ ss x4 x5, Γ = EvS us n ss x4 x5 ∧ (∀ t ∈ ss, t.2.1 ∈ us) ∧ ss.map (·.1) ++ r = xs) ⟨[], none, none, rfl, fun t ht => (nomatch ht), rfl⟩ ?_ ?_
  · rintro u r Γ s ⟨ss, x4, x5, rfl, ha, hx⟩
    have hls : ss.length ≤ 50 := by
      have := congrArg List.length hx
      simp at this
      omega
    refine ⟨_, rfl, gd_seq (gd_asgN (reach_w rfl fun c s hc => ?_))⟩
    rw [ks_nx]
    refine gd_app (xs := ss.map ln) rfl (by rw [List.length_map]; exact Nat.lt_of_le_of_lt hls (by decide)) (gd_tup (gd_cons (gd_eq (a := nm u) (s := s) rfl (gd_cons (gd_callN (gd_eq (a := [.deal, .lst (us.map nm)]) (s := s) rfl ?_))))))
    refine W.gd (of_w (.inl rfl) (by simpa using h0) (by rw [List.length_map]; omega)) fun d s hd => ?_
    obtain ⟨p, hp, rfl⟩ := List.mem_map.mp hd
    refine gd_cons (gd_eq (a := inD c) (s := s) rfl (gd_nil ⟨show 3 ≤ 1000000 by decide, _, .inl rfl, ss ++ [(u, p, c)], some (.dat (nm u)), some (.dat (inD c)), ?_, fun t ht => ?_, ?_⟩))
    · unfold EvS
      rw [List.map_append]
      rfl
    · rcases List.mem_append.mp ht with ht | ht
      · exact ha t ht
      · rw [List.mem_singleton.mp ht]; exact hp
    · rw [List.map_append, List.append_assoc]; exact hx
  · rintro Γ s ⟨ss, x4, x5, rfl, ha, hx⟩
    rw [List.append_nil] at hx
    rw [ks_nx]
    refine gd_ret (gd_bor (xs := ss.map ln) rfl (gd_call (gd_eq (a := [.bor (ss.map ln)]) (s := s) rfl (gd_eq (a := .tup (ss.map ln)) (s := s) rfl ⟨noBor_tupM (fun a => noBor_ln) ss, ss, rfl, ?_, ha, ?_⟩))))
    · have : (ss.map (·.1)).Pairwise ltN := hx ▸ asc
      exact List.pairwise_map.mp this
    · have := congrArg List.length hx
      simp at this
      omega
section
variable {us : List Nm} {ls : List (Nm × Nm × Nat)} {d : Nm → Nm → Nat} {ss : List Seat} {n : Nat} {p q : Nm} {st : DS}
theorem by_at (M : Met us (Eg ls) d) (hp : p ∈ us) (nd : us.Nodup) (hl : ls.length ≤ 100) (hu : us.length ≤ 100) : m_ways_by_place [rd us ls, nm p] st = .ok (.dic ((dkN us fun x => inD (d p x)).map (·.1)) ((dkN us fun x => inD (d p x)).map (·.2))) st := by
  refine eq_gd ?_
  unfold m_ways_by_place mb_ways_by_place
  exact gd_fn rfl (gd_ret (gd_frzOD (gd_dzip (gd_cons (gd_eq (a := .tup (us.map nm)) (s := st) rfl (gd_cons (gd_callN (gd_eq (a := [rd us ls, nm p]) (s := st) rfl (gd_eq (ways_at M hp hl hu) (gd_nil (gd_eq (dzip_nm nd) ⟨rfl, rfl⟩))))))))))
  )
end
end Lk56

/-! P56p: what the program tells -/
namespace Lk56
open PySem L2 FL
structure Cf (us : List Nm) (ls : List (Nm × Nm × Nat)) (d : Nm → Nm → Nat) (ss : List Seat) : Prop where
  M : Met us (Eg ls) d
  asc : Asc us
  lu : us.length ≤ 9
  ll : ls.length ≤ 9
  ne : us ≠ []
  S : Seats 8 us ss
def hm (ss : List Seat) : List Nm := ss.map (·.2.1)
def bs (F : Nm → Nat) (us : List Nm) : List Nm := us.filter fun x => decide (∀ y ∈ us, F x ≤ F y)
theorem mem_bs {F : Nm → Nat} {us : List Nm} {x : Nm} : x ∈ bs F us ↔ x ∈ us ∧ ∀ y ∈ us, F x ≤ F y := by
  unfold bs
  rw [List.mem_filter, decide_eq_true_eq]
section
variable {us : List Nm} {ls : List (Nm × Nm × Nat)} {d : Nm → Nm → Nat} {ss : List Seat} {p q : Nm} {st : DS}
theorem Cf.homes (C : Cf us ls d ss) : ∀ s ∈ hm ss, s ∈ us := fun s hs => by
  obtain ⟨t, ht, rfl⟩ := List.mem_map.mp hs
  exact C.S.at_ t ht
theorem Cf.few (C : Cf us ls d ss) : (hm ss).length ≤ 8 := by unfold hm; rw [List.length_map]; exact C.S.few
theorem pw_at (C : Cf us ls d ss) (hp : p ∈ us) : m_people_ways [rd us ls, .tup (ss.map ln), nm p] st = .ok (.lst (((hm ss).map fun s => d p s).map inD)) st := by
  have lu := C.lu
  have ll := C.ll
  have lS := C.S.few
  refine eq_gd ?_
  unfold m_people_ways mb_people_ways
  refine gd_fn rfl (gd_seq (gd_asgN (gd_callN (gd_eq (a := [rd us ls, nm p]) (s := st) rfl (gd_eq (by_at C.M hp C.asc.nodup (by omega) (by omega)) ?_)))))
  rw [ks_nx]
  have ec : mComp (mSeqOf (mVar 1)) (mgTup 3 (mgCons (mgName 4) (mgCons (mgName 5) (mgCons (mgName 6) mgNil)))) mYes (mDIx (mVar 3) (mVar 5)) [4, 5, 6] [some (.dat (rd us ls)), some (.dat (.tup (ss.map ln))), some (.dat (nm p)), some (.dat (.dic ((dkN us fun x => inD (d p x)).map (·.1)) ((dkN us fun x => inD (d p x)).map (·.2)))), none, none, none] st = .ok (ss.map fun t => inD (d p t.2.1)) st :=
    comp_all (f := ln) rfl (by omega) fun t ht => ⟨_, rfl, fun s => eq_gd (gd_dix (gd_eq (a := .dic ((dkN us fun x => inD (d p x)).map (·.1)) ((dkN us fun x => inD (d p x)).map (·.2))) (s := s) rfl ⟨_, rfl, gd_eq (a := nm t.2.1) (s := s) rfl ⟨_, _, keyD_nm _, val_dkN (C.S.at_ t ht), rfl, rfl⟩⟩))⟩
  refine gd_ret (gd_frz (gd_eq ec ⟨?_, rfl⟩))
  unfold hm
  rw [List.map_map, List.map_map]
  rfl
theorem sum_at (C : Cf us ls d ss) (hp : p ∈ us) : m_sum_from [rd us ls, .tup (ss.map ln), nm p] st = .ok (inD (sumW d (hm ss) p)) st := by
  refine eq_gd ?_
  unfold m_sum_from mb_sum_from
  exact gd_fn rfl (gd_ret (gd_call (gd_cons (gd_callN (gd_eq (a := [rd us ls, .tup (ss.map ln), nm p]) (s := st) rfl (gd_eq (pw_at C hp) (gd_nil (gd_eq (sum_inD _) ⟨rfl, rfl⟩))))))))
theorem far_at (C : Cf us ls d ss) (hp : p ∈ us) : m_farthest_from [rd us ls, .tup (ss.map ln), nm p] st = .ok (inD (farW d (hm ss) p)) st := by
  refine eq_gd ?_
  unfold m_farthest_from mb_farthest_from
  exact gd_fn rfl (gd_ret (gd_maxD (gd_cons (gd_callN (gd_eq (a := [rd us ls, .tup (ss.map ln), nm p]) (s := st) rfl (gd_eq (pw_at C hp) (gd_nil (gd_eq (a := .int 0) (s := st) rfl (gd_eq (max_inD _) ⟨rfl, rfl⟩)))))))))
theorem bs_min {F : Nm → Nat} {m : Nat} (hm : m ∈ us.map F) (hl : ∀ y ∈ us.map F, m ≤ y) : (us.filter fun x => decide (F x = m)) = bs F us := by
  unfold bs
  refine List.filter_congr fun x hx => decide_eq_decide.mpr ⟨fun e y hy => by rw [e]; exact hl _ (List.mem_map.mpr ⟨y, hy, rfl⟩), fun h => ?_⟩
  obtain ⟨y, hy, rfl⟩ := List.mem_map.mp hm
  exact Nat.le_antisymm (h y hy) (hl _ (List.mem_map.mpr ⟨x, hx, rfl⟩))
theorem least_at {F : Nm → Nat} (h0 : us ≠ []) (hu : us.length ≤ 100) : m_least_places [rd us ls, .lst (us.map fun x => inD (F x))] st = .ok (.tup ((bs F us).map nm)) st := by
  obtain ⟨m, e, h1, h2⟩ := min_inD (l := us.map F) (by simpa using h0)
  rw [← bs_min h1 h2]
  refine eq_gd ?_
  unfold m_least_places mb_least_places
  have em : (us.map F).map inD = us.map fun x => inD (F x) := by rw [List.map_map]; rfl
  rw [em] at e
  have ec : mComp (mSrc gZips2 (mCons (mUn (gFld [c_Roads] "places") (mVar 0)) (mCons (mVar 1) mNil))) (mgTup 2 (mgCons (mgName 2) (mgCons (mgName 3) mgNil))) (mB (mOp gEq (mVar 3) (mCall gMin (mCons (mVar 1) mNil)))) (mVar 2) [2, 3] (startE 4 [rd us ls, .lst (us.map fun x => inD (F x))]) st = .ok ((us.filter fun x => decide (F x = m)).map nm) st :=
    comp_if (f := fun x => .ltp [nm x, inD (F x)]) (c := fun x => F x = m) (eq_gd (gd_src (gd_cons (gd_un (gd_eq (a := rd us ls) (s := st) rfl (gd_eq fld_p (gd_cons (gd_eq (a := .lst (us.map fun x => inD (F x))) (s := st) rfl (gd_nil (gd_eq (gz2 (us := us) (f := nm) (g := fun x => inD (F x)) rfl rfl) ⟨rfl, rfl⟩)))))))))) (by omega)
      fun z hz => ⟨_, rfl, fun s => eq_gd (gd_b (gd_op (gd_eq (a := inD (F z)) (s := s) rfl (gd_call (gd_cons (gd_eq (a := .lst (us.map fun x => inD (F x))) (s := s) rfl (gd_nil (gd_eq (e s) (gd_eq eq_i ⟨_, rfl, decide_eq_decide.mpr Int.ofNat_inj, rfl⟩))))))))), fun _ s => rfl⟩
  exact gd_fn rfl (gd_ret (gd_call (gd_cons (gd_frz (gd_eq ec (gd_nil (gd_eq (a := .tup ((us.filter fun x => decide (F x = m)).map nm)) (s := st) rfl ⟨rfl, rfl⟩)))))))
theorem mid_at (C : Cf us ls d ss) : m_middles [rd us ls, .tup (ss.map ln)] st = .ok (.tup ((bs (sumW d (hm ss)) us).map nm)) st := by
  have lu := C.lu
  refine eq_gd ?_
  unfold m_middles mb_middles
  have ec : mComp (mSeqOf (mUn (gFld [c_Roads] "places") (mVar 0))) (mgName 2) mYes (mCall (fun ds => nxM (m_sum_from ds)) (mCons (mVar 0) (mCons (mVar 1) (mCons (mVar 2) mNil)))) [2] (startE 3 [rd us ls, .tup (ss.map ln)]) st = .ok (us.map fun x => inD (sumW d (hm ss) x)) st :=
    comp_all (f := nm) rfl (by omega) fun x hx => ⟨_, rfl, fun s => eq_gd (gd_callN (gd_eq (a := [rd us ls, .tup (ss.map ln), nm x]) (s := s) rfl (gd_eq (sum_at C hx) ⟨rfl, rfl⟩)))⟩
  exact gd_fn rfl (gd_ret (gd_callN (gd_cons (gd_eq (a := rd us ls) (s := st) rfl (gd_cons (gd_frz (gd_eq ec (gd_nil (gd_eq (least_at C.ne (by omega)) ⟨rfl, rfl⟩)))))))))
theorem cen_at (C : Cf us ls d ss) : m_centres [rd us ls, .tup (ss.map ln)] st = .ok (.tup ((bs (farW d (hm ss)) us).map nm)) st := by
  have lu := C.lu
  refine eq_gd ?_
  unfold m_centres mb_centres
  have ec : mComp (mSeqOf (mUn (gFld [c_Roads] "places") (mVar 0))) (mgName 2) mYes (mCall (fun ds => nxM (m_farthest_from ds)) (mCons (mVar 0) (mCons (mVar 1) (mCons (mVar 2) mNil)))) [2] (startE 3 [rd us ls, .tup (ss.map ln)]) st = .ok (us.map fun x => inD (farW d (hm ss) x)) st :=
    comp_all (f := nm) rfl (by omega) fun x hx => ⟨_, rfl, fun s => eq_gd (gd_callN (gd_eq (a := [rd us ls, .tup (ss.map ln), nm x]) (s := s) rfl (gd_eq (far_at C hx) ⟨rfl, rfl⟩)))⟩
  exact gd_fn rfl (gd_ret (gd_callN (gd_cons (gd_eq (a := rd us ls) (s := st) rfl (gd_cons (gd_frz (gd_eq ec (gd_nil (gd_eq (least_at C.ne (by omega)) ⟨rfl, rfl⟩)))))))))
/-! ### branches -/
def beyo (d : Nm → Nm → Nat) (us : List Nm) (p z : Nm) : List Nm := us.filter fun x => decide (d z x < d p x)
def brD (d : Nm → Nm → Nat) (us : List Nm) (p z : Nm) : D := .tup [nm z, .tup ((beyo d us p z).map nm)]
/-- the next places of p -/
structure Nb (ls : List (Nm × Nm × Nat)) (p : Nm) (zs : List Nm) : Prop where
  perm : zs.Perm (nbr ls p)
  up : Up zs
theorem nbr_mem {z : Nm} : z ∈ nbr ls p ↔ ∃ c, Eg ls p z c := by
  unfold nbr Eg
  simp only [List.mem_append, List.mem_map, List.mem_filter, decide_eq_true_eq]
  constructor
  · rintro (⟨⟨a, b, e⟩, ⟨h, rfl⟩, rfl⟩ | ⟨⟨a, b, e⟩, ⟨h, rfl⟩, rfl⟩)
    · exact ⟨e, .inl h⟩
    · exact ⟨e, .inr h⟩
  · rintro ⟨c, h | h⟩
    · exact .inl ⟨_, ⟨h, rfl⟩, rfl⟩
    · exact .inr ⟨_, ⟨h, rfl⟩, rfl⟩
theorem Nb.edge {zs : List Nm} (h : Nb ls p zs) {z : Nm} : z ∈ zs ↔ ∃ c, Eg ls p z c := by rw [h.perm.mem_iff, nbr_mem]
theorem Nb.len {zs : List Nm} (h : Nb ls p zs) : zs.length ≤ 2 * ls.length := by
  rw [h.perm.length_eq]
  unfold nbr
  rw [List.length_append, List.length_map, List.length_map]
  have := List.length_filter_le (fun l : Nm × Nm × Nat => decide (l.1 = p)) ls
  have := List.length_filter_le (fun l : Nm × Nm × Nat => decide (l.2.1 = p)) ls
  omega
def EvB (us : List Nm) (ls : List (Nm × Nm × Nat)) (d : Nm → Nm → Nat) (p : Nm) (dn : List Nm) (x4 x5 x6 : Option Sl) : Ev := [some (.dat (rd us ls)), some (.dat (nm p)), some (.dat (.tup (us.map fun x => inD (d p x)))), some (.own (.ls (dn.map (brD d us p)))), x4, x5, x6, none, none, none]
theorem br_w (C : Cf us ls d ss) (hp : p ∈ us) : Gd (m_branches [rd us ls, nm p] st) fun D s => s = st ∧ ∃ zs, D = .tup (zs.map (brD d us p)) ∧ Nb ls p zs := by
  have lu := C.lu
  have ll := C.ll
  unfold m_branches mb_branches
  refine gd_fn rfl (gd_seq (gd_parX (gd_gDa (gd_callN (gd_eq (a := [rd us ls, nm p]) (s := st) rfl (gd_eq (ways_at C.M hp (by omega) (by omega)) (gd_gOw (gd_disp (gd_nil ⟨Nat.zero_le _, ?_⟩)))))))))
  rw [ks_nx]
  refine gd_seq (gd_for (gd_eq_seq (us := us) (ls := ls) (x := p) (by omega) rfl rfl fun ys hy ly py uy => ?_))
  have nb : Nb ls p (ys.map (·.1)) := ⟨py, uy⟩
  have lz := nb.len
  rw [List.length_map] at lz
  refine gd_loop (fun r Γ s => s = st ∧ ∃ dn x4 x5 x6, Γ = EvB us ls d p (dn.map (·.1)) x4 x5 x6 ∧ ys = dn ++ r) ⟨rfl, [], none, none, none, rfl, rfl⟩ ?_ ?_
  · rintro ⟨z, c⟩ r Γ s ⟨rfl, dn, x4, x5, x6, rfl, e⟩
    have ez : Eg ls p z c := (hy z c).mp (by rw [e]; simp)
    have hz : z ∈ us := (C.M.edge _ _ _ ez).2.1
    have ld : dn.length ≤ 18 := by
      have := congrArg List.length e
      simp at this
      omega
    refine ⟨_, rfl, gd_seq (gd_asgN (gd_callN (gd_eq (a := [rd us ls, nm z]) (s := s) rfl (gd_eq (ways_at C.M hz (by omega) (by omega)) ?_))))⟩
    rw [ks_nx]
    have ec : mComp (mSrc gZips3 (mCons (mUn (gFld [c_Roads] "places") (mVar 0)) (mCons (mVar 2) (mCons (mVar 6) mNil)))) (mgTup 3 (mgCons (mgName 7) (mgCons (mgName 8) (mgCons (mgName 9) mgNil)))) (mB (mOp gLt (mVar 9) (mVar 8))) (mVar 7) [7, 8, 9] (EvB us ls d p (dn.map (·.1)) (some (.dat (nm z))) (some (.dat (inD c))) (some (.dat (.tup (us.map fun x => inD (d z x)))))) s = .ok ((beyo d us p z).map nm) s :=
      comp_if (f := fun x => .ltp [nm x, inD (d p x), inD (d z x)]) (c := fun x => d z x < d p x) (eq_gd (gd_src (gd_cons (gd_un (gd_eq (a := rd us ls) (s := s) rfl (gd_eq fld_p (gd_cons (gd_eq (a := .tup (us.map fun x => inD (d p x))) (s := s) rfl (gd_cons (gd_eq (a := .tup (us.map fun x => inD (d z x))) (s := s) rfl (gd_nil (gd_eq (gz3 (us := us) (f := nm) (g := fun x => inD (d p x)) (q := fun x => inD (d z x)) rfl rfl rfl) ⟨rfl, rfl⟩)))))))))))) (by omega)
        fun x hx => ⟨_, rfl, fun s => eq_gd (gd_b (gd_op (gd_eq (a := inD (d z x)) (s := s) rfl (gd_eq (a := inD (d p x)) (s := s) rfl (gd_eq lt_i ⟨_, rfl, decide_eq_decide.mpr Int.ofNat_lt, rfl⟩))))), fun _ s => rfl⟩
    refine gd_app (xs := (dn.map (·.1)).map (brD d us p)) rfl (by rw [List.length_map, List.length_map]; exact Nat.lt_of_le_of_lt ld (by decide)) (gd_tup (gd_cons (gd_eq (a := nm z) (s := s) rfl (gd_cons (gd_call (gd_cons (gd_frz (gd_eq ec (gd_nil (gd_eq (a := .tup ((beyo d us p z).map nm)) (s := s) rfl (gd_nil ⟨show 2 ≤ 1000000 by decide, _, .inl rfl, rfl, dn ++ [(z, c)], some (.dat (nm z)), some (.dat (inD c)), some (.dat (.tup (us.map fun x => inD (d z x)))), ?_, by rw [e]; simp⟩)))))))))))
    unfold EvB
    rw [List.map_append, List.map_append]
    rfl
  · rintro Γ s ⟨rfl, dn, x4, x5, x6, rfl, e⟩
    rw [List.append_nil] at e
    subst e
    rw [ks_nx]
    refine gd_ret (gd_bor (xs := (ys.map (·.1)).map (brD d us p)) rfl (gd_call (gd_eq (a := [.bor ((ys.map (·.1)).map (brD d us p))]) (s := s) rfl (gd_eq (a := .tup ((ys.map (·.1)).map (brD d us p))) (s := s) rfl ⟨noBor_tupM (fun z => ?_) _, rfl, ys.map (·.1), rfl, nb⟩))))
    unfold brD
    simp only [noBor, noBors, noBor_nm, noBors_map (fun _ => noBor_nm), Bool.and_true]
def bcD (d : Nm → Nm → Nat) (ss : List Seat) (p z : Nm) : D := .tup [nm z, inD (cntW d (hm ss) p z)]
theorem cnt_eq (C : Cf us ls d ss) {z : Nm} {c : Nat} (e : Eg ls p z c) : (ss.filter fun t => decide (t.2.1 ∈ beyo d us p z)).length = cntW d (hm ss) p z := by
  unfold cntW hm
  rw [List.filter_map, List.length_map]
  congr 1
  refine List.filter_congr fun t ht => decide_eq_decide.mpr ?_
  have hs := C.S.at_ t ht
  unfold beyo
  rw [List.mem_filter, decide_eq_true_eq, C.M.beyond hs e]
  exact ⟨fun h => h.2, fun h => ⟨hs, h⟩⟩
def EvC (us : List Nm) (ls : List (Nm × Nm × Nat)) (d : Nm → Nm → Nat) (ss : List Seat) (p : Nm) (dn : List Nm) (x4 x5 : Option Sl) : Ev := [some (.dat (rd us ls)), some (.dat (.tup (ss.map ln))), some (.dat (nm p)), some (.own (.ls (dn.map (bcD d ss p)))), x4, x5, none, none, none]
theorem bc_w (C : Cf us ls d ss) (hp : p ∈ us) : Gd (m_branch_counts [rd us ls, .tup (ss.map ln), nm p] st) fun D s => s = st ∧ ∃ zs, D = .tup (zs.map (bcD d ss p)) ∧ Nb ls p zs := by
  have lu := C.lu
  have ll := C.ll
  have lS := C.S.few
  unfold m_branch_counts mb_branch_counts
  refine gd_fn rfl (gd_seq (gd_setO (gd_disp (gd_nil ⟨Nat.zero_le _, ?_⟩))))
  rw [ks_nx]
  refine gd_seq (gd_for ?_)
  rw [ev_seqOf, gd_bind]
  refine gd_callN (gd_eq (a := [rd us ls, nm p]) (s := st) rfl ((br_w C hp).mono fun D s ⟨e1, zs, e2, nb⟩ => ?_))
  subst e1; subst e2
  have lz := nb.len
  refine gd_eq (a := zs.map (brD d us p)) (s := s) rfl ?_
  refine gd_loop (fun r Γ s' => s' = s ∧ ∃ dn x4 x5, Γ = EvC us ls d ss p dn x4 x5 ∧ zs = dn ++ r) ⟨rfl, [], none, none, rfl, rfl⟩ ?_ ?_
  · rintro z r Γ s' ⟨rfl, dn, x4, x5, rfl, e⟩
    obtain ⟨c, ez⟩ := nb.edge.mp (show z ∈ zs by rw [e]; simp)
    have ld : dn.length ≤ 18 := by
      have := congrArg List.length e
      simp at this
      omega
    have ec : mComp (mSeqOf (mVar 1)) (mgTup 3 (mgCons (mgName 6) (mgCons (mgName 7) (mgCons (mgName 8) mgNil)))) (mB (mOp gInA (mVar 7) (mVar 5))) (mVar 6) [6, 7, 8] (EvC us ls d ss p dn (some (.dat (nm z))) (some (.dat (.tup ((beyo d us p z).map nm))))) s' = .ok ((ss.filter fun t => decide (t.2.1 ∈ beyo d us p z)).map fun t => nm t.1) s' :=
      comp_if (f := ln) (c := fun t : Seat => t.2.1 ∈ beyo d us p z) rfl (by omega) fun t ht => ⟨_, rfl, fun s => eq_gd (gd_b (gd_op (gd_eq (a := nm t.2.1) (s := s) rfl (gd_eq (a := .tup ((beyo d us p z).map nm)) (s := s) rfl (gd_eq in_nmT ⟨_, rfl, by simp, rfl⟩))))), fun _ s => rfl⟩
    refine ⟨_, rfl, gd_app (xs := dn.map (bcD d ss p)) rfl (by rw [List.length_map]; exact Nat.lt_of_le_of_lt ld (by decide)) (gd_tup (gd_cons (gd_eq (a := nm z) (s := s') rfl (gd_cons (gd_call (gd_cons (gd_frz (gd_eq ec (gd_nil (gd_eq (a := .int (((ss.filter fun t => decide (t.2.1 ∈ beyo d us p z)).map fun t => nm t.1).length : Nat)) (s := s') rfl (gd_nil ⟨show 2 ≤ 1000000 by decide, _, .inl rfl, rfl, dn ++ [z], some (.dat (nm z)), some (.dat (.tup ((beyo d us p z).map nm))), ?_, by rw [e]; simp⟩)))))))))))⟩
    rw [List.length_map, cnt_eq C ez]
    unfold EvC
    rw [List.map_append]
    rfl
  · rintro Γ s' ⟨rfl, dn, x4, x5, rfl, e⟩
    rw [List.append_nil] at e
    subst e
    rw [ks_nx]
    exact gd_ret (gd_bor (xs := zs.map (bcD d ss p)) rfl (gd_call (gd_eq (a := [.bor (zs.map (bcD d ss p))]) (s := s') rfl (gd_eq (a := .tup (zs.map (bcD d ss p))) (s := s') rfl ⟨noBor_tupM (fun z => by simp [bcD, noBor, noBors, inD]) _, rfl, zs, rfl, nb⟩))))
end
end Lk56

/-! P56z: the law's own account, and what is asked -/
namespace Lk56
open PySem L2 FL
def Ez (us : List Nm) (ls : List (Nm × Nm × Nat)) (kt : KT) (ss : List Seat) (r : List (Option Sl)) : Ev := none :: some (.dat .deal) :: some (.dat (.lst (us.map nm))) :: some (.dat (.lst (ls.map ln))) :: some (.dat (rd us ls)) :: some (.dat (.dct (kt.map (·.1)) (kt.map (·.2)))) :: some (.dat (.tup (ss.map ln))) :: r
abbrev Val (us : List Nm) (d : Nm → Nm → Nat) (kt : KT) : Prop := ∀ x ∈ us, ∀ y ∈ us, valT kt (k2 x y) = some (inD (d x y))
section
variable {us : List Nm} {ls : List (Nm × Nm × Nat)} {d : Nm → Nm → Nat} {kt : KT} {ss : List Seat} {p q : Nm} {st : DS}
theorem tix_at {Γ : Ev} {i : Nat} {e : EM} {P : D → DS → Prop} (V : Val us d kt) (h5 : Γ[5]? = some (some (.dat (.dct (kt.map (·.1)) (kt.map (·.2)))))) (hi : Γ[i]? = some (some (.dat (nm p)))) (hp : p ∈ us) (hq : q ∈ us) (he : e Γ st = .ok (nm q) st) (h : P (inD (d p q)) st) : Gd (mTIx (mVar 5) (mCons (mVar i) (mCons e mNil)) Γ st) P :=
  gd_tix (gd_eq (mVar_at h5) ⟨kt, rfl, gd_cons (gd_eq (mVar_at hi) (gd_cons (gd_eq he (gd_nil ⟨_, _, keys2 p q, show 2 ≤ sizeLine by decide, V p hp q hq, h⟩))))⟩)
abbrev ways1 : Ev → M (List D) := mComp (mSeqOf (mVar 6)) (mgName 17) mYes (mTIx (mVar 5) (mCons (mVar 11) (mCons (mOp gIx (mVar 17) (mC (.int 1))) mNil))) [17]
theorem ln_1 {t : Seat} : gIx (ln t) (.int 1) st = .ok (nm t.2.1) st := rfl
theorem ways1_at {x7 x8 x9 x10 x12 x13 x14 x15 x16 x17 x18 x19 : Option Sl} (C : Cf us ls d ss) (V : Val us d kt) (hp : p ∈ us) : ways1 (Ez us ls kt ss [x7, x8, x9, x10, some (.dat (nm p)), x12, x13, x14, x15, x16, x17, x18, x19]) st = .ok (((hm ss).map fun s => d p s).map inD) st := by
  have lS := C.S.few
  refine (comp_all (f := ln) (F := fun t : Seat => inD (d p t.2.1)) rfl (by omega) fun t ht => ⟨_, rfl, fun s => eq_gd (tix_at (q := t.2.1) V rfl rfl hp (C.S.at_ t ht) (eq_gd (gd_op (gd_eq (a := ln t) (s := s) rfl (gd_eq (a := .int 1) (s := s) rfl (gd_eq ln_1 ⟨rfl, rfl⟩))))) ⟨rfl, rfl⟩)⟩).trans ?_
  unfold hm
  rw [List.map_map, List.map_map]
  rfl
/-! ### dicts of numbers by place -/
def nD (F : Nm → Nat) (us : List Nm) : KD := dkN us fun p => inD (F p)
theorem pairs_at {F : Nm → D} : ∀ us : List Nm, pairsD (us.map fun p => .tup [nm p, F p]) = some (dkN us F)
  | [] => rfl
  | u :: us => by
    rw [List.map_cons]
    unfold pairsD
    have : pairD (.tup [nm u, F u]) = some (kn u, F u) := rfl
    rw [this, pairs_at us]
    rfl
theorem putAll_self {F : Nm → D} {us : List Nm} (h : us.Nodup) : putAll [] (dkN us F) = dkN us F := by
  have q := putAll_dkN (F := F) (us := us) (dn := []) h
  have e : (us.map kn).zip (us.map F) = dkN us F := by
    unfold dkN
    rw [List.zip_map']
  rw [e] at q
  exact q
theorem dpairs_at {F : Nm → D} (h : us.Nodup) : gDPairs [.lst (us.map fun p => .tup [nm p, F p])] st = .ok (dkN us F) st := by
  unfold gDPairs
  have : asL (.lst (us.map fun p => .tup [nm p, F p])) = some (us.map fun p => .tup [nm p, F p]) := rfl
  simp only [this, pairs_at, putAll_self h]
theorem gd_dpairs {mr : Ev → M (List D)} {Γ : Ev} {PK : KD → DS → Prop} (h : Gd (mr Γ st) fun r s => Gd (gDPairs r s) PK) : Gd (mDPairs mr Γ st) PK := by
  show Gd ((mr Γ st).bind fun a s => gDPairs a s) PK
  rw [gd_bind]
  exact h
theorem own_set {i j : Nat} {Γ : Ev} {x : Option Sl} (h : j ≠ i) : gOwnD i (Γ.set j x) = gOwnD i Γ := by
  unfold gOwnD
  rw [List.getElem?_set_ne h]
theorem dget_at {i j : Nat} {Γ : Ev} {F : Nm → Nat} {P : D → DS → Prop} (ho : gOwnD i Γ = some (nD F us)) (hj : Γ[j]? = some (some (.dat (nm p)))) (hp : p ∈ us) (h : P (inD (F p)) st) : Gd (mDGet i (mVar j) Γ st) P :=
  gd_dget ho (gd_eq (mVar_at hj) ⟨_, _, keyD_nm p, val_dkN hp, h⟩)
/-- the places with the least number -/
theorem least_in {i : Nat} {Γ : Ev} {F : Nm → Nat} (hi : i = 7 ∨ i = 8) (C : Cf us ls d ss) (hl : Γ.length = 20) (g2 : Γ[2]? = some (some (.dat (.lst (us.map nm))))) (go : gOwnD i Γ = some (nD F us)) :
    mComp (mSeqOf (mVar 2)) (mgName 11) (mB (mOp gEq (mDGet i (mVar 11)) (mCall gMin (mCons (mFrz (mComp (mSeqOf (mVar 2)) (mgName 14) mYes (mDGet i (mVar 14)) [14])) mNil)))) (mVar 11) [11] Γ st = .ok ((bs F us).map nm) st := by
  have lu := C.lu
  obtain ⟨m, e, h1, h2⟩ := min_inD (l := us.map F) (by simpa using C.ne)
  rw [← bs_min h1 h2]
  have n11 : 11 ≠ i := by omega
  have n14 : 14 ≠ i := by omega
  have src : ∀ (Δ : Ev) (s : DS), Δ[2]? = some (some (.dat (.lst (us.map nm)))) → mSeqOf (mVar 2) Δ s = .ok (us.map nm) s := fun Δ s h => by rw [ev_seqOf, mVar_at h]; rfl
  refine comp_if (c := fun x => F x = m) (src Γ st g2) (by omega) fun x hx => ⟨_, rfl, fun s => ?_, fun _ s => mVar_at (by rw [ev_wipe, ev_wipe0, List.set_set]; simp [hl])⟩
  have gx : gOwnD i ((wipeE Γ [11]).set 11 (some (.dat (nm x)))) = some (nD F us) := by rw [own_set n11, ev_wipe, ev_wipe0, own_set n11, go]
  have lx : ((wipeE Γ [11]).set 11 (some (.dat (nm x)))).length = 20 := by simp [hl]
  have v11 : ((wipeE Γ [11]).set 11 (some (.dat (nm x))))[11]? = some (some (.dat (nm x))) := by rw [ev_wipe, ev_wipe0, List.set_set]; simp [hl]
  have v2 : ((wipeE Γ [11]).set 11 (some (.dat (nm x))))[2]? = some (some (.dat (.lst (us.map nm)))) := by rw [ev_wipe, ev_wipe0, List.set_set, List.getElem?_set_ne (by decide)]; exact g2
  generalize ((wipeE Γ [11]).set 11 (some (.dat (nm x)))) = Δ at gx lx v11 v2
  have e2 : mComp (mSeqOf (mVar 2)) (mgName 14) mYes (mDGet i (mVar 14)) [14] Δ s = .ok (us.map fun y => inD (F y)) s :=
    comp_all (f := nm) (src Δ s v2) (by omega) fun y hy => ⟨_, rfl, fun s => eq_gd (dget_at (F := F) (us := us) (p := y) (by rw [own_set n14, ev_wipe, ev_wipe0, own_set n14, gx]) (by rw [ev_wipe, ev_wipe0, List.set_set]; simp [lx]) hy ⟨rfl, rfl⟩)⟩
  have em : (us.map F).map inD = us.map fun x => inD (F x) := by rw [List.map_map]; rfl
  rw [em] at e
  exact eq_gd (gd_b (gd_op (dget_at gx v11 hx (gd_call (gd_cons (gd_frz (gd_eq e2 (gd_nil (gd_eq (e s) (gd_eq eq_i ⟨_, rfl, decide_eq_decide.mpr Int.ofNat_inj, rfl⟩)))))))))
  )
/-! ### shown -/
theorem sum_le (C : Cf us ls d ss) (hp : p ∈ us) : ∀ {ps : List Nm}, (∀ s ∈ ps, s ∈ us) → sumW d ps p ≤ ps.length * 9000000
  | [], _ => by simp [sumW]
  | s :: ps, h => by
    have ih := sum_le C hp (ps := ps) fun t ht => h t (List.mem_cons_of_mem _ ht)
    have t := C.M.top p hp s (h s List.mem_cons_self)
    have lu := C.lu
    unfold sumW at *
    rw [List.map_cons, List.sum_cons, List.length_cons, Nat.succ_mul]
    have : 1000000 * us.length ≤ 1000000 * 9 := Nat.mul_le_mul_left _ lu
    omega
theorem far_le (C : Cf us ls d ss) (hp : p ∈ us) {ps : List Nm} (h : ∀ s ∈ ps, s ∈ us) : farW d ps p ≤ 9000000 := mx_le fun a ha => by
  obtain ⟨s, hs, rfl⟩ := List.mem_map.mp ha
  have t := C.M.top p hp s (h s hs)
  have lu := C.lu
  have : 1000000 * us.length ≤ 1000000 * 9 := Nat.mul_le_mul_left _ lu
  omega
theorem big30 : (2 : Nat) ^ 30 < 2 ^ 1900 := by decide +kernel
theorem repr_n {n : Nat} (h : n ≤ 100000000) : reprOk (inD n) = true := (Wid.int (d := 1) (w := 1900) (show ((n : Nat) : Int).natAbs < 2 ^ 1900 from Nat.lt_trans (show _ < 2 ^ 30 by omega) big30) (Nat.le_refl _)).repr (by decide) (by decide)
theorem wid_nm (x : Nm) : Wid 1 100 (nm x) := .str x.2.1 x.2.2
theorem repr_names {xs : List Nm} (h : xs.length ≤ 100) : reprOk (.tup (xs.map nm)) = true := by
  refine (Wid.tup (d := 1) (v := 100) (fun y hy => ?_) (Nat.le_refl _)).repr (by decide) ?_
  · obtain ⟨x, _, rfl⟩ := List.mem_map.mp hy
    exact wid_nm x
  · rw [List.length_map]
    exact Nat.le_trans (Nat.mul_le_mul_right _ h) (by decide)
theorem bulk_nm (x : Nm) : (nm x).py.bulk ≤ 100 := by
  show PyData.bulk (D.py (.str x.1)) ≤ 100
  rw [D.py, PyData.bulk]
  exact x.2.2
theorem cnt_le (d : Nm → Nm → Nat) (ss : List Seat) (p z : Nm) : cntW d (hm ss) p z ≤ (hm ss).length := List.length_filter_le _ _
theorem bulk_bc (z : Nm) : (bcD d ss p z).py.bulk ≤ 110 := by
  have h1 := bulk_nm z
  unfold bcD inD
  rw [D.py, PyData.bulk, D.pys, D.pys, D.pys, PyData.bulkAll, PyData.bulkAll, PyData.bulkAll, D.py, PyData.bulk]
  omega
theorem repr_bc (C : Cf us ls d ss) {zs : List Nm} (h : zs.length ≤ 20) : reprOk (.tup (zs.map (bcD d ss p))) = true := by
  have w : ∀ x ∈ zs.map (bcD d ss p), Wid 2 4000 x := fun x hx => by
    obtain ⟨z, _, rfl⟩ := List.mem_map.mp hx
    refine .tup (v := 1900) (fun y hy => ?_) (by show 2 * 1901 ≤ 4000; decide)
    simp only [List.mem_cons, List.not_mem_nil, or_false] at hy
    rcases hy with rfl | rfl
    · exact (wid_nm _).mono (Nat.le_refl _) (by decide)
    · have := cnt_le d ss p z
      have := C.few
      exact .int (Nat.lt_trans (show _ < 2 ^ 30 by omega) big30) (Nat.le_refl _)
  refine (Wid.tup (d := 2) (v := 4000) w (Nat.le_refl _)).reprB (by decide) ?_
  rw [D.py, PyData.bulk]
  have := bulkAll_map (f := bcD d ss p) bulk_bc zs
  exact Nat.le_trans this (Nat.le_trans (show _ ≤ 20 * 111 from Nat.mul_le_mul_right _ h) (by decide))
theorem repr_at {x : D} (h : reprOk x = true) : gRepr [x] st = .ok (.str x.py.shown) st := by
  show (if reprOk x = true then _ else _) = _
  rw [if_pos h]
theorem ne_bl {a b : Bool} : gNe (.bl a) (.bl b) st = .ok (.bl (a != b)) st := by cases a <;> cases b <;> rfl
/-- a check of two reprs that are one -/
theorem gd_same {ma mb : EM} {Γ : Ev} {x : D} {R : Fl → DS → Prop} (h : reprOk x = true) (ha : Gd (ma Γ st) fun a s => a = x ∧ s = st) (hb : Gd (mb Γ st) fun a s => a = x ∧ s = st) (r : R (.nx Γ) st) : Gd (mIfS (mB (mOp gNe (mCall gRepr (mCons ma mNil)) (mCall gRepr (mCons mb mNil)))) (mRet (mC (.bl false))) mNext Γ st) R := by
  refine gd_ifS (gd_b (gd_op (gd_call (gd_cons (ha.mono fun a s ⟨e1, e2⟩ => ?_)))))
  subst e1; subst e2
  refine gd_nil (gd_eq (repr_at h) (gd_call (gd_cons (hb.mono fun b s ⟨e1, e2⟩ => ?_))))
  subst e1; subst e2
  refine gd_nil (gd_eq (repr_at h) (gd_eq ne_s ⟨_, rfl, fun e => ?_, fun _ => .mk r⟩))
  simp at e
/-- a check of two truths that are one -/
theorem gd_iff {ma mb : EM} {Γ : Ev} {R : Fl → DS → Prop} {b : Bool} (ha : Gd (ma Γ st) fun a s => a = .bl b ∧ s = st) (hb : Gd (mb Γ st) fun a s => a = .bl b ∧ s = st) (r : R (.nx Γ) st) : Gd (mIfS (mB (mOp gNe ma mb)) (mRet (mC (.bl false))) mNext Γ st) R := by
  refine gd_ifS (gd_b (gd_op (ha.mono fun a s ⟨e1, e2⟩ => ?_)))
  subst e1; subst e2
  refine hb.mono fun b' s ⟨e1, e2⟩ => ?_
  subst e1; subst e2
  refine gd_eq ne_bl ⟨_, rfl, fun e => ?_, fun _ => .mk r⟩
  cases b <;> simp at e
/-! ### what is asked of each place -/
theorem best_half (C : Cf us ls d ss) {zs : List Nm} (nb : Nb ls p zs) (hp : p ∈ us) : decide (p ∈ bs (sumW d (hm ss)) us) = decide (zs.filter (fun z => decide ((hm ss).length < 2 * cntW d (hm ss) p z)) = []) := by
  refine decide_eq_decide.mpr ?_
  rw [mem_bs, List.filter_eq_nil_iff]
  constructor
  · rintro ⟨_, h⟩ z hz q
    obtain ⟨c, e⟩ := nb.edge.mp hz
    have := (C.M.more_half e C.homes).mpr (by simpa using q)
    have := h z (C.M.edge _ _ _ e).2.1
    omega
  · refine fun h => ⟨hp, fun y hy => ?_⟩
    rcases Nat.lt_or_ge (sumW d (hm ss) y) (sumW d (hm ss) p) with l | l
    · obtain ⟨z, c, e, q⟩ := C.M.sum_local hp hy C.homes l
      have := h z (nb.edge.mpr ⟨c, e⟩)
      rw [decide_eq_true_eq] at this
      exact absurd ((C.M.more_half e C.homes).mp q) this
    · exact l
theorem best_next (C : Cf us ls d ss) {F : Nm → Nat} (loc : ∀ y ∈ us, F y < F p → ∃ z c, Eg ls p z c ∧ F z < F p) {zs : List Nm} (nb : Nb ls p zs) (hp : p ∈ us) : decide (p ∈ bs F us) = decide (zs.filter (fun z => decide (F z < F p)) = []) := by
  refine decide_eq_decide.mpr ?_
  rw [mem_bs, List.filter_eq_nil_iff]
  constructor
  · rintro ⟨_, h⟩ z hz q
    obtain ⟨c, e⟩ := nb.edge.mp hz
    have := h z (C.M.edge _ _ _ e).2.1
    have : F z < F p := by simpa using q
    omega
  · refine fun h => ⟨hp, fun y hy => ?_⟩
    rcases Nat.lt_or_ge (F y) (F p) with l | l
    · obtain ⟨z, c, e, q⟩ := loc y hy l
      have := h z (nb.edge.mpr ⟨c, e⟩)
      rw [decide_eq_true_eq] at this
      exact absurd q this
    · exact l
end
end Lk56

/-! P56y: the law holds -/
namespace Lk56
open PySem L2 FL
section
variable {us : List Nm} {ls : List (Nm × Nm × Nat)} {d : Nm → Nm → Nat} {kt : KT} {ss : List Seat} {p q : Nm} {st : DS}
/-- the law's account stands in the frame -/
abbrev Fr (us : List Nm) (ls : List (Nm × Nm × Nat)) (d : Nm → Nm → Nat) (kt : KT) (ss : List Seat) (r : List (Option Sl)) : Ev :=
  Ez us ls kt ss (some (.own (.dk (nD (sumW d (hm ss)) us))) :: some (.own (.dk (nD (farW d (hm ss)) us))) :: some (.dat (.lst ((bs (sumW d (hm ss)) us).map nm))) :: some (.dat (.lst ((bs (farW d (hm ss)) us).map nm))) :: r)
abbrev besB : EM := mFrz (mCallO gSortedA (mCons (mOp gAdd (mFrz (mComp (mSeqOf (mVar 3)) (mgTup 3 (mgCons (mgName 14) (mgCons (mgName 16) (mgCons (mgName 18) mgNil)))) (mB (mOp gEq (mVar 16) (mVar 11))) (mVar 14) [14, 16, 18])) (mFrz (mComp (mSeqOf (mVar 3)) (mgTup 3 (mgCons (mgName 14) (mgCons (mgName 16) (mgCons (mgName 18) mgNil)))) (mB (mOp gEq (mVar 14) (mVar 11))) (mVar 16) [14, 16, 18]))) mNil))
theorem bes_w {x12 x13 x14 x15 x16 x17 x18 x19 : Option Sl} (C : Cf us ls d ss) : Gd (besB (Fr us ls d kt ss [some (.dat (nm p)), x12, x13, x14, x15, x16, x17, x18, x19]) st) fun D s => s = st ∧ ∃ zs, D = .lst (zs.map nm) ∧ Nb ls p zs := by
  have ll := C.ll
  have c1 : mComp (mSeqOf (mVar 3)) (mgTup 3 (mgCons (mgName 14) (mgCons (mgName 16) (mgCons (mgName 18) mgNil)))) (mB (mOp gEq (mVar 16) (mVar 11))) (mVar 14) [14, 16, 18] (Fr us ls d kt ss [some (.dat (nm p)), x12, x13, x14, x15, x16, x17, x18, x19]) st = .ok ((ls.filter fun l => decide (l.2.1 = p)).map fun l => nm l.1) st :=
    comp_if (f := ln) rfl (by omega) fun l _ => ⟨_, rfl, fun s => eq_gd (gd_b (gd_op (gd_eq (a := nm l.2.1) (s := s) rfl (gd_eq (a := nm p) (s := s) rfl (gd_eq eq_nm ⟨_, rfl, rfl, rfl⟩))))), fun _ s => rfl⟩
  have c2 : mComp (mSeqOf (mVar 3)) (mgTup 3 (mgCons (mgName 14) (mgCons (mgName 16) (mgCons (mgName 18) mgNil)))) (mB (mOp gEq (mVar 14) (mVar 11))) (mVar 16) [14, 16, 18] (Fr us ls d kt ss [some (.dat (nm p)), x12, x13, x14, x15, x16, x17, x18, x19]) st = .ok ((ls.filter fun l => decide (l.1 = p)).map fun l => nm l.2.1) st :=
    comp_if (f := ln) rfl (by omega) fun l _ => ⟨_, rfl, fun s => eq_gd (gd_b (gd_op (gd_eq (a := nm l.1) (s := s) rfl (gd_eq (a := nm p) (s := s) rfl (gd_eq eq_nm ⟨_, rfl, rfl, rfl⟩))))), fun _ s => rfl⟩
  obtain ⟨ys, hy⟩ : ∃ ys : List Nm, ys = ((ls.filter fun l => decide (l.2.1 = p)).map fun l => l.1) ++ ((ls.filter fun l => decide (l.1 = p)).map fun l => l.2.1) := ⟨_, rfl⟩
  have f1 := List.length_filter_le (fun l : Nm × Nm × Nat => decide (l.2.1 = p)) ls
  have f2 := List.length_filter_le (fun l : Nm × Nm × Nat => decide (l.1 = p)) ls
  have ly : ys.length ≤ 20 := by
    rw [hy, List.length_append, List.length_map, List.length_map]
    omega
  have em : ((ls.filter fun l => decide (l.2.1 = p)).map fun l => nm l.1) ++ ((ls.filter fun l => decide (l.1 = p)).map fun l => nm l.2.1) = ys.map nm := by
    rw [hy, List.map_append, List.map_map, List.map_map]
    rfl
  obtain ⟨zs, pz, es, _, up⟩ := sorted_nmO (st := st) (xs := ys) (by omega)
  refine gd_frz (gd_callO (gd_cons (gd_op (gd_frz (gd_eq c1 (gd_frz (gd_eq c2 ?_)))))))
  rw [add_l, if_pos (by rw [List.length_map, List.length_map]; exact big_line (by omega)), em]
  refine .mk (gd_nil (gd_eq es ⟨rfl, zs, rfl, ?_, up⟩))
  refine pz.trans ?_
  rw [hy]
  exact List.perm_append_comm
abbrev dueB : SM := mSeq (mAsg (mFrz (mComp (mSeqOf (mVar 6)) (mgName 17) (mB (mOp gEq (mOp gAdd (mTIx (mVar 5) (mCons (mVar 11) (mCons (mVar 14) mNil))) (mTIx (mVar 5) (mCons (mVar 14) (mCons (mOp gIx (mVar 17) (mC (.int 1))) mNil)))) (mTIx (mVar 5) (mCons (mVar 11) (mCons (mOp gIx (mVar 17) (mC (.int 1))) mNil))))) (mVar 17) [17])) (mgName 15))
  (mApp 13 (mTup (mCons (mVar 14) (mCons (mCall gLen (mCons (mVar 15) mNil)) mNil))))
theorem due_w {zs : List Nm} {x14 x15 x16 x17 x18 x19 : Option Sl} (C : Cf us ls d ss) (V : Val us d kt) (nb : Nb ls p zs) (hp : p ∈ us) : Gd (mFor (mSeqOf (mVar 12)) (mgName 14) dueB (Fr us ls d kt ss [some (.dat (nm p)), some (.dat (.lst (zs.map nm))), some (.own (.ls [])), x14, x15, x16, x17, x18, x19]) st)
    fun fl s => s = st ∧ ∃ x14 x15, fl = .nx (Fr us ls d kt ss [some (.dat (nm p)), some (.dat (.lst (zs.map nm))), some (.own (.ls (zs.map (bcD d ss p)))), x14, x15, x16, x17, x18, x19]) := by
  have ll := C.ll
  have lS := C.S.few
  have lz := nb.len
  refine gd_for (gd_eq (a := zs.map nm) (s := st) rfl ?_)
  refine gd_loop (fun r Γ s => s = st ∧ ∃ dn x14 x15, Γ = Fr us ls d kt ss [some (.dat (nm p)), some (.dat (.lst (zs.map nm))), some (.own (.ls (dn.map (bcD d ss p)))), x14, x15, x16, x17, x18, x19] ∧ zs = dn ++ r) ⟨rfl, [], x14, x15, rfl, rfl⟩ ?_ ?_
  · rintro z r Γ s ⟨rfl, dn, x14, x15, rfl, e⟩
    obtain ⟨c, ez⟩ := nb.edge.mp (show z ∈ zs by rw [e]; simp)
    have hz : z ∈ us := (C.M.edge _ _ _ ez).2.1
    have ld : dn.length ≤ 18 := by
      have := congrArg List.length e
      simp at this
      omega
    have ec : mComp (mSeqOf (mVar 6)) (mgName 17) (mB (mOp gEq (mOp gAdd (mTIx (mVar 5) (mCons (mVar 11) (mCons (mVar 14) mNil))) (mTIx (mVar 5) (mCons (mVar 14) (mCons (mOp gIx (mVar 17) (mC (.int 1))) mNil)))) (mTIx (mVar 5) (mCons (mVar 11) (mCons (mOp gIx (mVar 17) (mC (.int 1))) mNil))))) (mVar 17) [17] (Fr us ls d kt ss [some (.dat (nm p)), some (.dat (.lst (zs.map nm))), some (.own (.ls (dn.map (bcD d ss p)))), some (.dat (nm z)), x15, x16, x17, x18, x19]) s = .ok ((ss.filter fun t => decide (d p z + d z t.2.1 = d p t.2.1)).map ln) s := by
      refine comp_if (f := ln) (c := fun t : Seat => d p z + d z t.2.1 = d p t.2.1) rfl (by omega) fun t ht => ⟨_, rfl, fun s => ?_, fun _ s => rfl⟩
      have hq := C.S.at_ t ht
      have e1 : ∀ x14 : Option Sl, mOp gIx (mVar 17) (mC (.int 1)) (Fr us ls d kt ss [some (.dat (nm p)), some (.dat (.lst (zs.map nm))), some (.own (.ls (dn.map (bcD d ss p)))), x14, x15, x16, some (.dat (ln t)), x18, x19]) s = .ok (nm t.2.1) s := fun x14 => rfl
      exact eq_gd (gd_b (gd_op (gd_op (tix_at (p := p) (q := z) V rfl rfl hp hz rfl (tix_at (p := z) (q := t.2.1) V rfl rfl hz hq (e1 _) (gd_eq (a := inD (d p z + d z t.2.1)) (s := s) rfl (tix_at (p := p) (q := t.2.1) V rfl rfl hp hq (e1 _) (gd_eq eq_i ⟨_, rfl, decide_eq_decide.mpr Int.ofNat_inj, rfl⟩))))))))
    have ecnt : (ss.filter fun t => decide (d p z + d z t.2.1 = d p t.2.1)).length = cntW d (hm ss) p z := by
      unfold cntW hm
      rw [List.filter_map, List.length_map]
      rfl
    refine ⟨_, rfl, gd_seq (gd_asgN (gd_frz (gd_eq ec ?_)))⟩
    rw [ks_nx]
    refine gd_app (xs := dn.map (bcD d ss p)) rfl (by rw [List.length_map]; exact Nat.lt_of_le_of_lt ld (by decide)) (gd_tup (gd_cons (gd_eq (a := nm z) (s := s) rfl (gd_cons (gd_call (gd_cons (gd_eq (a := .lst ((ss.filter fun t => decide (d p z + d z t.2.1 = d p t.2.1)).map ln)) (s := s) rfl (gd_nil (gd_eq (a := .int (((ss.filter fun t => decide (d p z + d z t.2.1 = d p t.2.1)).map ln).length : Nat)) (s := s) rfl (gd_nil ⟨show 2 ≤ 1000000 by decide, _, .inl rfl, rfl, dn ++ [z], some (.dat (nm z)), some (.dat (.lst ((ss.filter fun t => decide (d p z + d z t.2.1 = d p t.2.1)).map ln))), ?_, by rw [e]; simp⟩))))))))))
    rw [List.length_map, ecnt, List.map_append]
    rfl
  · rintro Γ s ⟨rfl, dn, x14, x15, rfl, e⟩
    rw [List.append_nil] at e
    subst e
    exact ⟨rfl, x14, x15, rfl⟩
/-! ### the checks -/
theorem isnil {l : List Nm} : gEq (.lst (l.map nm)) (.lst []) st = .ok (.bl (decide (l = []))) st := eqE_nm.eq_nil (by decide) l
theorem lbs {F : Nm → Nat} : (bs F us).length ≤ us.length := List.length_filter_le _ _
abbrev halfB : EM := mOp gEq (mFrz (mComp (mSeqOf (mVar 13)) (mgTup 2 (mgCons (mgName 14) (mgCons (mgName 19) mgNil))) (mB (mOp gGt (mOp gMulW (mC (.int 2)) (mVar 19)) (mCall gLen (mCons (mVar 6) mNil)))) (mVar 14) [14, 19])) (mLst mNil)
theorem half_w {zs : List Nm} {x12 x14 x15 x16 x17 x18 x19 : Option Sl} (C : Cf us ls d ss) (lz : zs.length ≤ 20) : Gd (halfB (Fr us ls d kt ss [some (.dat (nm p)), x12, some (.dat (.bor (zs.map (bcD d ss p)))), x14, x15, x16, x17, x18, x19]) st) fun D s => D = .bl (decide (zs.filter (fun z => decide ((hm ss).length < 2 * cntW d (hm ss) p z)) = [])) ∧ s = st := by
  have ec : mComp (mSeqOf (mVar 13)) (mgTup 2 (mgCons (mgName 14) (mgCons (mgName 19) mgNil))) (mB (mOp gGt (mOp gMulW (mC (.int 2)) (mVar 19)) (mCall gLen (mCons (mVar 6) mNil)))) (mVar 14) [14, 19] (Fr us ls d kt ss [some (.dat (nm p)), x12, some (.dat (.bor (zs.map (bcD d ss p)))), x14, x15, x16, x17, x18, x19]) st = .ok ((zs.filter fun z => decide ((hm ss).length < 2 * cntW d (hm ss) p z)).map nm) st := by
    refine comp_if (f := bcD d ss p) (c := fun z => (hm ss).length < 2 * cntW d (hm ss) p z) rfl (by omega) fun z hz => ⟨_, rfl, fun s => ?_, fun _ s => rfl⟩
    have h1 := cnt_le d ss p z
    have h2 := C.few
    refine eq_gd (gd_b (gd_op (gd_op (gd_eq (a := .int 2) (s := s) rfl (gd_eq (a := inD (cntW d (hm ss) p z)) (s := s) rfl (gd_eq (mulWide (n := 60) (m := 60) (by decide) (show ((cntW d (hm ss) p z : Nat) : Int).natAbs < 2 ^ 60 from Nat.lt_of_lt_of_le (show _ < 9 by omega) (by decide)) (by decide)) (gd_call (gd_cons (gd_eq (a := .tup (ss.map ln)) (s := s) rfl (gd_nil (gd_eq (a := .int ((ss.map ln).length : Nat)) (s := s) rfl (gd_eq gt_i ⟨_, rfl, decide_eq_decide.mpr ?_, rfl⟩))))))))))))
    unfold hm
    rw [List.length_map, List.length_map]
    omega
  exact gd_op (gd_frz (gd_eq ec (gd_lst (gd_nil ⟨Nat.zero_le _, gd_eq isnil ⟨rfl, rfl⟩⟩))))
abbrev lessB (i : Nat) : EM := mOp gEq (mFrz (mComp (mSeqOf (mVar 12)) (mgName 14) (mB (mOp gLt (mDGet i (mVar 14)) (mDGet i (mVar 11)))) (mVar 14) [14])) (mLst mNil)
theorem less_w {i : Nat} {F : Nm → Nat} {zs : List Nm} {Γ : Ev} (hi : i = 7 ∨ i = 8) (lz : zs.length ≤ 20) (hz : ∀ z ∈ zs, z ∈ us) (hp : p ∈ us) (hl : Γ.length = 20) (g12 : Γ[12]? = some (some (.dat (.lst (zs.map nm))))) (g11 : Γ[11]? = some (some (.dat (nm p)))) (go : gOwnD i Γ = some (nD F us)) : Gd (lessB i Γ st) fun D s => D = .bl (decide (zs.filter (fun z => decide (F z < F p)) = [])) ∧ s = st := by
  have n14 : 14 ≠ i := by omega
  have ec : mComp (mSeqOf (mVar 12)) (mgName 14) (mB (mOp gLt (mDGet i (mVar 14)) (mDGet i (mVar 11)))) (mVar 14) [14] Γ st = .ok ((zs.filter fun z => decide (F z < F p)).map nm) st := by
    refine comp_if (f := nm) (c := fun z => F z < F p) (by rw [ev_seqOf, mVar_at g12]; rfl) (by omega) fun z hz' => ⟨_, rfl, fun s => ?_, fun _ s => mVar_at (by rw [ev_wipe, ev_wipe0, List.set_set]; simp [hl])⟩
    have gx : gOwnD i ((wipeE Γ [14]).set 14 (some (.dat (nm z)))) = some (nD F us) := by rw [own_set n14, ev_wipe, ev_wipe0, own_set n14, go]
    exact eq_gd (gd_b (gd_op (dget_at gx (by rw [ev_wipe, ev_wipe0, List.set_set]; simp [hl]) (hz z hz') (dget_at gx (by rw [ev_wipe, ev_wipe0, List.set_set, List.getElem?_set_ne (by decide)]; exact g11) hp (gd_eq lt_i ⟨_, rfl, decide_eq_decide.mpr Int.ofNat_lt, rfl⟩)))))
  exact gd_op (gd_frz (gd_eq ec (gd_lst (gd_nil ⟨Nat.zero_le _, gd_eq isnil ⟨rfl, rfl⟩⟩))))
abbrev betB : SM := mFor (mSeqOf (mVar 9)) (mgName 14) (mFor (mSeqOf (mVar 9)) (mgName 16) (mIfS (mAndT (mB (mOp gEq (mOp gAdd (mTIx (mVar 5) (mCons (mVar 14) (mCons (mVar 11) mNil))) (mTIx (mVar 5) (mCons (mVar 11) (mCons (mVar 16) mNil)))) (mTIx (mVar 5) (mCons (mVar 14) (mCons (mVar 16) mNil))))) (mB (mOp gNotInA (mVar 11) (mVar 9)))) (mRet (mC (.bl false))) mNext))
theorem bet_w {x12 x13 x14 x15 x16 x17 x18 x19 : Option Sl} (C : Cf us ls d ss) (V : Val us d kt) (hp : p ∈ us) : Gd (betB (Fr us ls d kt ss [some (.dat (nm p)), x12, x13, x14, x15, x16, x17, x18, x19]) st) fun fl s => s = st ∧ ∃ r, fl = .nx (Fr us ls d kt ss r) ∧ r.length = 9 := by
  refine gd_for (gd_eq (a := (bs (sumW d (hm ss)) us).map nm) (s := st) rfl ?_)
  refine gd_loop (fun r Γ s => s = st ∧ (∃ x14 x16, Γ = Fr us ls d kt ss [some (.dat (nm p)), x12, x13, x14, x15, x16, x17, x18, x19]) ∧ ∀ a ∈ r, a ∈ bs (sumW d (hm ss)) us) ⟨rfl, ⟨x14, x16, rfl⟩, fun a ha => ha⟩ ?_ ?_
  · rintro a r Γ s ⟨rfl, ⟨x14, x16, rfl⟩, hr⟩
    have ha := mem_bs.mp (hr a List.mem_cons_self)
    refine ⟨_, rfl, gd_for (gd_eq (a := (bs (sumW d (hm ss)) us).map nm) (s := s) rfl ?_)⟩
    refine gd_loop (fun r2 Γ s' => s' = s ∧ (∃ x16, Γ = Fr us ls d kt ss [some (.dat (nm p)), x12, x13, some (.dat (nm a)), x15, x16, x17, x18, x19]) ∧ ∀ b ∈ r2, b ∈ bs (sumW d (hm ss)) us) ⟨rfl, ⟨x16, rfl⟩, fun a ha => ha⟩ ?_ ?_
    · rintro b r2 Γ s' ⟨rfl, ⟨x16, rfl⟩, hr2⟩
      have hb := mem_bs.mp (hr2 b List.mem_cons_self)
      have next : ∃ Γ2, (Fl.nx (Fr us ls d kt ss [some (.dat (nm p)), x12, x13, some (.dat (nm a)), x15, some (.dat (nm b)), x17, x18, x19]) = .nx Γ2 ∨ Fl.nx (Fr us ls d kt ss [some (.dat (nm p)), x12, x13, some (.dat (nm a)), x15, some (.dat (nm b)), x17, x18, x19]) = .ct Γ2) ∧ s' = s' ∧ (∃ x16, Γ2 = Fr us ls d kt ss [some (.dat (nm p)), x12, x13, some (.dat (nm a)), x15, x16, x17, x18, x19]) ∧ ∀ b ∈ r2, b ∈ bs (sumW d (hm ss)) us := ⟨_, .inl rfl, rfl, ⟨some (.dat (nm b)), rfl⟩, fun x hx => hr2 x (List.mem_cons_of_mem _ hx)⟩
      refine ⟨_, rfl, gd_ifS (gd_andT (gd_b (gd_op (gd_op (tix_at (p := a) (q := p) V rfl rfl ha.1 hp rfl (tix_at (p := p) (q := b) V rfl rfl hp hb.1 rfl (gd_eq (a := inD (d a p + d p b)) (s := s') rfl (tix_at (p := a) (q := b) V rfl rfl ha.1 hb.1 rfl (gd_eq eq_i ⟨_, rfl, fun e => ?_, fun _ => ⟨fun e => (nomatch e), fun _ => .mk next⟩⟩)))))))))⟩
      have q : d a p + d p b = d a b := by
        have : ((d a p + d p b : Nat) : Int) = ((d a b : Nat) : Int) := by simpa using e
        omega
      have inb : p ∈ bs (sumW d (hm ss)) us := by
        rcases C.M.between_best ha.1 hb.1 hp q C.homes with l | l
        · exact mem_bs.mpr ⟨hp, fun y hy => Nat.le_trans l (ha.2 y hy)⟩
        · exact mem_bs.mpr ⟨hp, fun y hy => Nat.le_trans l (hb.2 y hy)⟩
      refine gd_b (gd_op (gd_eq (a := nm p) (s := s') rfl (gd_eq (a := .lst ((bs (sumW d (hm ss)) us).map nm)) (s := s') rfl (gd_eq in_nmL ⟨_, rfl, fun e2 => ?_, fun _ => .mk next⟩))))
      rw [decide_eq_true inb] at e2
      cases e2
    · rintro Γ s' ⟨rfl, ⟨x16, rfl⟩, _⟩
      exact ⟨_, .inl rfl, rfl, ⟨some (.dat (nm a)), x16, rfl⟩, fun x hx => hr x (List.mem_cons_of_mem _ hx)⟩
  · rintro Γ s ⟨rfl, ⟨x14, x16, rfl⟩, _⟩
    exact ⟨rfl, _, rfl, rfl⟩
end
end Lk56

/-! P56x: the law holds -/
namespace Lk56
open PySem L2 FL
section
variable {us : List Nm} {ls : List (Nm × Nm × Nat)} {d : Nm → Nm → Nat} {kt : KT} {ss : List Seat} {p q : Nm} {st : DS}
abbrev placeB : SM := (mSeq (mIfS (mB (mOp gNe (mCall gRepr (mCons (mCall (fun ds => nxM (m_sum_from (FL.pick [0, 1, 2] ds))) (mCons (mVar 4) (mCons (mVar 6) (mCons (mVar 11) mNil)))) mNil)) (mCall gRepr (mCons (mDGet 7 (mVar 11)) mNil)))) (mRet (mC (.bl false))) mNext)
  (mSeq (mIfS (mB (mOp gNe (mCall gRepr (mCons (mCall (fun ds => nxM (m_farthest_from (FL.pick [0, 1, 2] ds))) (mCons (mVar 4) (mCons (mVar 6) (mCons (mVar 11) mNil)))) mNil)) (mCall gRepr (mCons (mDGet 8 (mVar 11)) mNil)))) (mRet (mC (.bl false))) mNext)
  (mSeq (mAsg besB (mgName 12))
  (mSeq (mSetO 13 (mDisp mNil))
  (mSeq (mFor (mSeqOf (mVar 12)) (mgName 14) dueB)
  (mSeq (mIfS (mBorT 13 (mB (mOp gNe (mCall gRepr (mCons (mCall (fun ds => nxM (m_branch_counts (FL.pick [0, 1, 2] ds))) (mCons (mVar 4) (mCons (mVar 6) (mCons (mVar 11) mNil)))) mNil)) (mCall gRepr (mCons (mCall gTuple (mCons (mVar 13) mNil)) mNil))))) (mRet (mC (.bl false))) mNext)
  (mSeq (mIfS (mBorT 13 (mB (mOp gNe (mOp gInA (mVar 11) (mVar 9)) halfB))) (mRet (mC (.bl false))) mNext)
  (mSeq (mIfS (mB (mOp gNe (mOp gInA (mVar 11) (mVar 9)) (lessB 7))) (mRet (mC (.bl false))) mNext)
  (mSeq (mIfS (mB (mOp gNe (mOp gInA (mVar 11) (mVar 10)) (lessB 8))) (mRet (mC (.bl false))) mNext)
  betB)))))))))
theorem in_bs {F : Nm → Nat} {Γ : Ev} {i j : Nat} (hi : Γ[i]? = some (some (.dat (nm p)))) (hj : Γ[j]? = some (some (.dat (.lst ((bs F us).map nm))))) : Gd (mOp gInA (mVar i) (mVar j) Γ st) fun D s => D = .bl (decide (p ∈ bs F us)) ∧ s = st :=
  gd_op (gd_eq (mVar_at hi) (gd_eq (mVar_at hj) (gd_eq in_nmL ⟨by simp, rfl⟩)))
theorem place_w {x12 x13 x14 x15 x16 x17 x18 x19 : Option Sl} (C : Cf us ls d ss) (V : Val us d kt) (hp : p ∈ us) : Gd (placeB (Fr us ls d kt ss [some (.dat (nm p)), x12, x13, x14, x15, x16, x17, x18, x19]) st) fun fl s => ∃ r, fl = .nx (Fr us ls d kt ss r) ∧ r.length = 9 := by
  have ll := C.ll
  have b1 := sum_le C hp C.homes
  have b2 := C.few
  have b3 := far_le C hp C.homes
  refine gd_seq (gd_same (x := inD (sumW d (hm ss) p)) (repr_n (by omega)) (gd_callN (gd_eq (a := [rd us ls, .tup (ss.map ln), nm p]) (s := st) rfl (gd_eq (sum_at C hp) ⟨rfl, rfl⟩))) (dget_at (F := sumW d (hm ss)) (us := us) (p := p) rfl rfl hp ⟨rfl, rfl⟩) ?_)
  rw [ks_nx]
  refine gd_seq (gd_same (x := inD (farW d (hm ss) p)) (repr_n (by omega)) (gd_callN (gd_eq (a := [rd us ls, .tup (ss.map ln), nm p]) (s := st) rfl (gd_eq (far_at C hp) ⟨rfl, rfl⟩))) (dget_at (F := farW d (hm ss)) (us := us) (p := p) rfl rfl hp ⟨rfl, rfl⟩) ?_)
  rw [ks_nx]
  refine gd_seq (gd_asgN ((bes_w (x12 := x12) (x13 := x13) (x14 := x14) (x15 := x15) (x16 := x16) (x17 := x17) (x18 := x18) (x19 := x19) (p := p) (kt := kt) C).mono fun D s ⟨e1, zs, e2, nb⟩ => ?_))
  subst e1; subst e2
  have lz := nb.len
  rw [ks_nx]
  refine gd_seq (gd_setO (gd_disp (gd_nil ⟨Nat.zero_le _, ?_⟩)))
  rw [ks_nx]
  refine gd_seq ((due_w (x14 := x14) (x15 := x15) (x16 := x16) (x17 := x17) (x18 := x18) (x19 := x19) (st := s) C V nb hp).mono fun fl s' ⟨e1, x14, x15, e2⟩ => ?_)
  subst e1; subst e2
  rw [ks_nx]
  have rb := repr_bc (p := p) C (zs := zs) (by omega)
  refine gd_seq (gd_ifS (gd_borT (xs := zs.map (bcD d ss p)) rfl (gd_b (gd_op (gd_call (gd_cons (gd_callN (gd_eq (a := [rd us ls, .tup (ss.map ln), nm p]) (s := s') rfl ((bc_w C hp).mono fun D s ⟨e1, zs', e2, nb'⟩ => ?_)))))))))
  subst e1; subst e2
  have ez : zs' = zs := nb'.up.eq nb.up (nb'.perm.trans nb.perm.symm)
  subst ez
  refine gd_nil (gd_eq (repr_at rb) (gd_call (gd_cons (gd_call (gd_eq (a := [.bor (zs'.map (bcD d ss p))]) (s := s) rfl (gd_eq (a := .tup (zs'.map (bcD d ss p))) (s := s) rfl (gd_nil (gd_eq (repr_at rb) (gd_eq ne_s ⟨_, rfl, fun e => ?_, fun _ => .mk ?_⟩)))))))))
  · simp at e
  rw [ks_nx]
  have t1 := best_half C nb hp
  refine gd_seq (gd_ifS (gd_borT (xs := zs'.map (bcD d ss p)) rfl (gd_b (gd_op ((in_bs (F := sumW d (hm ss)) (us := us) (p := p) rfl rfl).mono fun D s2 ⟨e1, e2⟩ => ?_)))))
  subst e1; subst e2
  refine (half_w (x12 := some (.dat (.lst (zs'.map nm)))) (x14 := x14) (x15 := x15) (x16 := x16) (x17 := x17) (x18 := x18) (x19 := x19) (p := p) (kt := kt) (st := s2) C (zs := zs') (by omega)).mono fun D s3 ⟨e1, e2⟩ => ?_
  subst e1; subst e2
  refine gd_eq ne_bl ⟨_, rfl, fun e => ?_, fun _ => .mk ?_⟩
  · rw [t1] at e
    simp at e
  rw [ks_nx]
  have zin : ∀ z ∈ zs', z ∈ us := fun z hz => by
    obtain ⟨c, e⟩ := nb.edge.mp hz
    exact (C.M.edge _ _ _ e).2.1
  have t2 := best_next C (F := sumW d (hm ss)) (fun y hy l => C.M.sum_local hp hy C.homes l) nb hp
  have t3 := best_next C (F := farW d (hm ss)) (fun y hy l => C.M.far_local hp hy C.homes l) nb hp
  refine gd_seq (gd_iff (b := decide (p ∈ bs (sumW d (hm ss)) us)) (in_bs (F := sumW d (hm ss)) (us := us) (p := p) rfl rfl) (t2 ▸ less_w (i := 7) (us := us) (.inl rfl) (by omega) zin hp rfl rfl rfl rfl) ?_)
  rw [ks_nx]
  refine gd_seq (gd_iff (b := decide (p ∈ bs (farW d (hm ss)) us)) (in_bs (F := farW d (hm ss)) (us := us) (p := p) rfl rfl) (t3 ▸ less_w (i := 8) (us := us) (.inr rfl) (by omega) zin hp rfl rfl rfl rfl) ?_)
  rw [ks_nx]
  exact (bet_w C V hp).mono fun fl s ⟨_, r, e, h⟩ => ⟨r, e, h⟩
theorem law_at : Gd (mb_law ((List.replicate 20 none).set 1 (some (.dat .deal))) st) fun fl s => fl = .rt (.bl true) := by
  unfold mb_law
  refine gd_seq (gd_asg (gd_callN (gd_eq (a := [.deal, .int ((9 : Nat) : Int)]) (s := st) rfl (W.gd (land_w (n := 9) (by decide)) fun dd s ⟨us, ls, e, L⟩ => ?_))))
  subst e
  refine ⟨_, rfl, ?_⟩
  rw [ks_nx]
  obtain ⟨d, M⟩ := L.grow.met
  have lu := L.few
  refine gd_seq (gd_asg (gd_tup (gd_cons (gd_mk (gd_cons (gd_call (gd_eq (a := [.lst (us.map nm)]) (s := s) rfl (gd_eq (a := .tup (us.map nm)) (s := s) rfl (gd_cons (gd_call (gd_eq (a := [.lst (ls.map ln)]) (s := s) rfl (gd_eq (a := .tup (ls.map ln)) (s := s) rfl (gd_nil ⟨rfl, gd_cons (gd_callN (gd_eq (a := [.lst (us.map nm), .lst (ls.map ln)]) (s := s) rfl ((lways_w M (by omega)).mono fun D s' ⟨e1, kt, e2, hv⟩ => ?_)))⟩)))))))))))))
  subst e1; subst e2
  refine gd_nil ⟨show 2 ≤ 1000000 by decide, _, rfl, ?_⟩
  rw [ks_nx]
  refine gd_seq (gd_asgN (gd_callN (gd_eq (a := [.deal, .lst (us.map nm), .int ((8 : Nat) : Int)]) (s := s') rfl (W.gd (seats_w L.ne (by omega) (by decide)) fun dd s ⟨ss, e, S⟩ => ?_))))
  subst e
  rw [ks_nx]
  have C : Cf us ls d ss := ⟨M, L.asc, L.few, L.len, L.ne, S⟩
  have V : Val us d kt := hv
  have nd := C.asc.nodup
  have e7 : ∀ (x7 x8 x9 x10 x11 x12 x13 x14 x15 x16 x17 x18 x19 : Option Sl) (s : DS), mComp (mSeqOf (mVar 2)) (mgName 11) mYes (mTup (mCons (mVar 11) (mCons (mCall gSum (mCons (mFrz ways1) mNil)) mNil))) [11] (Ez us ls kt ss [x7, x8, x9, x10, x11, x12, x13, x14, x15, x16, x17, x18, x19]) s = .ok (us.map fun p => .tup [nm p, inD (sumW d (hm ss) p)]) s := fun x7 x8 x9 x10 x11 x12 x13 x14 x15 x16 x17 x18 x19 s =>
    comp_all (f := nm) rfl (by omega) fun p hp => ⟨_, rfl, fun s => eq_gd (gd_tup (gd_cons (gd_eq (a := nm p) (s := s) rfl (gd_cons (gd_call (gd_cons (gd_frz (gd_eq (ways1_at C V hp) (gd_nil (gd_eq (sum_inD _) (gd_nil ⟨show 2 ≤ 1000000 by decide, rfl, rfl⟩)))))))))))⟩
  have e8 : ∀ (x7 x8 x9 x10 x11 x12 x13 x14 x15 x16 x17 x18 x19 : Option Sl) (s : DS), mComp (mSeqOf (mVar 2)) (mgName 11) mYes (mTup (mCons (mVar 11) (mCons (mMaxD (mCons (mFrz ways1) mNil) (mC (.int 0))) mNil))) [11] (Ez us ls kt ss [x7, x8, x9, x10, x11, x12, x13, x14, x15, x16, x17, x18, x19]) s = .ok (us.map fun p => .tup [nm p, inD (farW d (hm ss) p)]) s := fun x7 x8 x9 x10 x11 x12 x13 x14 x15 x16 x17 x18 x19 s =>
    comp_all (f := nm) rfl (by omega) fun p hp => ⟨_, rfl, fun s => eq_gd (gd_tup (gd_cons (gd_eq (a := nm p) (s := s) rfl (gd_cons (gd_maxD (gd_cons (gd_frz (gd_eq (ways1_at C V hp) (gd_nil (gd_eq (a := .int 0) (s := s) rfl (gd_eq (max_inD _) (gd_nil ⟨show 2 ≤ 1000000 by decide, rfl, rfl⟩))))))))))))⟩
  refine gd_seq (gd_setD (gd_dpairs (gd_cons (gd_frz (gd_eq (e7 none none none none none none none none none none none none none s) (gd_nil (gd_eq (dpairs_at nd) ?_)))))))
  rw [ks_nx]
  refine gd_seq (gd_setD (gd_dpairs (gd_cons (gd_frz (gd_eq (e8 (some (.own (.dk (nD (sumW d (hm ss)) us)))) none none none none none none none none none none none none s) (gd_nil (gd_eq (dpairs_at nd) ?_)))))))
  rw [ks_nx]
  refine gd_seq (gd_asgN (gd_frz (gd_eq (least_in (us := us) (F := sumW d (hm ss)) (.inl rfl) C rfl rfl rfl) ?_)))
  rw [ks_nx]
  refine gd_seq (gd_asgN (gd_frz (gd_eq (least_in (us := us) (F := farW d (hm ss)) (.inr rfl) C rfl rfl rfl) ?_)))
  rw [ks_nx]
  have lb : ∀ F, (bs F us).length ≤ 100 := fun F => Nat.le_trans (lbs (F := F)) (by omega)
  refine gd_seq (gd_same (x := .tup ((bs (sumW d (hm ss)) us).map nm)) (repr_names (lb _)) (gd_callN (gd_eq (a := [rd us ls, .tup (ss.map ln)]) (s := s) rfl (gd_eq (mid_at C) ⟨rfl, rfl⟩))) (gd_call (gd_eq (a := [.lst ((bs (sumW d (hm ss)) us).map nm)]) (s := s) rfl (gd_eq (a := .tup ((bs (sumW d (hm ss)) us).map nm)) (s := s) rfl ⟨rfl, rfl⟩))) ?_)
  rw [ks_nx]
  refine gd_seq (gd_same (x := .tup ((bs (farW d (hm ss)) us).map nm)) (repr_names (lb _)) (gd_callN (gd_eq (a := [rd us ls, .tup (ss.map ln)]) (s := s) rfl (gd_eq (cen_at C) ⟨rfl, rfl⟩))) (gd_call (gd_eq (a := [.lst ((bs (farW d (hm ss)) us).map nm)]) (s := s) rfl (gd_eq (a := .tup ((bs (farW d (hm ss)) us).map nm)) (s := s) rfl ⟨rfl, rfl⟩))) ?_)
  rw [ks_nx]
  refine gd_seq (gd_for (gd_eq (a := us.map nm) (s := s) rfl ?_))
  refine gd_loop (fun r Γ s => (∃ l, Γ = Fr us ls d kt ss l ∧ l.length = 9) ∧ ∀ x ∈ r, x ∈ us) ⟨⟨List.replicate 9 none, rfl, by simp⟩, fun x hx => hx⟩ ?_ ?_
  · rintro p r Γ s ⟨⟨l, rfl, hl⟩, hr⟩
    match l, hl with
    | [x11, x12, x13, x14, x15, x16, x17, x18, x19], _ => exact ⟨_, rfl, (place_w (x12 := x12) (x13 := x13) (x14 := x14) (x15 := x15) (x16 := x16) (x17 := x17) (x18 := x18) (x19 := x19) (st := s) C V (hr p List.mem_cons_self)).mono fun fl s ⟨l', e, h⟩ => ⟨_, .inl e, ⟨l', rfl, h⟩, fun x hx => hr x (List.mem_cons_of_mem _ hx)⟩⟩
  · rintro Γ s ⟨⟨l, rfl, hl⟩, _⟩
    rw [ks_nx]
    exact gd_ret (gd_eq (a := .bl true) (s := s) rfl rfl)
theorem plain : Plain := fun ns hn => by
  obtain ⟨cs, b, hc, e⟩ := dealW_run (k1 := 40127) (k2 := 863) (b0 := 56) (by decide) (by decide) ns hn ([], 0)
  obtain ⟨f, st1, e2, rfl⟩ := gd_out (law_at (st := (cs, b)))
  exact ⟨cs, b, _, st1, hc, e, e2⟩
end
end Lk56

open PySem PySem.W PyProof.Rows
set_option maxHeartbeats 0 in
theorem PySem.Challenge.cw_servedall_k56_whole_middles_and_centres_holds : PySem.Challenge.rw_servedall_k56_whole_middles_and_centres.Holds := by
  w_on; o_law; k_head; (case hw => w_witness2)
  k_fill
  refine' FL.walk_law (l := PySem.Challenge.rw_servedall_k56_whole_middles_and_centres) (n := 63) (j := 7) (x := "_law_script") [] rfl (by decide) rfl ⟨rfl, by decide, by decide⟩ (fun w h Y => PySem.W.kIn_of Y) ?T ?F
  case F =>
    intro w mg fa h KX G hmg
    obtain ⟨t, e1⟩ : ∃ t : Lk56.Txt PySem.Challenge.rw_servedall_k56_whole_middles_and_centres.prog _ mg, t.f_law = fa := by
      refine' Lk56.all_mk KX G hmg ?a0 ?l0 ?c0 ?k0 ?a1 ?l1 ?c1 ?k1 ?a2 ?l2 ?c2 ?k2 ?a3 ?l3 ?c3 ?k3 ?a4 ?l4 ?c4 ?k4 ?a5 ?l5 ?c5 ?k5 ?a6 ?l6 ?c6 ?k6 ?a7 ?l7 ?c7 ?k7 ?a8 ?l8 ?c8 ?k8 ?a9 ?l9 ?c9 ?k9 ?a10 ?l10 ?c10 ?k10 ?a11 ?l11 ?c11 ?k11 ?a12 ?l12 ?c12 ?k12 ?a13 ?l13 ?c13 ?k13 ?a14 ?l14 ?c14 ?k14 ?a15 ?l15 ?c15 ?k15 ?a16 ?l16 ?c16 ?k16 ?a17 ?l17 ?c17 ?k17 ?a18 ?l18 ?c18 ?k18 ?a19 ?l19 ?c19 ?k19 ?z0 ?z1 ?z2 ?z3 ?z4 ?z5 ?z6 ?z7 ?z8 ?z9 ?z10 ?z11 ?z12 ?z13 ?z14 ?yc_Roads ?ym_Roads
      (case a0 => k_is)
      (case l0 => k_is)
      (case c0 => k_is)
      (case k0 => k_is)
      (case a1 => k_is)
      (case l1 => k_is)
      (case c1 => k_is)
      (case k1 => k_is)
      (case a2 => k_is)
      (case l2 => k_is)
      (case c2 => k_is)
      (case k2 => k_is)
      (case a3 => k_is)
      (case l3 => k_is)
      (case c3 => k_is)
      (case k3 => k_is)
      (case a4 => k_is)
      (case l4 => k_is)
      (case c4 => k_is)
      (case k4 => k_is)
      (case a5 => k_is)
      (case l5 => k_is)
      (case c5 => k_is)
      (case k5 => k_is)
      (case a6 => k_is)
      (case l6 => k_is)
      (case c6 => k_is)
      (case k6 => k_is)
      (case a7 => k_is)
      (case l7 => k_is)
      (case c7 => k_is)
      (case k7 => k_is)
      (case a8 => k_is)
      (case l8 => k_is)
      (case c8 => k_is)
      (case k8 => k_is)
      (case a9 => k_is)
      (case l9 => k_is)
      (case c9 => k_is)
      (case k9 => k_is)
      (case a10 => k_is)
      (case l10 => k_is)
      (case c10 => k_is)
      (case k10 => k_is)
      (case a11 => k_is)
      (case l11 => k_is)
      (case c11 => k_is)
      (case k11 => k_is)
      (case a12 => k_is)
      (case l12 => k_is)
      (case c12 => k_is)
      (case k12 => k_is)
      (case a13 => k_is)
      (case l13 => k_is)
      (case c13 => k_is)
      (case k13 => k_is)
      (case a14 => k_is)
      (case l14 => k_is)
      (case c14 => k_is)
      (case k14 => k_is)
      (case a15 => k_is)
      (case l15 => k_is)
      (case c15 => k_is)
      (case k15 => k_is)
      (case a16 => k_is)
      (case l16 => k_is)
      (case c16 => k_is)
      (case k16 => k_is)
      (case a17 => k_is)
      (case l17 => k_is)
      (case c17 => k_is)
      (case k17 => k_is)
      (case a18 => k_is)
      (case l18 => k_is)
      (case c18 => k_is)
      (case k18 => k_is)
      (case a19 => k_is)
      (case l19 => k_is)
      (case c19 => k_is)
      (case k19 => k_is)
      (case z0 => k_is)
      (case z1 => k_is)
      (case z2 => k_is)
      (case z3 => k_is)
      (case z4 => k_is)
      (case z5 => k_is)
      (case z6 => k_is)
      (case z7 => k_is)
      (case z8 => k_is)
      (case z9 => k_is)
      (case z10 => k_is)
      (case z11 => k_is)
      (case z12 => k_is)
      (case z13 => k_is)
      (case z14 => k_is)
      (case yc_Roads => exact FL.ctxt_mk KX G (by k_is) (by k_is) (by k_is) (by k_is) (by k_is) (FL.noall_cons (by k_is) (FL.noall_cons (by k_is) FL.noall_nil)) (by k_is) (by k_is) (by first | rfl | k_is) (by k_is) (FL.kit_cons (by first | rfl | k_is | kernel_rfl) (FL.kit_cons (by first | rfl | k_is | kernel_rfl) (FL.kit_cons (by first | rfl | k_is | kernel_rfl) (FL.kit_cons (by first | rfl | k_is | kernel_rfl) (FL.kit_cons (by first | rfl | k_is | kernel_rfl) (FL.kit_cons (by first | rfl | k_is | kernel_rfl) (FL.kit_cons (by first | rfl | k_is | kernel_rfl) FL.kit_nil))))))))
      case ym_Roads =>
        refine' FL.mtxt_mk ?ym_Roads1 ?ym_Roads2 ?ym_Roads3 ?ym_Roads4 ?ym_Roads5 ?ym_Roads6 ?ym_Roads7
        (case ym_Roads1 => k_is); (case ym_Roads2 => k_is); (case ym_Roads3 => k_is); (case ym_Roads4 => k_is); (case ym_Roads5 => first | k_is | rfl); (case ym_Roads6 => k_is); (case ym_Roads7 => exact fun us hl => match us, hl with | [_, _, _], _ => rfl)
    subst e1
    refine ⟨t.d_law, t.b_law, fun base _ _ hT => Lk56.ok_law Lk56.plain t⟩
  case T =>
    intro w h Y t ht; cases ht

