import PyProof.Rows.All
import Wide.All
import OpenK.AllK
import Wide.FinOn
import PySem.Challenge.RW_servedall_k02_whole_sums_quotients_and_o
import HandS.ForMost
import HandS.IsInst
import HandS.Lambda
import HandS.TupAny
import HandS.Deep
import HandS.RaiseMore
import HandS.WordsExc
import KE.KNestM
import HandS.EndTab
import HandS.Zip
import HandS.Iter
import PyProof.WalksMore
import HandS.Wide
import KE.DataMinKey
import HandS.TupLe
import HandS.SortKw
import KE.SortData
import KE.GoesMore
import HandS.SetFor
import HandS.Style
import PyProof.EnumMake
import PyProof.Draws
import KE.KRevSl
import HandS.Strs
import KE.KExcSuper
import HandS.ExcSuper
import HandS.TryMany
import HandS.TryOnly
import HandS.ExcOwn
import HandS.Codes
import HandS.ExcIs
import HandS.Gcd
set_option Elab.async false
set_option linter.all false
set_option maxRecDepth 100000
/-! FL1: data hidden behind the heap: values as trees D, a monad M of answers, readings tM that speak of trees alone -/
namespace FL
open PySem PySem.Spec PyProof.Rows L2

inductive D where
  | non | bl (b : Bool) | int (i : Int) | str (x : Str) | tup (xs : List D) | lst (xs : List D) | bor (xs : List D) | kl (xs : List D) | deal
  | ins (C : Addr) (ks : List Str) (xs : List D)

structure Kx where
  K : PySem.W.Frag
  /-- is there a deal? where -/
  on : Bool
  dl : Addr
  cl : Addr
  /-- lists of a caller's that are lent -/
  B : Hp
  /-- tables of code objects -/
  T : List (Addr × Str)
def Kx.hot (k : Kx) (a : Addr) : Prop := k.on = true ∧ (a = k.dl ∨ a = k.cl)

mutual
inductive Rep (k : Kx) (F : Hp) : V → D → Prop
  | non : Rep k F .non .non
  | bl (b : Bool) : Rep k F (.bl b) (.bl b)
  | int (i : Int) : Rep k F (.int i) (.int i)
  | str (x : Str) : Rep k F (.str x) (.str x)
  | tup {a : Addr} {vs : List V} {ds : List D} (h : SqT k.K F a vs) (r : Reps k F vs ds) : Rep k F (.ref a) (.tup ds)
  | lst {a : Addr} {vs : List V} {ds : List D} (h : F a = some (.lst vs)) (r : Reps k F vs ds) : Rep k F (.ref a) (.lst ds)
  | bor {a : Addr} {vs : List V} {ds : List D} (h : k.B a = some (.lst vs)) (r : Reps k F vs ds) : Rep k F (.ref a) (.bor ds)
  | kl {a : Addr} {vs : List V} {ds : List D} (h : SqL k.K F a vs) (r : Reps k F vs ds) : Rep k F (.ref a) (.kl ds)
  | deal (h : k.on = true) : Rep k F (.ref k.dl) .deal
  | ins {a C dx : Addr} {fs : List (Str × V)} {ks : List Str} {xs : List D} (h : F a = some (.ins C dx fs)) (h2 : F dx = some (.own a)) (e : fs.map (·.1) = ks) (r : Reps k F (fs.map (·.2)) xs) : Rep k F (.ref a) (.ins C ks xs)
inductive Reps (k : Kx) (F : Hp) : List V → List D → Prop
  | nil : Reps k F [] []
  | cons {v : V} {vs : List V} {d : D} {ds : List D} (h : Rep k F v d) (t : Reps k F vs ds) : Reps k F (v :: vs) (d :: ds)
end

theorem sqt_mono {K : PySem.W.Frag} {F F' : Hp} (s : Same F F') {a : Addr} {xs : List V} (h : SqT K F a xs) : SqT K F' a xs := by
  rcases h with (h | ⟨o, h⟩) | h
  · exact .inl (.inl (s _ _ h))
  · exact .inl (.inr ⟨o, s _ _ h⟩)
  · exact .inr h

theorem sql_mono {K : PySem.W.Frag} {F F' : Hp} (s : Same F F') {a : Addr} {xs : List V} (h : SqL K F a xs) : SqL K F' a xs := by
  rcases h with (h | ⟨o, h⟩) | h
  · exact .inl (.inl (s _ _ h))
  · exact .inl (.inr ⟨o, s _ _ h⟩)
  · exact .inr h
section
variable {k : Kx} {F F' H : Hp}
mutual
theorem Rep.mono (s : Same F F') : ∀ {v : V} {d : D}, Rep k F v d → Rep k F' v d
  | _, _, .non => .non
  | _, _, .bl b => .bl b
  | _, _, .int i => .int i
  | _, _, .str x => .str x
  | _, _, .tup h r => .tup (sqt_mono s h) (Reps.mono s r)
  | _, _, .lst h r => .lst (s _ _ h) (Reps.mono s r)
  | _, _, .bor h r => .bor h (Reps.mono s r)
  | _, _, .kl h r => .kl (sql_mono s h) (Reps.mono s r)
  | _, _, .deal h => .deal h
  | _, _, .ins h h2 e r => .ins (s _ _ h) (s _ _ h2) e (Reps.mono s r)
theorem Reps.mono (s : Same F F') : ∀ {vs : List V} {ds : List D}, Reps k F vs ds → Reps k F' vs ds
  | _, _, .nil => .nil
  | _, _, .cons h t => .cons (Rep.mono s h) (Reps.mono s t)
end
theorem Reps.length : ∀ {vs : List V} {ds : List D}, Reps k F vs ds → vs.length = ds.length
  | _, _, .nil => rfl
  | _, _, .cons _ t => congrArg (· + 1) (Reps.length t)
theorem Reps.get : ∀ {vs : List V} {ds : List D} {i : Nat} {v : V}, Reps k F vs ds → vs[i]? = some v → ∃ d, ds[i]? = some d ∧ Rep k F v d
  | _, _, _, _, .nil, e => by simp at e
  | _, _, 0, _, .cons h _, e => by simp at e; subst e; exact ⟨_, rfl, h⟩
  | _, _, i + 1, v, .cons _ t, e => by
    obtain ⟨d, h1, h2⟩ := Reps.get (i := i) (v := v) t (by simpa using e)
    exact ⟨d, by simpa using h1, h2⟩
theorem Reps.getD : ∀ {vs : List V} {ds : List D} {i : Nat} {d : D}, Reps k F vs ds → ds[i]? = some d → ∃ v, vs[i]? = some v ∧ Rep k F v d
  | _, _, _, _, .nil, e => by simp at e
  | _, _, 0, _, .cons h _, e => by simp at e; subst e; exact ⟨_, rfl, h⟩
  | _, _, i + 1, d, .cons _ t, e => by
    obtain ⟨v, h1, h2⟩ := Reps.getD (i := i) (d := d) t (by simpa using e)
    exact ⟨v, by simpa using h1, h2⟩
theorem Reps.append : ∀ {vs ws : List V} {ds es : List D}, Reps k F vs ds → Reps k F ws es → Reps k F (vs ++ ws) (ds ++ es)
  | _, _, _, _, .nil, h => h
  | _, _, _, _, .cons h t, r => .cons h (Reps.append t r)
theorem Reps.set : ∀ {vs : List V} {ds : List D} (i : Nat) {v : V} {d : D}, Reps k F vs ds → Rep k F v d → Reps k F (vs.set i v) (ds.set i d)
  | _, _, _, _, _, .nil, _ => .nil
  | _, _, 0, _, _, .cons _ t, q => .cons q t
  | _, _, i + 1, _, _, .cons h t, q => .cons h (Reps.set i t q)
theorem Reps.take : ∀ {vs : List V} {ds : List D} (n : Nat), Reps k F vs ds → Reps k F (vs.take n) (ds.take n)
  | _, _, 0, _ => by simpa using Reps.nil
  | _, _, _ + 1, .nil => .nil
  | _, _, n + 1, .cons h t => .cons h (Reps.take n t)
theorem Reps.drop : ∀ {vs : List V} {ds : List D} (n : Nat), Reps k F vs ds → Reps k F (vs.drop n) (ds.drop n)
  | _, _, 0, r => r
  | _, _, _ + 1, .nil => .nil
  | _, _, n + 1, .cons _ t => Reps.drop n t
theorem Reps.nil_iff : ∀ {vs : List V} {ds : List D}, Reps k F vs ds → (vs = [] ↔ ds = [])
  | _, _, .nil => by simp
  | _, _, .cons _ _ => by simp
end

/-! ### answers -/
abbrev DS := List Int × Int
inductive Out (α : Type) where
  | ok (a : α) (st : DS)
  | err (C : Addr) (fs : List (Str × D)) (st : DS)
  | stuck
def Out.bind {α β : Type} (o : Out α) (f : α → DS → Out β) : Out β := match o with
  | .ok a st => f a st
  | .err C fs st => .err C fs st
  | .stuck => .stuck
def M (α : Type) := DS → Out α
@[reducible] instance : Monad M where
  pure a := fun st => .ok a st
  bind m f := fun st => (m st).bind f
def halt {α : Type} : M α := fun _ => .stuck
def guardM (c : Bool) : M Unit := fun st => if c then .ok () st else .stuck

/-- how a frame's slot stands: data, or a list that this frame alone has -/
inductive Sl where
  | dat (d : D)
  | own (xs : List D)
abbrev Ev := List (Option Sl)
abbrev EM := Ev → M D

structure At (k : Kx) (H : Hp) (st : DS) : Prop where
  few : st.1.length ≤ 63
  dl : H k.dl = some (.lst [.ref k.cl, .int st.2])
  cl : H k.cl = some (.lst (st.1.map V.int))
structure Hid (k : Kx) (F : Hp) : Prop where
  fdl : F k.dl = none
  fcl : F k.cl = none
  ne : k.dl ≠ k.cl
  bdl : k.B k.dl = none
  bcl : k.B k.cl = none
theorem At.upd {k : Kx} {H : Hp} {st : DS} (h : k.on = true) (A : At k H st) {p : Addr} (n : ¬ k.hot p) {ob : HO} : At k (upd H p ob) st :=
  ⟨A.few, by rw [upd_ne (fun z => n ⟨h, .inl z.symm⟩)]; exact A.dl, by rw [upd_ne (fun z => n ⟨h, .inr z.symm⟩)]; exact A.cl⟩
structure Step (k : Kx) (F H F' H' : Hp) (st' : DS) : Prop where
  ext : Same F F'
  stay : ∀ a o, H a = some o → ¬ k.hot a → (∀ ps, o ≠ .tbl ps) → H' a = some o
  kept : ∀ a o, H a = some o → ∃ o', H' a = some o'
  nof : ∀ a o, H a = some o → F a = none → F' a = none
  tabs : LamX.Tabs k.T H'
  ftbl : ∀ b o, F' b = some o → ∀ ps, o ≠ .tbl ps
  sub : Same F' H'
  at_ : k.on = true → At k H' st'
def SlV (k : Kx) (F H : Hp) (v : V) : Sl → Prop
  | .dat d => Rep k F v d
  | .own xs => ∃ a vs, v = .ref a ∧ H a = some (.lst vs) ∧ F a = none ∧ ¬ k.hot a ∧ k.B a = none ∧ Reps k F vs xs
structure Ok (k : Kx) (F H : Hp) (σ : L2.St) (Γ : Ev) (st : DS) : Prop where
  sub : Same F H
  at_ : k.on = true → At k H st
  hid : k.on = true → Hid k F
  bsub : Same k.B H
  blst : ∀ a o, k.B a = some o → ∃ vs, o = .lst vs
  tabs : LamX.Tabs k.T H
  ftbl : ∀ b o, F b = some o → ∀ ps, o ≠ .tbl ps
  len : σ.length = Γ.length
  slot : ∀ (i : Nat) (x : Sl), Γ[i]? = some (some x) → ∃ v, σ[i]? = some (some v) ∧ SlV k F H v x
  apart : ∀ (i j : Nat) (xs ys : List D) (a : Addr), Γ[i]? = some (some (.own xs)) → Γ[j]? = some (some (.own ys)) → σ[i]? = some (some (.ref a)) → σ[j]? = some (some (.ref a)) → i = j

section
variable {k : Kx} {F H F1 H1 F2 H2 : Hp} {σ : L2.St} {Γ : Ev} {st st1 st2 : DS}
theorem Ok.refl (o : Ok k F H σ Γ st) : Step k F H F H st := ⟨fun _ _ h => h, fun _ _ h _ _ => h, fun _ o h => ⟨o, h⟩, fun _ _ _ h => h, o.tabs, o.ftbl, o.sub, o.at_⟩
theorem Ok.cold (o : Ok k F H σ Γ st) {p : Addr} (np : H p = none) : ¬ k.hot p := fun ⟨h, z⟩ => by
  rcases z with z | z
  · rw [z, (o.at_ h).dl] at np; cases np
  · rw [z, (o.at_ h).cl] at np; cases np
theorem Ok.bcold (o : Ok k F H σ Γ st) {p : Addr} {x : HO} (e : k.B p = some x) : ¬ k.hot p := fun ⟨h, z⟩ => by
  rcases z with z | z
  · rw [z, (o.hid h).bdl] at e; cases e
  · rw [z, (o.hid h).bcl] at e; cases e
theorem ltbl {vs : List V} : ∀ ps, HO.lst vs ≠ .tbl ps := fun _ z => by cases z
theorem tabs_upd {T : List (Addr × Str)} {p : Addr} (h : LamX.Tabs T H) (hp : H p = none ∨ ∃ ws, H p = some (.lst ws)) {ob : HO} : LamX.Tabs T (upd H p ob) := fun q hq => by
  obtain ⟨ps, h1, h2, h3⟩ := h q hq
  have ne : ∀ {b o}, H b = some o → (∀ ws, o ≠ .lst ws) → b ≠ p := fun e n z => by
    rw [z] at e
    rcases hp with hp | ⟨ws, hp⟩
    · rw [hp] at e; cases e
    · rw [hp] at e; cases e; exact n ws rfl
  refine ⟨ps, by rw [upd_ne (ne h1 fun _ z => by cases z)]; exact h1, h2, fun pos cv hc => ?_⟩
  obtain ⟨c, e1, e2⟩ := h3 pos cv hc
  exact ⟨c, e1, by rw [upd_ne (ne e2 fun _ z => by unfold LamX.CodeO at z; cases z)]; exact e2⟩
theorem Step.trans (s1 : Step k F H F1 H1 st1) (s2 : Step k F1 H1 F2 H2 st2) : Step k F H F2 H2 st2 where
  ext := s1.ext.trans s2.ext
  stay := fun a o h n1 n3 => s2.stay a o (s1.stay a o h n1 n3) n1 n3
  kept := fun a o h => let ⟨o1, h1⟩ := s1.kept a o h; s2.kept a o1 h1
  nof := fun a o h f => let ⟨o1, h1⟩ := s1.kept a o h; s2.nof a o1 h1 (s1.nof a o h f)
  tabs := s2.tabs
  ftbl := s2.ftbl
  sub := s2.sub
  at_ := s2.at_
theorem Ok.trans (o : Ok k F H σ Γ st) (s1 : Step k F H F1 H1 st1) (s2 : Step k F1 H1 F2 H2 st2) : Step k F H F2 H2 st2 :=
  s1.trans s2
theorem SlV.step {v : V} {x : Sl} (s : Step k F H F1 H1 st1) (h : SlV k F H v x) : SlV k F1 H1 v x := by
  cases x with
  | dat d => exact Rep.mono s.ext h
  | own xs =>
    obtain ⟨a, vs, e, ha, hf, n1, nb, r⟩ := h
    exact ⟨a, vs, e, s.stay _ _ ha n1 ltbl, s.nof _ _ ha hf, n1, nb, r.mono s.ext⟩
theorem Ok.step (o : Ok k F H σ Γ st) (s : Step k F H F1 H1 st1) : Ok k F1 H1 σ Γ st1 where
  sub := s.sub
  at_ := s.at_
  hid := fun h => ⟨s.nof _ _ (o.at_ h).dl (o.hid h).fdl, s.nof _ _ (o.at_ h).cl (o.hid h).fcl, (o.hid h).ne, (o.hid h).bdl, (o.hid h).bcl⟩
  bsub := fun b x e => s.stay b x (o.bsub b x e) (o.bcold e) (fun ps z => by obtain ⟨vs, q⟩ := o.blst b x e; rw [q] at z; cases z)
  blst := o.blst
  tabs := s.tabs
  ftbl := s.ftbl
  len := o.len
  slot := fun i x h => let ⟨v, e, q⟩ := o.slot i x h; ⟨v, e, q.step s⟩
  apart := o.apart
/-- a new object is laid and frozen -/
theorem Ok.new (o : Ok k F H σ Γ st) {p : Addr} {ob : HO} (np : H p = none) (hob : ∀ ps, ob ≠ .tbl ps := by intro _ z; cases z) : Step k F H (upd F p ob) (upd H p ob) st where
  ext := fun b x h => by rw [upd_ne (ne_of_none (o.sub _ _ h) np)]; exact h
  stay := fun a x h _ _ => by rw [upd_ne (ne_of_none h np)]; exact h
  kept := fun a x h => ⟨x, by rw [upd_ne (ne_of_none h np)]; exact h⟩
  nof := fun a x h f => by rw [upd_ne (ne_of_none h np)]; exact f
  tabs := tabs_upd o.tabs (.inl np)
  ftbl := fun b x h => by
    by_cases hb : b = p
    · subst hb; rw [upd_same] at h; cases h; exact hob
    · rw [upd_ne hb] at h; exact o.ftbl _ _ h
  sub := fun b x h => by
    by_cases hb : b = p
    · subst hb; rw [upd_same] at h ⊢; exact h
    · rw [upd_ne hb] at h ⊢; exact o.sub _ _ h
  at_ := fun h => (o.at_ h).upd h (o.cold np)
/-- a new object is laid, not frozen -/
theorem Ok.new' (o : Ok k F H σ Γ st) {p : Addr} {ob : HO} (np : H p = none) : Step k F H F (upd H p ob) st where
  ext := fun _ _ h => h
  stay := fun a x h _ _ => by rw [upd_ne (ne_of_none h np)]; exact h
  kept := fun a x h => ⟨x, by rw [upd_ne (ne_of_none h np)]; exact h⟩
  nof := fun _ _ _ f => f
  tabs := tabs_upd o.tabs (.inl np)
  ftbl := o.ftbl
  sub := fun b x h => by rw [upd_ne (ne_of_none (o.sub _ _ h) np)]; exact o.sub _ _ h
  at_ := fun h => (o.at_ h).upd h (o.cold np)
theorem Ok.fnone (o : Ok k F H σ Γ st) {p : Addr} (np : H p = none) : F p = none := o.sub.free np
end

/-! ### wishes -/
abbrev XE := L2.St → XK
def RepX (k : Kx) (F : Hp) (vs : List (Str × V)) (fs : List (Str × D)) : Prop := vs.map (·.1) = fs.map (·.1) ∧ Reps k F (vs.map (·.2)) (fs.map (·.2))
def Wp (k : Kx) (E : XE) (σ : L2.St) (F H : Hp) {α : Type} (o : Out α) (R : α → Hp → Hp → DS → Prop) : Prop := match o with
  | .ok a st' => ∀ F' H', Step k F H F' H' st' → R a F' H' st'
  | .err C fs st' => ∀ F' H' da vs, Step k F H F' H' st' → H' da = some (.xd vs) → RepX k F' vs fs → E σ (.ref C) (some da) H'
  | .stuck => False
section
variable {k : Kx} {E : XE} {F H F1 H1 : Hp} {σ : L2.St} {Γ : Ev} {st st1 : DS} {α β : Type} {o : Out α} {R R' : α → Hp → Hp → DS → Prop}
theorem Wp.rebase (ok : Ok k F H σ Γ st) (s : Step k F H F1 H1 st1) (h : Wp k E σ F H o R) : Wp k E σ F1 H1 o R := by
  cases o with
  | ok a st' => exact fun F' H' s' => h F' H' (ok.trans s s')
  | err C fs st' => exact fun F' H' da vs s' => h F' H' da vs (ok.trans s s')
  | stuck => exact h
theorem Wp.mono (h : Wp k E σ F H o R) (q : ∀ a F' H' st', Step k F H F' H' st' → R a F' H' st' → R' a F' H' st') : Wp k E σ F H o R' := by
  cases o with
  | ok a st' => exact fun F' H' s' => q _ _ _ _ s' (h F' H' s')
  | err C fs st' => exact h
  | stuck => exact h
theorem Wp.bind {f : α → DS → Out β} {R : β → Hp → Hp → DS → Prop} (ok : Ok k F H σ Γ st) (h : Wp k E σ F H (o.bind f) R) : Wp k E σ F H o fun a F1 H1 st1 => Wp k E σ F1 H1 (f a st1) R := by
  cases o with
  | ok a st' => exact fun F' H' s' => Wp.rebase ok s' h
  | err C fs st' => exact h
  | stuck => exact h
end

/-! ### readings -/
def qD (k : Kx) (Q : VK) : D → Hp → Hp → DS → Prop := fun d F' H' _ => ∀ v, Rep k F' v d → Q v H'
def tM (k : Kx) (E : XE) (m : EM) : TE := fun σ H Q => ∃ F Γ st, Ok k F H σ Γ st ∧ Wp k E σ F H (m Γ st) (qD k Q)
def tT (k : Kx) (E : XE) (m : Ev → M Bool) : TT := fun σ H Q => ∃ F Γ st, Ok k F H σ Γ st ∧ Wp k E σ F H (m Γ st) fun b _ H' _ => Q b H'
def tA (k : Kx) (E : XE) (m : Ev → M (List D)) : TA := fun σ H Q => ∃ F Γ st, Ok k F H σ Γ st ∧ Wp k E σ F H (m Γ st) fun ds F' H' _ => ∀ vs, Reps k F' vs ds → Q vs H'

theorem PE.weak {X : Cx} {e : Expr} {t t' : TE} (h : PE X e t) (q : ∀ σ H Q, t' σ H Q → t σ H Q) : PE X e t' := ⟨fun pins s σ H Q I w => h.run pins s σ H Q I (q σ H Q w)⟩
theorem PT.weak {X : Cx} {e : Expr} {t t' : TT} (h : PT X e t) (q : ∀ σ H Q, t' σ H Q → t σ H Q) : PT X e t' := ⟨fun pins s σ H Q I w => h.run pins s σ H Q I (q σ H Q w)⟩
theorem PA.weak {X : Cx} {e : List Expr} {t t' : TA} (h : PA X e t) (q : ∀ σ H Q, t' σ H Q → t σ H Q) : PA X e t' := ⟨fun pos pins s σ H Q I w => h.run pos pins s σ H Q I (q σ H Q w)⟩
theorem PS.weak {X : Cx} {e : Stmt} {t t' : TS} (h : PS X e t) (q : ∀ σ H Q, t' σ H Q → t σ H Q) : PS X e t' := ⟨fun pins s σ H Q I w => h.run pins s σ H Q I (q _ _ _ w)⟩
theorem PSs.weak {X : Cx} {e : List Stmt} {t t' : TS} (h : PSs X e t) (q : ∀ σ H Q, t' σ H Q → t σ H Q) : PSs X e t' := ⟨fun pins s σ H Q I w => h.run pins s σ H Q I (q _ _ _ w)⟩

section
variable {k : Kx} {E : XE} {F H : Hp} {σ : L2.St} {Γ : Ev} {st : DS}
/-- an expression first, then the rest -/
theorem tM.then_ {m : EM} {α : Type} {f : D → M α} {R : α → Hp → Hp → DS → Prop} {Q : VK} (ok : Ok k F H σ Γ st) (h : Wp k E σ F H ((m Γ >>= f) st) R)
    (q : ∀ v d F1 H1 st1, Step k F H F1 H1 st1 → Ok k F1 H1 σ Γ st1 → Rep k F1 v d → Wp k E σ F1 H1 (f d st1) R → Q v H1) : tM k E m σ H Q :=
  ⟨F, Γ, st, ok, (Wp.bind (f := f) ok h).mono fun d F1 H1 st1 s w v r => q v d F1 H1 st1 s (ok.step s) r w⟩
theorem tT.then_ {m : Ev → M Bool} {α : Type} {f : Bool → M α} {R : α → Hp → Hp → DS → Prop} {Q : Bool → Hp → Prop} (ok : Ok k F H σ Γ st) (h : Wp k E σ F H ((m Γ >>= f) st) R)
    (q : ∀ b F1 H1 st1, Step k F H F1 H1 st1 → Ok k F1 H1 σ Γ st1 → Wp k E σ F1 H1 (f b st1) R → Q b H1) : tT k E m σ H Q :=
  ⟨F, Γ, st, ok, (Wp.bind (f := f) ok h).mono fun d F1 H1 st1 s w => q d F1 H1 st1 s (ok.step s) w⟩
theorem tA.then_ {m : Ev → M (List D)} {α : Type} {f : List D → M α} {R : α → Hp → Hp → DS → Prop} {Q : List V → Hp → Prop} (ok : Ok k F H σ Γ st) (h : Wp k E σ F H ((m Γ >>= f) st) R)
    (q : ∀ vs ds F1 H1 st1, Step k F H F1 H1 st1 → Ok k F1 H1 σ Γ st1 → Reps k F1 vs ds → Wp k E σ F1 H1 (f ds st1) R → Q vs H1) : tA k E m σ H Q :=
  ⟨F, Γ, st, ok, (Wp.bind (f := f) ok h).mono fun d F1 H1 st1 s w v r => q v d F1 H1 st1 s (ok.step s) r w⟩
/-- an answer at hand -/
theorem Wp.here {α : Type} {a : α} {R : α → Hp → Hp → DS → Prop} (ok : Ok k F H σ Γ st) (h : Wp k E σ F H (.ok a st) R) : R a F H st := h F H ok.refl
end
end FL

/-! FL2: expressions -/
namespace FL
open PySem PySem.Spec PyProof.Rows L2

/-! ### trees as PyData -/
mutual
def D.py : D → PyData
  | .non => .none
  | .bl b => .bool b
  | .int i => .int i
  | .str x => .str x
  | .tup xs => .tuple (D.pys xs)
  | .lst xs => .list (D.pys xs)
  | .bor xs => .list (D.pys xs)
  | .kl xs => .list (D.pys xs)
  | .deal => .none
  | .ins _ _ _ => .none
def D.pys : List D → List PyData
  | [] => []
  | d :: ds => D.py d :: D.pys ds
end
mutual
def D.plain : D → Bool
  | .tup xs => D.plains xs
  | .lst xs => D.plains xs
  | .bor xs => D.plains xs
  | .kl xs => D.plains xs
  | .deal => false
  | .ins _ _ _ => false
  | _ => true
def D.plains : List D → Bool
  | [] => true
  | d :: ds => D.plain d && D.plains ds
end
theorem D.pys_map : ∀ ds : List D, D.pys ds = ds.map D.py
  | [] => by simp [D.pys]
  | d :: ds => by rw [D.pys, D.pys_map ds, List.map_cons]
theorem D.plains_all : ∀ ds : List D, D.plains ds = ds.all D.plain
  | [] => by simp [D.plains]
  | d :: ds => by rw [D.plains, D.plains_all ds, List.all_cons]
section
variable {k : Kx} {F H : Hp}
mutual
theorem Rep.dp (s : Same F H) (sb : Same k.B H) : ∀ {v : V} {d : D}, Rep k F v d → d.plain = true → Dp k.K H v d.py
  | _, _, .non, _ => by rw [D.py]; exact .non
  | _, _, .bl b, _ => by rw [D.py]; exact .bl b
  | _, _, .int i, _ => by rw [D.py]; exact .int i
  | _, _, .str x, _ => by rw [D.py]; exact .str x
  | _, _, .tup h r, p => by rw [D.py]; exact .tup (sqt_mono s h) (Reps.dp s sb r (by rw [D.plain] at p; exact p))
  | _, _, .lst h r, p => by rw [D.py]; exact .lst (SqL.of (s _ _ h)) (Reps.dp s sb r (by rw [D.plain] at p; exact p))
  | _, _, .bor h r, p => by rw [D.py]; exact .lst (SqL.of (sb _ _ h)) (Reps.dp s sb r (by rw [D.plain] at p; exact p))
  | _, _, .kl h r, p => by rw [D.py]; exact .lst (sql_mono s h) (Reps.dp s sb r (by rw [D.plain] at p; exact p))
  | _, _, .deal _, p => by simp [D.plain] at p
  | _, _, .ins _ _ _ _, p => by simp [D.plain] at p
theorem Reps.dp (s : Same F H) (sb : Same k.B H) : ∀ {vs : List V} {ds : List D}, Reps k F vs ds → D.plains ds = true → DpAll k.K H vs (D.pys ds)
  | _, _, .nil, _ => by rw [D.pys]; exact .nil
  | _, _, .cons h t, p => by
    rw [D.plains, Bool.and_eq_true] at p
    rw [D.pys]
    exact .cons (Rep.dp s sb h p.1) (Reps.dp s sb t p.2)
end
end

section
variable {X : Cx} {k : Kx} {E : XE} {a b e : Expr} {ma mb : EM} {pos : Pos} {x : Str} {p : Pos}

/-! ### constants, names -/
def mC (d : D) : EM := fun _ st => .ok d st
theorem e_const {v : V} {d : D} (h : PE X e (tC v)) (r : ∀ F, Rep k F v d) : PE X e (tM k E (mC d)) :=
  PE.weak h fun σ H Q ⟨F, Γ, st, ok, w⟩ => w F H ok.refl v (r F)
theorem e_int {i : Int} {j : Nat} : PE X (.Constant (.int i) j pos) (tM k E (mC (.int i))) := e_const pe_int fun _ => .int i
theorem e_bl {i : Bool} {j : Nat} : PE X (.Constant (.bool i) j pos) (tM k E (mC (.bl i))) := e_const pe_bl fun _ => .bl i
theorem e_non {j : Nat} : PE X (.Constant .none j pos) (tM k E (mC .non)) := e_const pe_non fun _ => .non
theorem e_str {z : Str} {j : Nat} : PE X (.Constant (.str z) j pos) (tM k E (mC (.str z))) := e_const pe_str fun _ => .str z
def mVar (i : Nat) : EM := fun Γ st => match Γ[i]? with
  | some (some (.dat d)) => .ok d st
  | _ => .stuck
theorem e_var (i : Nat) {x : Str} (hN : X.N[i]? = some x := by rfl) (hv : Vis X.env.scope x := by first | exact Or.inl rfl | exact Or.inr (Or.inl rfl) | exact Or.inr (Or.inr rfl)) (hd : (x == ("__debug__" : Str)) = false := by decide)
    (hcd : (x == ("__classdict__" : Str)) = false := by decide) : PE X (.Name x pos) (tM k E (mVar i)) :=
  PE.weak (pv i hN hv hd hcd) fun σ H Q ⟨F, Γ, st, ok, w⟩ => by
    unfold mVar at w
    split at w
    · rename_i d e
      obtain ⟨v, e2, r⟩ := ok.slot i _ e
      exact ⟨v, e2, w F H ok.refl v r⟩
    · exact w.elim

/-! ### two values -/
abbrev M2 := D → D → M D
def OpS (X : Cx) (k : Kx) (f : Value → Value → Sem Value) (g : M2) : Prop :=
  ∃ r : R2, OpR X f r ∧ ∀ {E : XE} {σ : L2.St} {F H : Hp} {Γ : Ev} {st : DS} {x y : V} {d e : D} {Q : VK}, Ok k F H σ Γ st → Rep k F x d → Rep k F y e → Wp k E σ F H (g d e st) (qD k Q) → r x y H Q
def mOp (g : M2) (ma mb : EM) : EM := fun Γ => do
  let d ← ma Γ
  let e ← mb Γ
  g d e
theorem tM.two {g : M2} {r : R2} {σ : L2.St} {H : Hp} {Q : VK}
    (hr : ∀ {E : XE} {σ : L2.St} {F H : Hp} {Γ : Ev} {st : DS} {x y : V} {d e : D} {Q : VK}, Ok k F H σ Γ st → Rep k F x d → Rep k F y e → Wp k E σ F H (g d e st) (qD k Q) → r x y H Q)
    (h : tM k E (mOp g ma mb) σ H Q) : tOp r (tM k E ma) (tM k E mb) σ H Q := by
  obtain ⟨F, Γ, st, ok, w⟩ := h
  refine tM.then_ ok w fun v d F1 H1 st1 s1 ok1 r1 w1 => ?_
  exact tM.then_ ok1 w1 fun u e F2 H2 st2 s2 ok2 r2 w2 => hr ok2 (r1.mono s2.ext) r2 w2
theorem e_op {op : Operator} {g : M2} (ho : OpS X k (binaryOp op) g) (ha : PE X a (tM k E ma)) (hb : PE X b (tM k E mb)) : PE X (.BinOp a op b pos) (tM k E (mOp g ma mb)) := by
  obtain ⟨r, h1, h2⟩ := ho
  exact PE.weak (pe_op h1 ha hb) fun σ H Q h => tM.two h2 h
theorem e_cmp {op : CmpOp} {g : M2} (ho : OpS X k (compareOp op) g) (ha : PE X a (tM k E ma)) (hb : PE X b (tM k E mb)) (hm : behindInMarks op b = false := by first | exact nomark _ | rfl) : PE X (.Compare a [op] [b] pos) (tM k E (mOp g ma mb)) := by
  obtain ⟨r, h1, h2⟩ := ho
  exact PE.weak (pe_cmpR h1 ha hb hm) fun σ H Q h => tM.two h2 h
/-- ints -/
def g2I (c : Int → Int → Bool) (f : Int → Int → D) : M2 := fun d e st => match d, e with
  | .int i, .int j => if c i j then .ok (f i j) st else .stuck
  | _, _ => .stuck
theorem g2I_use {c : Int → Int → Bool} {f : Int → Int → D} {σ : L2.St} {F H : Hp} {st : DS} {x y : V} {d e : D} {Q : VK} {fV : Int → Int → V} (o : Step k F H F H st) (hf : ∀ i j, Rep k F (fV i j) (f i j)) (rx : Rep k F x d) (ry : Rep k F y e)
    (w : Wp k E σ F H (g2I c f d e st) (qD k Q)) : ∃ i j, x = .int i ∧ y = .int j ∧ c i j = true ∧ Q (fV i j) H := by
  unfold g2I at w
  split at w
  · rename_i i j
    cases rx
    cases ry
    split at w
    · rename_i hc
      exact ⟨i, j, rfl, rfl, hc, w F H o _ (hf i j)⟩
    · exact w.elim
  · exact w.elim
theorem ops_I {f : Value → Value → Sem Value} {C : Int → Int → Prop} {c : Int → Int → Bool} {g : Int → Int → V} {gD : Int → Int → D} (ho : OpR X f (rI C g)) (hc : ∀ i j, c i j = true → C i j) (hg : ∀ F i j, Rep k F (g i j) (gD i j)) : OpS X k f (g2I c gD) :=
  ⟨_, ho, fun {E σ F H Γ st x y d e Q} ok rx ry w => by
    obtain ⟨i, j, e1, e2, e3, q⟩ := g2I_use ok.refl (hg F) rx ry w
    exact ⟨i, j, e1, e2, hc i j e3, q⟩⟩
theorem ops_I0 {f : Value → Value → Sem Value} {g : Int → Int → V} {gD : Int → Int → D} (ho : OpR X f (rI0 g)) (hg : ∀ F i j, Rep k F (g i j) (gD i j)) : OpS X k f (g2I (fun _ _ => true) gD) :=
  ⟨_, ho, fun {E σ F H Γ st x y d e Q} ok rx ry w => by
    obtain ⟨i, j, e1, e2, e3, q⟩ := g2I_use ok.refl (hg F) rx ry w
    exact ⟨i, j, e1, e2, q⟩⟩
def gSub : M2 := g2I (fun _ _ => true) fun i j => .int (i - j)
def gMod : M2 := g2I (fun _ j => decide (0 < j)) fun i j => .int (i % j)
def gDiv : M2 := g2I (fun _ j => decide (0 < j ∧ j < 1073741824)) fun i j => .int (i / j)
def gPow : M2 := g2I (fun i j => decide (0 ≤ j ∧ j ≤ 1000000 ∧ i.natAbs < 2 ^ 64)) fun i j => .int (i ^ j.toNat)
def gLt : M2 := g2I (fun _ _ => true) fun i j => .bl (decide (i < j))
def gLe : M2 := g2I (fun _ _ => true) fun i j => .bl (decide (i ≤ j))
def gGt : M2 := g2I (fun _ _ => true) fun i j => .bl (decide (j < i))
def gGe : M2 := g2I (fun _ _ => true) fun i j => .bl (decide (j ≤ i))
theorem s_sub : OpS X k (binaryOp .Sub) gSub := ops_I0 op_sub fun _ i j => .int (i - j)
theorem s_mod : OpS X k (binaryOp .Mod) gMod := ops_I op_mod (fun _ _ h => of_decide_eq_true h) fun _ i j => .int (i % j)
theorem s_div : OpS X k (binaryOp .FloorDiv) gDiv := ops_I op_fdiv (fun i j h => (of_decide_eq_true h : 0 < j ∧ j < 1073741824)) fun _ i j => .int (i / j)
theorem s_pow : OpS X k (binaryOp .Pow) gPow := ops_I op_pow (fun i j h => (of_decide_eq_true h : 0 ≤ j ∧ j ≤ 1000000 ∧ i.natAbs < 2 ^ 64)) fun _ i j => .int (i ^ j.toNat)
theorem s_lt : OpS X k (compareOp .Lt) gLt := ops_I0 op_lt fun _ i j => .bl (decide (i < j))
theorem s_le : OpS X k (compareOp .LtE) gLe := ops_I0 op_le fun _ i j => .bl (decide (i ≤ j))
theorem s_gt : OpS X k (compareOp .Gt) gGt := ops_I0 op_gt fun _ i j => .bl (decide (j < i))
theorem s_ge : OpS X k (compareOp .GtE) gGe := ops_I0 op_ge fun _ i j => .bl (decide (j ≤ i))
/-- + of ints, texts, tuples, lists -/
def gAdd : M2 := fun d e st => match d, e with
  | .int i, .int j => .ok (.int (i + j)) st
  | .str x, .str y => if decide (x.length + y.length ≤ sizeLine) then .ok (.str (x ++ y)) st else .stuck
  | .tup xs, .tup ys => if decide (xs.length + ys.length ≤ sizeLine) then .ok (.tup (xs ++ ys)) st else .stuck
  | .lst xs, .lst ys => if decide (xs.length + ys.length ≤ sizeLine) then .ok (.lst (xs ++ ys)) st else .stuck
  | _, _ => .stuck
theorem sqt_up {K : PySem.W.Frag} {F H : Hp} (s : Same F H) {a : Addr} {xs : List V} (h : SqT K F a xs) : SqT K H a xs := sqt_mono s h
theorem s_add (hk : k.K = X.K := by rfl) : OpS X k (binaryOp .Add) gAdd := by
  refine ⟨_, op_add.or (op_add_str.or (op_catA.or op_cat)), fun {E σ F H Γ st x y d e Q} ok rx ry w => ?_⟩
  unfold gAdd at w
  split at w
  · rename_i i j
    cases rx
    cases ry
    exact .inl ⟨i, j, rfl, rfl, w F H ok.refl _ (.int _)⟩
  · rename_i i j
    cases rx
    cases ry
    split at w
    · rename_i hc
      exact .inr (.inl ⟨i, j, rfl, rfl, of_decide_eq_true hc, w F H ok.refl _ (.str _)⟩)
    · exact w.elim
  · rename_i xs ys
    split at w
    · rename_i hc
      have hc := of_decide_eq_true hc
      cases rx with
      | tup hx r1 =>
        cases ry with
        | tup hy r2 =>
          rw [← r1.length, ← r2.length] at hc
          rw [hk] at hx hy
          refine .inr (.inr (.inl ⟨_, _, _, _, rfl, rfl, sqt_mono ok.sub hx, sqt_mono ok.sub hy, hc, fun z => ?_, fun z1 z2 => ?_, fun z1 z2 p np => ?_⟩))
          · subst z
            cases r1
            exact w F H ok.refl _ (.tup (by rw [hk]; exact hy) r2)
          · subst z2
            cases r2
            exact w F H ok.refl _ (by rw [List.append_nil]; exact .tup (by rw [hk]; exact hx) r1)
          · exact w _ _ (ok.new np) _ (.tup (SqT.of upd_same) ((r1.append r2).mono (ok.new np).ext))
    · exact w.elim
  · rename_i xs ys
    split at w
    · rename_i hc
      have hc := of_decide_eq_true hc
      cases rx with
      | lst hx r1 =>
        cases ry with
        | lst hy r2 =>
          rw [← r1.length, ← r2.length] at hc
          refine .inr (.inr (.inr ⟨_, _, _, _, rfl, rfl, ok.sub _ _ hx, ok.sub _ _ hy, hc, fun p np => ?_⟩))
          exact w _ _ (ok.new np) _ (.lst upd_same ((r1.append r2).mono (ok.new np).ext))
    · exact w.elim
  · exact w.elim
/-- * of ints (one below 2 ^ 64), a list times an int -/
def gMul : M2 := fun d e st => match d, e with
  | .int i, .int j => if decide ((-(2 ^ 64) < i ∧ i < 2 ^ 64) ∨ (-(2 ^ 64) < j ∧ j < 2 ^ 64)) then .ok (.int (i * j)) st else .stuck
  | .lst xs, .int n => if decide (-(2 ^ 63) ≤ n ∧ n < 2 ^ 63 ∧ xs.length * n.toNat ≤ sizeLine) then .ok (.lst (List.replicate n.toNat xs).flatten) st else .stuck
  | _, _ => .stuck
theorem Reps.rep {F : Hp} {vs : List V} {ds : List D} (r : Reps k F vs ds) : ∀ n : Nat, Reps k F (List.replicate n vs).flatten (List.replicate n ds).flatten
  | 0 => by simpa using Reps.nil
  | n + 1 => by
    rw [List.replicate_succ, List.replicate_succ, List.flatten_cons, List.flatten_cons]
    exact r.append (Reps.rep r n)
theorem s_mul : OpS X k (binaryOp .Mult) gMul := by
  refine ⟨_, op_mul.or op_rep, fun {E σ F H Γ st x y d e Q} ok rx ry w => ?_⟩
  unfold gMul at w
  split at w
  · rename_i i j
    cases rx
    cases ry
    split at w
    · rename_i hc
      exact .inl ⟨i, j, rfl, rfl, (of_decide_eq_true hc : (-(2 ^ 64) < i ∧ i < 2 ^ 64) ∨ (-(2 ^ 64) < j ∧ j < 2 ^ 64)), w F H ok.refl _ (.int _)⟩
    · exact w.elim
  · rename_i xs n
    split at w
    · rename_i hc
      obtain ⟨h1, h2, h3⟩ := of_decide_eq_true hc
      cases ry
      cases rx with
      | lst hx r1 =>
        rw [← r1.length] at h3
        refine .inr ⟨_, _, _, rfl, rfl, ok.sub _ _ hx, h1, h2, h3, fun p np => ?_⟩
        exact w _ _ (ok.new np) _ (.lst upd_same ((r1.rep _).mono (ok.new np).ext))
    · exact w.elim
  · exact w.elim
/-- == and != of data -/
def twoStr : D → D → Bool
  | .str _, .str _ => true
  | _, _ => false
def eqOk (d e : D) : Bool := twoStr d e || (d.plain && e.plain && SeqAt.shaped d.py && SeqAt.shaped e.py)
def eqD (d e : D) : Bool := PyData.eqv d.py e.py
def gEq : M2 := fun d e st => if eqOk d e then .ok (.bl (eqD d e)) st else .stuck
def gNe : M2 := fun d e st => if eqOk d e then .ok (.bl (!eqD d e)) st else .stuck
theorem eqOk_split {d e : D} (h : eqOk d e = true) : (∃ x y, d = .str x ∧ e = .str y) ∨ d.plain = true ∧ e.plain = true ∧ SeqAt.shaped d.py = true ∧ SeqAt.shaped e.py = true := by
  unfold eqOk at h
  simp only [Bool.or_eq_true, Bool.and_eq_true] at h
  rcases h with h | h
  · unfold twoStr at h
    split at h
    · exact .inl ⟨_, _, rfl, rfl⟩
    · cases h
  · exact .inr ⟨h.1.1.1, h.1.1.2, h.1.2, h.2⟩
theorem eqD_str {x y : Str} : eqD (.str x) (.str y) = decide (V.str x = V.str y) := by
  rw [dec_str]
  show PyData.eqv (.str x) (.str y) = _
  rw [PyData.eqv]
theorem s_eq (hu : X.A.units + 64 < cLine) (hk : k.K = X.K := by rfl) : OpS X k (compareOp .Eq) gEq :=
  ⟨_, op_eq.or (op_eqD hu), fun {E σ F H Γ st x y d e Q} ok rx ry w => by
    unfold gEq at w
    split at w
    · rename_i hc
      rcases eqOk_split hc with ⟨a, b, rfl, rfl⟩ | ⟨p1, p2, p3, p4⟩
      · cases rx
        cases ry
        rw [eqD_str] at w
        exact .inl ⟨rfl, w F H ok.refl _ (.bl _)⟩
      · exact .inr ⟨_, _, hk ▸ rx.dp ok.sub ok.bsub p1, hk ▸ ry.dp ok.sub ok.bsub p2, p3, p4, w F H ok.refl _ (.bl _)⟩
    · exact w.elim⟩
theorem s_ne (hu : X.A.units + 64 < cLine) (hk : k.K = X.K := by rfl) : OpS X k (compareOp .NotEq) gNe :=
  ⟨_, op_ne.or (op_neD hu), fun {E σ F H Γ st x y d e Q} ok rx ry w => by
    unfold gNe at w
    split at w
    · rename_i hc
      rcases eqOk_split hc with ⟨a, b, rfl, rfl⟩ | ⟨p1, p2, p3, p4⟩
      · cases rx
        cases ry
        rw [eqD_str] at w
        exact .inl ⟨rfl, w F H ok.refl _ (.bl _)⟩
      · exact .inr ⟨_, _, hk ▸ rx.dp ok.sub ok.bsub p1, hk ▸ ry.dp ok.sub ok.bsub p2, p3, p4, w F H ok.refl _ (.bl _)⟩
    · exact w.elim⟩

/-! ### one value -/
def mUn (g : D → M D) (ma : EM) : EM := fun Γ => do
  let d ← ma Γ
  g d
def gNeg : D → M D := fun d st => match d with
  | .int i => .ok (.int (-i)) st
  | _ => .stuck
theorem e_neg (ha : PE X a (tM k E ma)) : PE X (.UnaryOp .USub a pos) (tM k E (mUn gNeg ma)) :=
  PE.weak (pe_un un_neg ha) fun σ H Q ⟨F, Γ, st, ok, w⟩ => tM.then_ ok w fun v d F1 H1 st1 s1 ok1 r1 w1 => by
    unfold gNeg at w1
    split at w1
    · rename_i i
      cases r1
      exact ⟨i, rfl, w1 F1 H1 ok1.refl _ (.int _)⟩
    · exact w1.elim

/-! ### tests -/
def gB : D → M Bool := fun d st => match d with
  | .bl b => .ok b st
  | _ => .stuck
def mB (ma : EM) : Ev → M Bool := fun Γ => do
  let d ← ma Γ
  gB d
theorem gB_use {σ : L2.St} {F H : Hp} {Γ : Ev} {st : DS} {v : V} {d : D} {R : Bool → Hp → Hp → DS → Prop} (ok : Ok k F H σ Γ st) (r : Rep k F v d) (w : Wp k E σ F H (gB d st) R) : ∃ c, v = .bl c ∧ R c F H st := by
  unfold gB at w
  split at w
  · rename_i c
    cases r
    exact ⟨c, rfl, w F H ok.refl⟩
  · exact w.elim
theorem t_val (ha : PE X a (tM k E ma)) (he : ∀ whole, isTrue a X.env whole = (do let v ← whole; standAt a.pos; holding [v] (truthy v)) := by intro _; rfl) : PT X a (tT k E (mB ma)) :=
  PT.weak (pt_val ha he) fun σ H Q ⟨F, Γ, st, ok, w⟩ => tM.then_ ok w fun v d F1 H1 st1 s1 ok1 r1 w1 => gB_use ok1 r1 w1
theorem t_cmp {op : CmpOp} {g : M2} (ho : OpS X k (compareOp op) g) (ha : PE X a (tM k E ma)) (hb : PE X b (tM k E mb)) (hm : behindInMarks op b = false := by first | exact nomark _ | rfl) : PT X (.Compare a [op] [b] pos) (tT k E (mB (mOp g ma mb))) := by
  obtain ⟨r, h1, h2⟩ := ho
  refine PT.weak (pt_cmpR h1 ha hb hm) fun σ H Q ⟨F, Γ, st, ok, w⟩ => ?_
  refine tM.two (fun {E σ F H Γ st x y d e Q} => h2) ⟨F, Γ, st, ok, (Wp.bind (f := gB) ok w).mono fun d F1 H1 st1 s w1 v r => gB_use (ok.step s) r w1⟩
variable {tb : Ev → M Bool} {ta : Ev → M Bool} {rest : List Expr}
def mAndT (ta tb : Ev → M Bool) : Ev → M Bool := fun Γ => do
  let c ← ta Γ
  if c then tb Γ else pure false
def mOrT (ta tb : Ev → M Bool) : Ev → M Bool := fun Γ => do
  let c ← ta Γ
  if c then pure true else tb Γ
def mNotT (ta : Ev → M Bool) : Ev → M Bool := fun Γ => do
  let c ← ta Γ
  pure (!c)
structure PWm (X : Cx) (k : Kx) (E : XE) (e : Expr) (m : Ev → M Bool) : Prop where
  pw : PW X e (tT k E m)
theorem w_and1 (ha : PT X a (tT k E ta)) : PW X (.BoolOp .And [a] pos) (tT k E ta) := pw_and1 ha
theorem w_or1 (ha : PT X a (tT k E ta)) : PW X (.BoolOp .Or [a] pos) (tT k E ta) := pw_or1 ha
theorem PW.weak {t t' : TT} (h : PW X e t) (q : ∀ σ H Q, t' σ H Q → t σ H Q) : PW X e t' := ⟨fun wh pins s σ H Q I w => h.run wh pins s σ H Q I (q σ H Q w)⟩
theorem w_and (ha : PT X a (tT k E ta)) (hb : PW X (.BoolOp .And (b :: rest) pos) (tT k E tb)) : PW X (.BoolOp .And (a :: b :: rest) pos) (tT k E (mAndT ta tb)) :=
  PW.weak (pw_and ha hb) fun σ H Q ⟨F, Γ, st, ok, w⟩ => tT.then_ ok w fun c F1 H1 st1 s1 ok1 w1 => by
    cases c with
    | true => exact iteT ⟨F1, Γ, st1, ok1, w1⟩
    | false => exact iteF (w1 F1 H1 ok1.refl)
theorem w_or (ha : PT X a (tT k E ta)) (hb : PW X (.BoolOp .Or (b :: rest) pos) (tT k E tb)) : PW X (.BoolOp .Or (a :: b :: rest) pos) (tT k E (mOrT ta tb)) :=
  PW.weak (pw_or ha hb) fun σ H Q ⟨F, Γ, st, ok, w⟩ => tT.then_ ok w fun c F1 H1 st1 s1 ok1 w1 => by
    cases c with
    | true => exact iteT (w1 F1 H1 ok1.refl)
    | false => exact iteF ⟨F1, Γ, st1, ok1, w1⟩
theorem t_not (ha : PT X a (tT k E ta)) : PT X (.UnaryOp .Not a pos) (tT k E (mNotT ta)) :=
  PT.weak (pt_not ha) fun σ H Q ⟨F, Γ, st, ok, w⟩ => tT.then_ ok w fun c F1 H1 st1 s1 ok1 w1 => w1 F1 H1 ok1.refl
/-- and, or, not as values of bools -/
def mAnd (ma mb : EM) : EM := fun Γ => do
  let d ← ma Γ
  let c ← gB d
  if c then mb Γ else pure (.bl false)
def mOr (ma mb : EM) : EM := fun Γ => do
  let d ← ma Γ
  let c ← gB d
  if c then pure (.bl true) else mb Γ
def gNot : D → M D := fun d st => match d with
  | .bl b => .ok (.bl (!b)) st
  | _ => .stuck
theorem e_and (ha : PE X a (tM k E ma)) (hb : PE X (.BoolOp .And (b :: rest) pos) (tM k E mb)) : PE X (.BoolOp .And (a :: b :: rest) pos) (tM k E (mAnd ma mb)) :=
  PE.weak (pe_and ha hb) fun σ H Q ⟨F, Γ, st, ok, w⟩ => tM.then_ ok w fun v d F1 H1 st1 s1 ok1 r1 w1 => by
    obtain ⟨c, e1, w2⟩ := gB_use ok1 r1 (Wp.bind (f := fun (c : Bool) => (if c = true then mb Γ else pure (D.bl false) : M D)) ok1 w1)
    refine ⟨c, e1, ?_⟩
    cases c with
    | true => exact iteT ⟨F1, Γ, st1, ok1, w2⟩
    | false => exact iteF (w2 F1 H1 ok1.refl _ (.bl false))
theorem e_or (ha : PE X a (tM k E ma)) (hb : PE X (.BoolOp .Or (b :: rest) pos) (tM k E mb)) : PE X (.BoolOp .Or (a :: b :: rest) pos) (tM k E (mOr ma mb)) :=
  PE.weak (pe_or ha hb) fun σ H Q ⟨F, Γ, st, ok, w⟩ => tM.then_ ok w fun v d F1 H1 st1 s1 ok1 r1 w1 => by
    obtain ⟨c, e1, w2⟩ := gB_use ok1 r1 (Wp.bind (f := fun (c : Bool) => (if c = true then pure (D.bl true) else mb Γ : M D)) ok1 w1)
    refine ⟨c, e1, ?_⟩
    cases c with
    | true => exact iteT (w2 F1 H1 ok1.refl _ (.bl true))
    | false => exact iteF ⟨F1, Γ, st1, ok1, w2⟩
theorem e_one {op : BoolOp} (ha : PE X a (tM k E ma)) : PE X (.BoolOp op [a] pos) (tM k E ma) := pe_one ha
theorem e_not (ha : PE X a (tM k E ma)) : PE X (.UnaryOp .Not a pos) (tM k E (mUn gNot ma)) :=
  PE.weak (pe_not ha) fun σ H Q ⟨F, Γ, st, ok, w⟩ => tM.then_ ok w fun v d F1 H1 st1 s1 ok1 r1 w1 => by
    unfold gNot at w1
    split at w1
    · rename_i i
      cases r1
      exact ⟨i, rfl, w1 F1 H1 ok1.refl _ (.bl _)⟩
    · exact w1.elim
def mIf (t : Ev → M Bool) (ma mb : EM) : EM := fun Γ => do
  let c ← t Γ
  if c then ma Γ else mb Γ
theorem e_if {c : Expr} {t : Ev → M Bool} (hc : PT X c (tT k E t)) (ha : PE X a (tM k E ma)) (hb : PE X b (tM k E mb)) : PE X (.IfExp c a b pos) (tM k E (mIf t ma mb)) :=
  PE.weak (pe_ifExp hc ha hb) fun σ H Q ⟨F, Γ, st, ok, w⟩ => tT.then_ ok w fun c F1 H1 st1 s1 ok1 w1 => by
    cases c with
    | true => exact iteT ⟨F1, Γ, st1, ok1, w1⟩
    | false => exact iteF ⟨F1, Γ, st1, ok1, w1⟩

/-! ### argument lists, displays -/
def mNil : Ev → M (List D) := fun _ => pure []
def mCons (ma : EM) (mr : Ev → M (List D)) : Ev → M (List D) := fun Γ => do
  let d ← ma Γ
  let ds ← mr Γ
  pure (d :: ds)
variable {es : List Expr} {mr : Ev → M (List D)}
theorem a_nil : PA X [] (tA k E mNil) := PA.weak pa_nil fun σ H Q ⟨F, Γ, st, ok, w⟩ => w F H ok.refl _ .nil
theorem a_cons (ha : PE X a (tM k E ma)) (hr : PA X es (tA k E mr)) (hs : starEach (a :: es) X.env = (false, eval a X.env) :: starEach es X.env := by rfl) : PA X (a :: es) (tA k E (mCons ma mr)) :=
  PA.weak (pa_cons ha hr hs) fun σ H Q ⟨F, Γ, st, ok, w⟩ => tM.then_ ok w fun v d F1 H1 st1 s1 ok1 r1 w1 => by
    exact tA.then_ ok1 w1 fun vs ds F2 H2 st2 s2 ok2 r2 w2 => w2 F2 H2 ok2.refl _ (.cons (r1.mono s2.ext) r2)
def mTup (mr : Ev → M (List D)) : EM := fun Γ => do
  let ds ← mr Γ
  if decide (ds.length ≤ sizeLine) then pure (.tup ds) else halt
def mLst (mr : Ev → M (List D)) : EM := fun Γ => do
  let ds ← mr Γ
  if decide (ds.length ≤ sizeLine) then pure (.lst ds) else halt
theorem e_tup {x1 : Nat} (h : PA X es (tA k E mr)) : PE X (.Tuple es x1 pos) (tM k E (mTup mr)) :=
  PE.weak (pe_tup h) fun σ H Q ⟨F, Γ, st, ok, w⟩ => tA.then_ ok w fun vs ds F1 H1 st1 s1 ok1 r1 w1 => by
    split at w1
    · rename_i hc
      refine ⟨by rw [r1.length]; exact of_decide_eq_true hc, fun p np => ?_⟩
      have s := ok1.new (ob := .tup vs) np
      exact w1 _ _ s _ (.tup (SqT.of upd_same) (r1.mono s.ext))
    · exact w1.elim
theorem e_lst (h : PA X es (tA k E mr)) : PE X (.List es pos) (tM k E (mLst mr)) :=
  PE.weak (pe_lst h) fun σ H Q ⟨F, Γ, st, ok, w⟩ => tA.then_ ok w fun vs ds F1 H1 st1 s1 ok1 r1 w1 => by
    split at w1
    · rename_i hc
      refine ⟨by rw [r1.length]; exact of_decide_eq_true hc, fun p np => ?_⟩
      have s := ok1.new (ob := .lst vs) np
      exact w1 _ _ s _ (.lst upd_same (r1.mono s.ext))
    · exact w1.elim

/-! ### calls of built-ins -/
def CallS (X : Cx) (k : Kx) (f : Value) (g : List D → M D) : Prop :=
  ∃ r : List V → Hp → VK → Prop, CallR X f r ∧ ∀ {E : XE} {σ : L2.St} {F H : Hp} {Γ : Ev} {st : DS} {vs : List V} {ds : List D} {Q : VK}, Ok k F H σ Γ st → Reps k F vs ds → Wp k E σ F H (g ds st) (qD k Q) → r vs H Q
def mCall (g : List D → M D) (mr : Ev → M (List D)) : EM := fun Γ => do
  let ds ← mr Γ
  g ds
theorem e_blt {id : String} {g : List D → M D} (hc : CallS X k (.builtin id) g) (hg : Gl X x) (hm : X.mg x = none) (hv : bootBuiltins x = some (.builtin id)) (ha : PA X (e :: es) (tA k E mr)) (hn : x ≠ "__name__" := by decide) (hdb : (x == ("__debug__" : Str)) = false := by decide)
    (he : starEach (e :: es) X.env = (false, eval e X.env) :: starEach es X.env := by rfl) (hpl : (backTo pos (starEach es X.env)).any (·.1) = false := by rfl) : PE X (.Call (.Name x p) (e :: es) [] pos) (tM k E (mCall g mr)) := by
  obtain ⟨r, h1, h2⟩ := hc
  exact PE.weak (pe_callB h1 hg hm hv ha hn hdb he hpl) fun σ H Q ⟨F, Γ, st, ok, w⟩ => tA.then_ ok w fun vs ds F1 H1 st1 s1 ok1 r1 w1 => h2 ok1 r1 w1
theorem e_ty {T : String} {g : List D → M D} (hc : CallS X k (.type T) g) (hg : Gl X x) (hm : X.mg x = none) (hv : bootBuiltins x = some (.type T)) (ha : PA X (e :: es) (tA k E mr)) (hn : x ≠ "__name__" := by decide) (hdb : (x == ("__debug__" : Str)) = false := by decide)
    (he : starEach (e :: es) X.env = (false, eval e X.env) :: starEach es X.env := by rfl) (hpl : (backTo pos (starEach es X.env)).any (·.1) = false := by rfl) : PE X (.Call (.Name x p) (e :: es) [] pos) (tM k E (mCall g mr)) := by
  obtain ⟨r, h1, h2⟩ := hc
  exact PE.weak (pe_callTy h1 hg hm hv ha hn hdb he hpl) fun σ H Q ⟨F, Γ, st, ok, w⟩ => tA.then_ ok w fun vs ds F1 H1 st1 s1 ok1 r1 w1 => h2 ok1 r1 w1
end
end FL

/-! FL3: statements, targets, loops, comprehensions, defs -/
namespace FL
open PySem PySem.Spec PyProof.Rows L2

/-! ### slots -/
/-- slots js may have been given data -/
structure Upd (k : Kx) (F : Hp) (js : List Nat) (σ : L2.St) (Γ : Ev) (σ' : L2.St) (Γ' : Ev) : Prop where
  len : σ'.length = σ.length
  lenE : Γ'.length = Γ.length
  cases : ∀ j : Nat, (∃ v d, σ'[j]? = some (some v) ∧ Γ'[j]? = some (some (.dat d)) ∧ Rep k F v d ∧ j ∈ js) ∨ (σ'[j]? = σ[j]? ∧ Γ'[j]? = Γ[j]?)
section
variable {k : Kx} {F H : Hp} {σ σ' σ2 : L2.St} {Γ Γ' Γ2 : Ev} {st : DS} {js js2 : List Nat}
theorem Upd.refl : Upd k F js σ Γ σ Γ := ⟨rfl, rfl, fun _ => .inr ⟨rfl, rfl⟩⟩
theorem Upd.set {i : Nat} {v : V} {d : D} (hl : σ.length = Γ.length) (r : Rep k F v d) : Upd k F [i] σ Γ (σ.set i (some v)) (Γ.set i (some (.dat d))) := by
  refine ⟨by simp, by simp, fun j => ?_⟩
  by_cases hj : i = j
  · subst hj
    by_cases hi : i < σ.length
    · exact .inl ⟨v, d, by rw [List.getElem?_set_self hi], by rw [List.getElem?_set_self (hl ▸ hi)], r, by simp⟩
    · refine .inr ⟨?_, ?_⟩
      · rw [List.getElem?_eq_none (by simp; omega), List.getElem?_eq_none (by omega)]
      · rw [List.getElem?_eq_none (by simp; omega), List.getElem?_eq_none (by omega)]
  · exact .inr ⟨List.getElem?_set_ne hj, List.getElem?_set_ne hj⟩
theorem Upd.trans (a : Upd k F js σ Γ σ' Γ') (b : Upd k F js2 σ' Γ' σ2 Γ2) : Upd k F (js ++ js2) σ Γ σ2 Γ2 := by
  refine ⟨b.len.trans a.len, b.lenE.trans a.lenE, fun j => ?_⟩
  rcases b.cases j with ⟨v, d, h1, h2, h3, h4⟩ | ⟨h1, h2⟩
  · exact .inl ⟨v, d, h1, h2, h3, List.mem_append_right _ h4⟩
  · rcases a.cases j with ⟨v, d, q1, q2, q3, q4⟩ | ⟨q1, q2⟩
    · exact .inl ⟨v, d, h1.trans q1, h2.trans q2, q3, List.mem_append_left _ q4⟩
    · exact .inr ⟨h1.trans q1, h2.trans q2⟩
theorem Ok.upd (o : Ok k F H σ Γ st) (u : Upd k F js σ Γ σ' Γ') : Ok k F H σ' Γ' st where
  sub := o.sub
  at_ := o.at_
  hid := o.hid
  bsub := o.bsub
  blst := o.blst
  tabs := o.tabs
  ftbl := o.ftbl
  len := by rw [u.len, u.lenE]; exact o.len
  slot := fun i x e => by
    rcases u.cases i with ⟨v, d, h1, h2, h3, _⟩ | ⟨h1, h2⟩
    · rw [h2] at e
      cases e
      exact ⟨v, h1, h3⟩
    · rw [h2] at e
      rw [h1]
      exact o.slot i x e
  apart := fun i j xs ys a e1 e2 e3 e4 => by
    rcases u.cases i with ⟨v, d, h1, h2, h3, _⟩ | ⟨h1, h2⟩
    · rw [h2] at e1; cases e1
    · rcases u.cases j with ⟨v, d, q1, q2, q3, _⟩ | ⟨q1, q2⟩
      · rw [q2] at e2; cases e2
      · exact o.apart i j xs ys a (h2 ▸ e1) (q2 ▸ e2) (h1 ▸ e3) (q1 ▸ e4)
end

/-! ### a frame's states -/
inductive Fl where
  | nx (Γ : Ev)
  | rt (d : D)
  | bk (Γ : Ev)
  | ct (Γ : Ev)
  | xc (C : Addr) (fs : List (Str × D)) (Γ : Ev)
abbrev SM := Ev → M Fl
/-- G, H0: at the def's entry; P: what is to stay frozen -/
structure OkS (k : Kx) (G H0 P F H : Hp) (σ : L2.St) (Γ : Ev) (st : DS) : Prop where
  ok : Ok k F H σ Γ st
  per : Same P F
  ext0 : Same G F
  stay0 : ∀ a o, H0 a = some o → ¬ k.hot a → (∀ ps, o ≠ .tbl ps) → H a = some o
  kept0 : ∀ a o, H0 a = some o → ∃ o', H a = some o'
  nof0 : ∀ a o, H0 a = some o → G a = none → F a = none
  own0 : ∀ (i : Nat) (xs : List D) (a : Addr), Γ[i]? = some (some (.own xs)) → σ[i]? = some (some (.ref a)) → H0 a = none
  base : ∃ st0, Ok k G H0 [] [] st0
section
variable {k : Kx} {G H0 P P' F H F1 H1 : Hp} {σ σ' : L2.St} {Γ Γ' : Ev} {st st1 : DS} {js : List Nat}
theorem OkS.step (o : OkS k G H0 P F H σ Γ st) (s : Step k F H F1 H1 st1) : OkS k G H0 P F1 H1 σ Γ st1 where
  ok := o.ok.step s
  per := o.per.trans s.ext
  ext0 := o.ext0.trans s.ext
  stay0 := fun a ob h n1 n3 => s.stay a ob (o.stay0 a ob h n1 n3) n1 n3
  kept0 := fun a ob h => let ⟨o1, h1⟩ := o.kept0 a ob h; s.kept a o1 h1
  nof0 := fun a ob h g => let ⟨o1, h1⟩ := o.kept0 a ob h; s.nof a o1 h1 (o.nof0 a ob h g)
  own0 := o.own0
  base := o.base
theorem OkS.toStep (o : OkS k G H0 P F H σ Γ st) : Step k G H0 F H st := ⟨o.ext0, o.stay0, o.kept0, o.nof0, o.ok.tabs, o.ok.ftbl, o.ok.sub, o.ok.at_⟩
theorem OkS.upd (o : OkS k G H0 P F H σ Γ st) (u : Upd k F js σ Γ σ' Γ') : OkS k G H0 P F H σ' Γ' st where
  ok := o.ok.upd u
  per := o.per
  ext0 := o.ext0
  stay0 := o.stay0
  kept0 := o.kept0
  nof0 := o.nof0
  own0 := fun i xs a e1 e2 => by
    rcases u.cases i with ⟨v, d, h1, h2, h3, _⟩ | ⟨h1, h2⟩
    · rw [h2] at e1; cases e1
    · exact o.own0 i xs a (h2 ▸ e1) (h1 ▸ e2)
  base := o.base
theorem OkS.per' (o : OkS k G H0 P F H σ Γ st) (h : Same P' F) : OkS k G H0 P' F H σ Γ st := ⟨o.ok, h, o.ext0, o.stay0, o.kept0, o.nof0, o.own0, o.base⟩
end
def WpS (k : Kx) (E : XE) (G H0 P : Hp) (o : Out Fl) (D : Ends) : Prop := match o with
  | .ok (.nx Γ') st' => ∀ σ' F' H', OkS k G H0 P F' H' σ' Γ' st' → D.nx σ' H'
  | .ok (.rt d) st' => ∀ v F' H', Step k G H0 F' H' st' → Rep k F' v d → D.rt v H'
  | .ok (.bk Γ') st' => ∀ σ' F' H', OkS k G H0 P F' H' σ' Γ' st' → D.bk σ' H'
  | .ok (.ct Γ') st' => ∀ σ' F' H', OkS k G H0 P F' H' σ' Γ' st' → D.ct σ' H'
  | .ok (.xc C fs Γ') st' => ∀ σ' F' H' da vs, OkS k G H0 P F' H' σ' Γ' st' → H' da = some (.xd vs) → RepX k F' vs fs → E σ' (.ref C) (some da) H'
  | _ => False
def tS (k : Kx) (E : XE) (m : SM) : TS := fun D σ H => ∃ G H0 P F Γ st, OkS k G H0 P F H σ Γ st ∧ WpS k E G H0 P (m Γ st) D
/-- an expression, then the rest of a statement -/
def sE {α : Type} (m : M α) (Γ : Ev) (f : α → M Fl) : M Fl := fun st => match m st with
  | .ok a st' => f a st'
  | .err C fs st' => .ok (.xc C fs Γ) st'
  | .stuck => .stuck
section
variable {k : Kx} {E : XE} {G H0 P F H : Hp} {σ : L2.St} {Γ : Ev} {st : DS} {D0 : Ends}
theorem Wp.inS {α : Type} {o : Out α} {m : M α} {f : α → M Fl} (ok : OkS k G H0 P F H σ Γ st) (w : WpS k E G H0 P (sE m Γ f st) D0) : Wp k E σ F H (m st) fun a F1 H1 st1 => WpS k E G H0 P (f a st1) D0 := by
  unfold sE at w
  cases e : m st with
  | ok a st' => rw [e] at w; exact fun F' H' s => w
  | err C fs st' => rw [e] at w; exact fun F' H' da vs s => w σ F' H' da vs (ok.step s)
  | stuck => rw [e] at w; exact w
theorem tM.inS {m : EM} {f : D → M Fl} {Q : VK} (ok : OkS k G H0 P F H σ Γ st) (w : WpS k E G H0 P (sE (m Γ) Γ f st) D0)
    (q : ∀ v d F1 H1 st1, Step k F H F1 H1 st1 → OkS k G H0 P F1 H1 σ Γ st1 → Rep k F1 v d → WpS k E G H0 P (f d st1) D0 → Q v H1) : tM k E m σ H Q :=
  ⟨F, Γ, st, ok.ok, (Wp.inS (o := m Γ st) ok w).mono fun d F1 H1 st1 s w1 v r => q v d F1 H1 st1 s (ok.step s) r w1⟩
theorem tT.inS {m : Ev → M Bool} {f : Bool → M Fl} {Q : Bool → Hp → Prop} (ok : OkS k G H0 P F H σ Γ st) (w : WpS k E G H0 P (sE (m Γ) Γ f st) D0)
    (q : ∀ b F1 H1 st1, Step k F H F1 H1 st1 → OkS k G H0 P F1 H1 σ Γ st1 → WpS k E G H0 P (f b st1) D0 → Q b H1) : tT k E m σ H Q :=
  ⟨F, Γ, st, ok.ok, (Wp.inS (o := m Γ st) ok w).mono fun d F1 H1 st1 s w1 => q d F1 H1 st1 s (ok.step s) w1⟩
theorem tA.inS {m : Ev → M (List D)} {f : List D → M Fl} {Q : List V → Hp → Prop} (ok : OkS k G H0 P F H σ Γ st) (w : WpS k E G H0 P (sE (m Γ) Γ f st) D0)
    (q : ∀ vs ds F1 H1 st1, Step k F H F1 H1 st1 → OkS k G H0 P F1 H1 σ Γ st1 → Reps k F1 vs ds → WpS k E G H0 P (f ds st1) D0 → Q vs H1) : tA k E m σ H Q :=
  ⟨F, Γ, st, ok.ok, (Wp.inS (o := m Γ st) ok w).mono fun d F1 H1 st1 s w1 v r => q v d F1 H1 st1 s (ok.step s) r w1⟩
end

section
variable {X : Cx} {k : Kx} {E : XE} {st : Stmt} {sts rest : List Stmt} {m m2 : SM} {e : Expr} {me : EM} {pos : Pos}
/-! ### blocks -/
def mNext : SM := fun Γ => pure (.nx Γ)
def kSeq (m2 : SM) : Fl → M Fl := fun r st => match r with
  | .nx Γ' => m2 Γ' st
  | .rt d => .ok (.rt d) st
  | .bk Γ => .ok (.bk Γ) st
  | .ct Γ => .ok (.ct Γ) st
  | .xc C fs Γ => .ok (.xc C fs Γ) st
def mSeq (m m2 : SM) : SM := fun Γ => do
  let r ← m Γ
  kSeq m2 r
theorem b_nil : PSs X [] (tS k E mNext) := PSs.weak pss_nil fun D σ H ⟨G, H0, P, F, Γ, st, ok, w⟩ => w σ F H ok
theorem b_cons (h1 : PS X st (tS k E m)) (h2 : PSs X rest (tS k E m2)) : PSs X (st :: rest) (tS k E (mSeq m m2)) :=
  PSs.weak (pss_cons h1 h2) fun D σ H ⟨G, H0, P, F, Γ, st, ok, w⟩ => by
    refine ⟨G, H0, P, F, Γ, st, ok, ?_⟩
    have w : WpS k E G H0 P ((m Γ st).bind (kSeq m2)) D := w
    revert w
    cases m Γ st with
    | ok r st' =>
      cases r with
      | nx Γ' => exact fun w σ' F' H' ok' => ⟨G, H0, P, F', Γ', st', ok', w⟩
      | rt d => exact fun w => w
      | bk Γ' => exact fun w => w
      | ct Γ' => exact fun w => w
      | xc C fs Γ' => exact fun w => w
    | err C fs st' => exact fun w => w
    | stuck => exact fun w => w
theorem b_one (h1 : PS X st (tS k E m)) : PSs X [st] (tS k E m) := pss_one h1
/-! ### small statements -/
def mRet (me : EM) : SM := fun Γ => sE (me Γ) Γ fun d => pure (.rt d)
theorem s_ret (he : PE X e (tM k E me)) : PS X (.Return (some e) pos) (tS k E (mRet me)) :=
  PS.weak (ps_ret he) fun D σ H ⟨G, H0, P, F, Γ, st, ok, w⟩ => tM.inS ok w fun v d F1 H1 st1 s ok1 r w1 => w1 v F1 H1 ok1.toStep r
def mRetN : SM := fun _ => pure (.rt .non)
theorem s_retN : PS X (.Return none pos) (tS k E mRetN) :=
  PS.weak ps_retN fun D σ H ⟨G, H0, P, F, Γ, st, ok, w⟩ => w _ F H ok.toStep .non
def mBreak : SM := fun Γ => pure (.bk Γ)
def mCont : SM := fun Γ => pure (.ct Γ)
theorem s_break : PS X (.Break pos) (tS k E mBreak) := PS.weak ps_break fun D σ H ⟨G, H0, P, F, Γ, st, ok, w⟩ => w σ F H ok
theorem s_cont : PS X (.Continue pos) (tS k E mCont) := PS.weak ps_continue fun D σ H ⟨G, H0, P, F, Γ, st, ok, w⟩ => w σ F H ok
def mIfS (t : Ev → M Bool) (m m2 : SM) : SM := fun Γ => sE (t Γ) Γ fun c => if c then m Γ else m2 Γ
theorem s_if {c : Expr} {a b : List Stmt} {t : Ev → M Bool} (hc : PT X c (tT k E t)) (ha : PSs X a (tS k E m)) (hb : PSs X b (tS k E m2)) : PS X (.If c a b pos) (tS k E (mIfS t m m2)) :=
  PS.weak (ps_if hc ha hb) fun D σ H ⟨G, H0, P, F, Γ, st, ok, w⟩ => tT.inS ok w fun c F1 H1 st1 s ok1 w1 => by
    cases c with
    | true => exact iteT ⟨G, H0, P, F1, Γ, st1, ok1, w1⟩
    | false => exact iteF ⟨G, H0, P, F1, Γ, st1, ok1, w1⟩
def mDrop (me : EM) : SM := fun Γ => sE (me Γ) Γ fun _ => pure (.nx Γ)
theorem s_expr (he : PE X e (tM k E me)) (hs : swapsWith e none pos.line X.env = pure false := by rfl) : PS X (.Expr e pos) (tS k E (mDrop me)) :=
  PS.weak (ps_expr he hs) fun D σ H ⟨G, H0, P, F, Γ, st, ok, w⟩ => tM.inS ok w fun v d F1 H1 st1 s ok1 r w1 => w1 σ F1 H1 ok1

/-! ### targets -/
abbrev GM := D → Ev → Option Ev
def gM (k : Kx) (js : List Nat) (g : GM) : TG := fun v σ H Q => ∃ d F Γ Γ', Same F H ∧ σ.length = Γ.length ∧ Rep k F v d ∧ g d Γ = some Γ' ∧ ∀ σ', Upd k F js σ Γ σ' Γ' → Q σ' H
def gsM (k : Kx) (js : List Nat) (g : List D → Ev → Option Ev) : TGs := fun vs σ H Q => ∃ ds F Γ Γ', Same F H ∧ σ.length = Γ.length ∧ Reps k F vs ds ∧ g ds Γ = some Γ' ∧ ∀ σ', Upd k F js σ Γ σ' Γ' → Q σ' H
theorem PG.weak {tg : Expr} {t t' : TG} (h : PG X tg t) (q : ∀ v σ H Q, t' v σ H Q → t v σ H Q) : PG X tg t' := ⟨fun pins s σ H v u Q I r w => h.run pins s σ H v u Q I r (q _ _ _ _ w)⟩
theorem PGs.weak {tg : List Expr} {t t' : TGs} (h : PGs X tg t) (q : ∀ v σ H Q, t' v σ H Q → t v σ H Q) : PGs X tg t' := ⟨fun pins s σ H v u Q I r w => h.run pins s σ H v u Q I r (q _ _ _ _ w)⟩
def mgName (i : Nat) : GM := fun d Γ => some (Γ.set i (some (.dat d)))
theorem g_name {i : Nat} {x : Str} (hN : X.N.Nodup) (hi : X.N[i]? = some x := by rfl) (hx : Loc X.env.scope x := by first | exact Or.inl rfl | exact Or.inr rfl) (hf : X.fn x = true ∨ X.env.scope.names.lookup x = some .local := by first | exact .inl rfl | exact .inr rfl | assumption) : PG X (.Name x pos) (gM k [i] (mgName i)) :=
  PG.weak (pg_name hN hi hx hf) fun v σ H Q ⟨d, F, Γ, Γ', s, hl, r, e, q⟩ => by
    cases e
    exact q _ (Upd.set hl r)
def mgNil : List D → Ev → Option Ev := fun ds Γ => match ds with
  | [] => some Γ
  | _ => none
def mgCons (g : GM) (gs : List D → Ev → Option Ev) : List D → Ev → Option Ev := fun ds Γ => match ds with
  | d :: r => (g d Γ).bind (gs r)
  | [] => none
theorem gs_nil : PGs X [] (gsM k [] mgNil) := PGs.weak pgs_nil fun vs σ H Q ⟨ds, F, Γ, Γ', s, hl, r, e, q⟩ => by
  cases r with
  | nil => cases e; exact ⟨rfl, q _ .refl⟩
  | cons _ _ => cases e
theorem gs_cons {tg : Expr} {tgs : List Expr} {js js2 : List Nat} {g : GM} {gs : List D → Ev → Option Ev} (h1 : PG X tg (gM k js g)) (h2 : PGs X tgs (gsM k js2 gs))
    (hs : (assignEach (tg :: tgs) X.env).map (·.2) = assign tg X.env :: (assignEach tgs X.env).map (·.2) := by rfl) : PGs X (tg :: tgs) (gsM k (js ++ js2) (mgCons g gs)) :=
  PGs.weak (pgs_cons h1 h2 hs) fun vs σ H Q ⟨ds, F, Γ, Γ', s, hl, r, e, q⟩ => by
    cases r with
    | nil => cases e
    | @cons v vs d ds rh rt =>
      have e : (g d Γ).bind (gs ds) = some Γ' := e
      cases e1 : g d Γ with
      | none => rw [e1] at e; cases e
      | some Γ1 =>
        rw [e1] at e
        exact ⟨v, vs, rfl, d, F, Γ, Γ1, s, hl, rh, e1, fun σ1 u1 => ⟨ds, F, Γ1, Γ', s, by rw [u1.len, u1.lenE, hl], rt, e, fun σ2 u2 => q σ2 (u1.trans u2)⟩⟩
def mgTup (n : Nat) (gs : List D → Ev → Option Ev) : GM := fun d Γ => match d with
  | .tup ds => if ds.length = n then gs ds Γ else none
  | _ => none
theorem g_tup {es : List Expr} {j : Nat} {js : List Nat} {gs : List D → Ev → Option Ev} {n : Nat} (hc : X.calm = true) (h : PGs X es (gsM k js gs)) (hk : k.K = X.K := by rfl)
    (hn : (assignEach es X.env).length = n := by rfl) (hst : (assignEach es X.env).findIdx? (·.1) = none := by rfl) : PG X (.Tuple es j pos) (gM k js (mgTup n gs)) :=
  PG.weak (pg_tup hc h hn hst) fun v σ H Q ⟨d, F, Γ, Γ', s, hl, r, e, q⟩ => by
    unfold mgTup at e
    split at e
    · split at e
      · rename_i hn'
        cases r with
        | tup ht rs =>
          rw [hk] at ht
          exact ⟨_, _, rfl, sqt_mono s ht, by rw [rs.length]; exact hn', _, F, Γ, Γ', s, hl, rs, e, q⟩
      · cases e
    · cases e
def mAsg (me : EM) (g : GM) : SM := fun Γ => sE (me Γ) Γ fun d => match g d Γ with
  | some Γ' => pure (.nx Γ')
  | none => halt
theorem asg_done {G H0 P F1 H1 : Hp} {σ : L2.St} {Γ : Ev} {st1 : DS} {v : V} {d : D} {g : GM} {js : List Nat} {D0 : Ends} (ok1 : OkS k G H0 P F1 H1 σ Γ st1) (r : Rep k F1 v d)
    (w1 : WpS k E G H0 P ((match g d Γ with | some Γ' => (pure (.nx Γ') : M Fl) | none => halt) st1) D0) : gM k js g v σ H1 D0.nx := by
  revert w1
  cases e1 : g d Γ with
  | none => exact fun w1 => w1.elim
  | some Γ' => exact fun w1 => ⟨d, F1, Γ, Γ', ok1.ok.sub, ok1.ok.len, r, e1, fun σ' u => w1 σ' F1 H1 (ok1.upd u)⟩
theorem s_asg {tg : Expr} {g : GM} {js : List Nat} (he : PE X e (tM k E me)) (hg : PG X tg (gM k js g)) (hs : swapsWithSole [tg] e pos.line X.env = pure false := by rfl) (hw : swappedStores [tg] e X.env = pure none := by rfl)
    (h1 : (assignEach [tg] X.env).map (·.2) = [assign tg X.env] := by rfl) : PS X (.Assign [tg] e pos) (tS k E (mAsg me g)) :=
  PS.weak (ps_asg he hg hs hw h1) fun D σ H ⟨G, H0, P, F, Γ, st, ok, w⟩ => tM.inS ok w fun v d F1 H1 st1 s ok1 r w1 => asg_done ok1 r w1
theorem s_set {i : Nat} {x : Str} {pos' : Pos} (hN : X.N.Nodup) (he : PE X e (tM k E me)) (hi : X.N[i]? = some x := by rfl) (hx : Loc X.env.scope x := by first | exact Or.inl rfl | exact Or.inr rfl) (hs : swapsWith e (some (.Name x pos')) pos.line X.env = pure false := by rfl) (hf : X.fn x = true ∨ X.env.scope.names.lookup x = some .local := by first | exact .inl rfl | exact .inr rfl | assumption) :
    PS X (.Assign [.Name x pos'] e pos) (tS k E (mAsg me (mgName i))) :=
  PS.weak (ps_set hN hi hx he hs hf) fun D σ H ⟨G, H0, P, F, Γ, st, ok, w⟩ => tM.inS ok w fun v d F1 H1 st1 s ok1 r w1 => w1 _ F1 H1 (ok1.upd (Upd.set ok1.ok.len r))
/-- a, b = x, y: plain local names -/
def mPar (i j : Nat) (ma : Ev → M (List D)) : SM := fun Γ => sE (ma Γ) Γ fun ds => match ds with
  | [d, e] => pure (.nx ((Γ.set i (some (.dat d))).set j (some (.dat e))))
  | _ => halt
theorem s_par {i j : Nat} {x y : Str} {a b : Expr} {ma : Ev → M (List D)} {px py pt : Pos} {kt k2 : Nat} {pt2 : Pos} (hc : X.calm = true) (hN : X.N.Nodup) (ha : PA X [a, b] (tA k E ma)) (hij : i ≠ j) (hi : X.N[i]? = some x := by rfl) (hj : X.N[j]? = some y := by rfl)
    (hx : X.env.scope.names.lookup x = some .local := by rfl) (hy : X.env.scope.names.lookup y = some .local := by rfl)
    (hw : swappedStores [.Tuple [.Name x px, .Name y py] kt pt] (.Tuple [a, b] k2 pt2) X.env = pure (some [x, y]) := by rfl)
    (hs : swapsWithSole [.Tuple [.Name x px, .Name y py] kt pt] (.Tuple [a, b] k2 pt2) pos.line X.env = pure false := by rfl) :
    PS X (.Assign [.Tuple [.Name x px, .Name y py] kt pt] (.Tuple [a, b] k2 pt2) pos) (tS k E (mPar i j ma)) :=
  PS.weak (ps_par hc hN hi hj hij hx hy ha hw hs) fun D σ H ⟨G, H0, P, F, Γ, st, ok, w⟩ => tA.inS ok w fun vs ds F1 H1 st1 s ok1 r w1 => by
    match ds, r, w1 with
    | [d, e], .cons r1 (.cons r2 .nil), w1 => exact ⟨_, _, rfl, w1 _ F1 H1 (ok1.upd ((Upd.set ok1.ok.len r1).trans (Upd.set (by simp [ok1.ok.len]) r2)))⟩
    | [], _, w1 => exact w1.elim
    | [_], _, w1 => exact w1.elim
    | _ :: _ :: _ :: _, _, w1 => exact w1.elim

/-! ### iterators -/
structure ItOk (k : Kx) (J : It) (F : Hp) (xs : List D) : Prop where
  go : ∀ (i : Nat) F1 H1, Same F F1 → Same F1 H1 → Same k.B H1 → i < xs.length → J.go i H1
  stop : ∀ (i : Nat) F1 H1, Same F F1 → Same F1 H1 → Same k.B H1 → xs.length ≤ i → J.stop i H1
  yld : ∀ (i : Nat) x F1 H1 H2 σ Γ st, Same F F1 → Ok k F1 H1 σ Γ st → i < xs.length → J.yld i H1 x H2 → ∃ d F2, xs[i]? = some d ∧ Step k F1 H1 F2 H2 st ∧ Rep k F2 x d
def tI (k : Kx) (E : XE) (m : Ev → M (List D)) : TI := fun σ H R => ∃ F Γ st, Ok k F H σ Γ st ∧ Wp k E σ F H (m Γ st) fun xs F' H' _ => ∀ J, ItOk k J F' xs → R J H'
theorem PI.weak {tg iter : Expr} {t t' : TI} (h : PI X tg iter t) (q : ∀ σ H R, t' σ H R → t σ H R) : PI X tg iter t' := ⟨fun pins s σ H R I w => h.run pins s σ H R I (q _ _ _ w)⟩
def kLoop (m2 : SM) : Fl → M Fl := fun r st => match r with
  | .nx Γ2 => m2 Γ2 st
  | .ct Γ2 => m2 Γ2 st
  | .bk Γ2 => .ok (.nx Γ2) st
  | .rt d => .ok (.rt d) st
  | .xc C fs Γ2 => .ok (.xc C fs Γ2) st
def loopS (g : GM) (mb : SM) : List D → SM
  | [], Γ => pure (.nx Γ)
  | d :: ds, Γ => match g d Γ with
    | none => halt
    | some Γ1 => do
      let r ← mb Γ1
      kLoop (loopS g mb ds) r
def mFor (mi : Ev → M (List D)) (g : GM) (mb : SM) : SM := fun Γ => sE (mi Γ) Γ fun xs => loopS g mb xs Γ
theorem tI.inS {G H0 P F H : Hp} {σ : L2.St} {Γ : Ev} {st : DS} {D0 : Ends} {m : Ev → M (List D)} {f : List D → M Fl} {R : It → Hp → Prop} (ok : OkS k G H0 P F H σ Γ st) (w : WpS k E G H0 P (sE (m Γ) Γ f st) D0)
    (q : ∀ J xs F1 H1 st1, OkS k G H0 P F1 H1 σ Γ st1 → ItOk k J F1 xs → WpS k E G H0 P (f xs st1) D0 → R J H1) : tI k E m σ H R :=
  ⟨F, Γ, st, ok.ok, (Wp.inS (o := m Γ st) ok w).mono fun d F1 H1 st1 s w1 J j => q J d F1 H1 st1 (ok.step s) j w1⟩
theorem WpS.per {G H0 P P' : Hp} {o : Out Fl} {D0 : Ends} (h : Same P P') (w : WpS k E G H0 P o D0) : WpS k E G H0 P' o D0 := by
  cases o with
  | ok r st' =>
    cases r with
    | nx Γ' => exact fun σ' F' H' ok => w σ' F' H' (ok.per' (h.trans ok.per))
    | rt d => exact w
    | bk Γ' => exact fun σ' F' H' ok => w σ' F' H' (ok.per' (h.trans ok.per))
    | ct Γ' => exact fun σ' F' H' ok => w σ' F' H' (ok.per' (h.trans ok.per))
    | xc C fs Γ' => exact fun σ' F' H' da vs ok => w σ' F' H' da vs (ok.per' (h.trans ok.per))
  | err C fs st' => exact w
  | stuck => exact w
theorem s_for {tg iter : Expr} {body : List Stmt} {mi : Ev → M (List D)} {g : GM} {js : List Nat} {mb : SM} (hp : PassesOwn (model X.prog X.w) X.A X.env X.xe) (hc : X.calm = true) (hi : PI X tg iter (tI k E mi)) (hg : PG X tg (gM k js g)) (hb : PSs X body (tS k E mb))
    (hs : ∀ x, foldedSetIterable iter X.env x = pure x := by intro _; rfl) : PS X (.For tg iter body [] pos) (tS k E (mFor mi g mb)) := by
  refine PS.weak (ps_for hp hc hi hg hb hs) fun D0 σ H ⟨G, H0, P, F, Γ, st, ok, w⟩ => ?_
  refine tI.inS ok w fun J xs F1 H1 st1 ok1 jk w1 => ?_
  refine ⟨fun i m σ H => m = xs.length - i ∧ i ≤ xs.length ∧ ∃ F Γ st, OkS k G H0 P F H σ Γ st ∧ Same F1 F ∧ WpS k E G H0 P (loopS g mb (xs.drop i) Γ st) D0,
    ⟨_, rfl, Nat.zero_le _, F1, Γ, st1, ok1, Same.refl _, w1⟩, ?_⟩
  rintro i m σ H ⟨rfl, hi, F2, Γ2, st2, ok2, s2, w2⟩
  by_cases hlt : i < xs.length
  · refine .inr ⟨jk.go i F2 H s2 ok2.ok.sub ok2.ok.bsub hlt, fun σ' H' => i + 1 ≤ xs.length ∧ ∃ F Γ st, OkS k G H0 P F H' σ' Γ st ∧ Same F1 F ∧ WpS k E G H0 P (loopS g mb (xs.drop (i + 1)) Γ st) D0, ?_, ?_⟩
    · rintro σ' H' ⟨hi', n⟩
      exact ⟨_, by omega, rfl, hi', n⟩
    · intro x H' y
      obtain ⟨d, F3, e, s3, r⟩ := jk.yld i x F2 H H' σ Γ2 st2 s2 ok2.ok hlt y
      have ok3 := ok2.step s3
      have ed : xs.drop i = d :: xs.drop (i + 1) := by
        obtain ⟨h1, h2⟩ := List.getElem?_eq_some_iff.mp e
        rw [← h2]
        exact List.drop_eq_getElem_cons h1
      rw [ed] at w2
      unfold loopS at w2
      cases eg : g d Γ2 with
      | none => rw [eg] at w2; exact w2.elim
      | some Γ3 =>
        rw [eg] at w2
        refine ⟨d, F3, Γ2, Γ3, ok3.ok.sub, ok3.ok.len, r, eg, fun σ3 u => ?_⟩
        have ok4 := (ok3.upd u).per' (P' := F3) (Same.refl _)
        refine ⟨G, H0, F3, F3, Γ3, st2, ok4, ?_⟩
        have sP : Same P F3 := ok3.per
        have s13 : Same F1 F3 := s2.trans s3.ext
        have w2 : WpS k E G H0 P ((mb Γ3 st2).bind (kLoop (loopS g mb (xs.drop (i + 1))))) D0 := w2
        revert w2
        cases mb Γ3 st2 with
        | ok r5 st5 =>
          cases r5 with
          | nx Γ5 => exact fun w2 σ' F' H' ok' => ⟨hlt, F', Γ5, st5, ok'.per' (sP.trans ok'.per), s13.trans ok'.per, w2⟩
          | ct Γ5 => exact fun w2 σ' F' H' ok' => ⟨hlt, F', Γ5, st5, ok'.per' (sP.trans ok'.per), s13.trans ok'.per, w2⟩
          | bk Γ5 => exact fun w2 σ' F' H' ok' => w2 σ' F' H' (ok'.per' (sP.trans ok'.per))
          | rt d => exact fun w2 => w2
          | xc C fs Γ5 => exact fun w2 σ' F' H' da vs ok' => w2 σ' F' H' da vs (ok'.per' (sP.trans ok'.per))
        | err C fs st' => exact fun w2 => w2.elim
        | stuck => exact fun w2 => w2.elim
  · have e : i = xs.length := by omega
    subst e
    refine .inl ⟨jk.stop _ F2 H s2 ok2.ok.sub ok2.ok.bsub (Nat.le_refl _), ?_⟩
    rw [List.drop_length] at w2
    exact w2 σ F2 H ok2

/-! ### sources -/
theorem it_list {K : PySem.W.Frag} {F : Hp} {a : Addr} {vs : List V} {ds : List D} (h : F a = some (.lst vs)) (r : Reps k F vs ds) : ItOk k (Itl K a) F ds where
  go := fun i F1 H1 s1 s2 _ hi => by
    have hi' : i < vs.length := by rw [r.length]; exact hi
    exact ⟨vs, vs[i], SqL.of (s2 _ _ (s1 _ _ h)), List.getElem?_eq_getElem hi'⟩
  stop := fun i F1 H1 s1 s2 _ hi => ⟨vs, SqL.of (s2 _ _ (s1 _ _ h)), by rw [r.length]; exact hi⟩
  yld := fun i x F1 H1 H2 σ Γ st s1 ok hi y => by
    obtain ⟨e, y⟩ := y
    subst e
    have ev := y vs (SqL.of (ok.sub _ _ (s1 _ _ h)))
    obtain ⟨d, e1, e2⟩ := r.get ev
    exact ⟨d, F1, e1, ok.refl, e2.mono s1⟩
theorem it_bor {K : PySem.W.Frag} {F : Hp} {a : Addr} {vs : List V} {ds : List D} (h : k.B a = some (.lst vs)) (r : Reps k F vs ds) : ItOk k (Itl K a) F ds where
  go := fun i F1 H1 s1 s2 sb hi => by
    have hi' : i < vs.length := by rw [r.length]; exact hi
    exact ⟨vs, vs[i], SqL.of (sb _ _ h), List.getElem?_eq_getElem hi'⟩
  stop := fun i F1 H1 s1 s2 sb hi => ⟨vs, SqL.of (sb _ _ h), by rw [r.length]; exact hi⟩
  yld := fun i x F1 H1 H2 σ Γ st s1 ok hi y => by
    obtain ⟨e, y⟩ := y
    subst e
    have ev := y vs (SqL.of (ok.bsub _ _ h))
    obtain ⟨d, e1, e2⟩ := r.get ev
    exact ⟨d, F1, e1, ok.refl, e2.mono s1⟩
theorem it_tup {K : PySem.W.Frag} {F : Hp} {a : Addr} {vs : List V} {ds : List D} (h : SqT K F a vs) (r : Reps k F vs ds) : ItOk k (Itt K a) F ds where
  go := fun i F1 H1 s1 s2 _ hi => by
    have hi' : i < vs.length := by rw [r.length]; exact hi
    exact ⟨vs, vs[i], sqt_mono (s1.trans s2) h, List.getElem?_eq_getElem hi'⟩
  stop := fun i F1 H1 s1 s2 _ hi => ⟨vs, sqt_mono (s1.trans s2) h, by rw [r.length]; exact hi⟩
  yld := fun i x F1 H1 H2 σ Γ st s1 ok hi y => by
    obtain ⟨e, y⟩ := y
    subst e
    have ev := y vs (sqt_mono (s1.trans ok.sub) h)
    obtain ⟨d, e1, e2⟩ := r.get ev
    exact ⟨d, F1, e1, ok.refl, e2.mono s1⟩
theorem it_range {F : Hp} {lo : Int} {n : Nat} : ItOk k (Itr lo n) F ((List.range n).map fun i => .int (lo + (i : Nat))) where
  go := fun i F1 H1 s1 s2 _ hi => by show i < n; simpa using hi
  stop := fun i F1 H1 s1 s2 _ hi => by show n ≤ i; simpa using hi
  yld := fun i x F1 H1 H2 σ Γ st s1 ok hi y => by
    obtain ⟨e, y⟩ := y
    subst e y
    have hi' : i < n := by simpa using hi
    exact ⟨.int (lo + (i : Nat)), F1, by simp [hi'], ok.refl, .int _⟩
def gSeq : D → M (List D) := fun d st => match d with
  | .lst xs => .ok xs st
  | .tup xs => .ok xs st
  | .bor xs => .ok xs st
  | _ => .stuck
def mSeqOf (me : EM) : Ev → M (List D) := fun Γ => do
  let d ← me Γ
  gSeq d
/-- over a list or a tuple -/
theorem i_seq {tg : Expr} (he : PE X e (tM k E me)) (hk : k.K = X.K := by rfl) : PI X tg e (tI k E (mSeqOf me)) := by
  have hL := pi_list (tg := tg) he
  have hT := pi_tup (tg := tg) he
  refine ⟨fun pins s σ H R I ⟨F, Γ, st, ok, w⟩ => ?_⟩
  have w : Wp k E σ F H ((me Γ st).bind gSeq) _ := w
  cases eo : me Γ st with
  | err C fs st' =>
    rw [eo] at w
    exact hL.run pins s σ H R I ⟨F, Γ, st, ok, by rw [eo]; exact w⟩
  | stuck => rw [eo] at w; exact w.elim
  | ok d st' =>
    rw [eo] at w
    by_cases hd : ∃ xs, d = .lst xs
    · obtain ⟨xs, rfl⟩ := hd
      refine hL.run pins s σ H R I ⟨F, Γ, st, ok, ?_⟩
      rw [eo]
      intro F' H' s' v r
      cases r with
      | lst h rs => exact ⟨_, rfl, ⟨_, SqL.of (s'.sub _ _ h)⟩, w F' H' s' _ (it_list h rs)⟩
    · by_cases hd3 : ∃ xs, d = .bor xs
      · obtain ⟨xs, rfl⟩ := hd3
        refine hL.run pins s σ H R I ⟨F, Γ, st, ok, ?_⟩
        rw [eo]
        intro F' H' s' v r
        cases r with
        | bor h rs => exact ⟨_, rfl, ⟨_, SqL.of ((ok.step s').bsub _ _ h)⟩, w F' H' s' _ (it_bor h rs)⟩
      by_cases hd2 : ∃ xs, d = .tup xs
      · obtain ⟨xs, rfl⟩ := hd2
        refine hT.run pins s σ H R I ⟨F, Γ, st, ok, ?_⟩
        rw [eo]
        intro F' H' s' v r
        cases r with
        | tup h rs =>
          rw [hk] at h
          exact ⟨_, rfl, ⟨_, sqt_mono s'.sub h⟩, w F' H' s' _ (it_tup h rs)⟩
      · exfalso
        have w : Wp k E σ F H (gSeq d st') _ := w
        unfold gSeq at w
        split at w
        · exact hd ⟨_, rfl⟩
        · exact hd2 ⟨_, rfl⟩
        · exact hd3 ⟨_, rfl⟩
        · exact w
def gRange1 : List D → M (List D) := fun ds st => match ds with
  | [.int n] => if decide (-(2 ^ 62) ≤ n ∧ n < 2 ^ 62) then .ok ((List.range n.toNat).map fun i => .int (0 + (i : Nat))) st else .stuck
  | _ => .stuck
def gRange2 : List D → M (List D) := fun ds st => match ds with
  | [.int a, .int b] => if decide (-(2 ^ 62) ≤ a ∧ a < 2 ^ 62 ∧ -(2 ^ 62) ≤ b ∧ b < 2 ^ 62) then .ok ((List.range (b - a).toNat).map fun i => .int (a + (i : Nat))) st else .stuck
  | _ => .stuck
def mSrc (g : List D → M (List D)) (mr : Ev → M (List D)) : Ev → M (List D) := fun Γ => do
  let ds ← mr Γ
  g ds
theorem i_range1 {tg a : Expr} {mr : Ev → M (List D)} {p : Pos} (hg : Gl X "range") (hm : X.mg "range" = none) (ha : PA X [a] (tA k E mr)) (hs : starEach [a] X.env = [(false, eval a X.env)] := by rfl) : PI X tg (.Call (.Name "range" p) [a] [] pos) (tI k E (mSrc gRange1 mr)) :=
  PI.weak (pi_range1 hg hm ha hs) fun σ H R ⟨F, Γ, st, ok, w⟩ => tA.then_ ok w fun vs ds F1 H1 st1 s ok1 r w1 => by
    unfold gRange1 at w1
    split at w1
    · rename_i n
      split at w1
      · rename_i hc
        have hc : -(2 ^ 62) ≤ n ∧ n < 2 ^ 62 := of_decide_eq_true hc
        match vs, r with
        | [_], .cons (.int _) .nil => exact ⟨n, rfl, hc.1, hc.2, w1 F1 H1 ok1.refl _ it_range⟩
      · exact w1.elim
    · exact w1.elim
theorem i_range2 {tg a b : Expr} {mr : Ev → M (List D)} {p : Pos} (hg : Gl X "range") (hm : X.mg "range" = none) (ha : PA X [a, b] (tA k E mr)) (hs : starEach [a, b] X.env = [(false, eval a X.env), (false, eval b X.env)] := by rfl) (hs2 : starEach [b] X.env = [(false, eval b X.env)] := by rfl) : PI X tg (.Call (.Name "range" p) [a, b] [] pos) (tI k E (mSrc gRange2 mr)) :=
  PI.weak (pi_range2 hg hm ha hs hs2) fun σ H R ⟨F, Γ, st, ok, w⟩ => tA.then_ ok w fun vs ds F1 H1 st1 s ok1 r w1 => by
    unfold gRange2 at w1
    split at w1
    · rename_i a b
      split at w1
      · rename_i hc
        have hc : -(2 ^ 62) ≤ a ∧ a < 2 ^ 62 ∧ -(2 ^ 62) ≤ b ∧ b < 2 ^ 62 := of_decide_eq_true hc
        match vs, r with
        | [_, _], .cons (.int _) (.cons (.int _) .nil) => exact ⟨a, b, rfl, hc, w1 F1 H1 ok1.refl _ it_range⟩
      · exact w1.elim
    · exact w1.elim
end
end FL

/-! FL4: lists made here, comprehensions, defs and their calls, subscripts -/
namespace FL
open PySem PySem.Spec PyProof.Rows L2

def EF : XE := fun _ _ _ _ => False
def nxM {α : Type} (m : M α) : M α := fun st => match m st with
  | .ok a st' => .ok a st'
  | _ => .stuck
section
variable {k : Kx} {E : XE} {F H F1 H1 : Hp} {σ : L2.St} {Γ : Ev} {st st1 : DS}
theorem Wp.nx {α : Type} {m : M α} {E' : XE} {R : α → Hp → Hp → DS → Prop} (w : Wp k E σ F H (nxM m st) R) : Wp k E' σ F H (m st) R := by
  unfold nxM at w
  revert w
  cases m st with
  | ok a st' => exact fun w => w
  | err C fs st' => exact fun w => w.elim
  | stuck => exact fun w => w.elim
theorem Wp.nx_ok {α β : Type} {m : M α} {f : α → DS → Out β} {R : β → Hp → Hp → DS → Prop} (w : Wp k E σ F H ((nxM m st).bind f) R) : ∃ a st', m st = .ok a st' ∧ Wp k E σ F H (f a st') R := by
  unfold nxM at w
  revert w
  cases e : m st with
  | ok a st' => exact fun w => ⟨a, st', rfl, w⟩
  | err C fs st' => exact fun w => w.elim
  | stuck => exact fun w => w.elim
theorem Wp.sig {α : Type} {o : Out α} {σ' : L2.St} {R : α → Hp → Hp → DS → Prop} {E' : XK} (w : Wp k (fun _ => E') σ F H o R) : Wp k (fun _ => E') σ' F H o R := w
theorem Step.back (s : Step k F H F1 H1 st1) {a : Addr} (h : H1 a = none) : H a = none := by
  cases q : H a with
  | none => rfl
  | some o =>
    obtain ⟨o', e⟩ := s.kept a o q
    rw [h] at e
    cases e
/-- a list of ours is frozen -/
theorem Step.frz (s : Step k F H F1 H1 st1) {a : Addr} {ob : HO} (h0 : H a = none) (h1 : H1 a = some ob) (f : F1 a = none) (hF : Same F H) (hob : ∀ ps, ob ≠ .tbl ps := by intro _ z; cases z) : Step k F H (upd F1 a ob) H1 st1 where
  ext := fun b o e => by rw [upd_ne (ne_of_none (hF _ _ e) h0)]; exact s.ext b o e
  stay := s.stay
  kept := s.kept
  tabs := s.tabs
  ftbl := fun b x h => by
    by_cases hb : b = a
    · subst hb; rw [upd_same] at h; cases h; exact hob
    · rw [upd_ne hb] at h; exact s.ftbl _ _ h
  nof := fun b o e g => by rw [upd_ne (ne_of_none e h0)]; exact s.nof b o e g
  sub := fun b o e => by
    by_cases hb : b = a
    · subst hb; rw [upd_same] at e; rw [h1]; exact e
    · rw [upd_ne hb] at e; exact s.sub b o e
  at_ := s.at_
/-- a list of ours is written -/
theorem Step.mut (s : Step k F H F1 H1 st1) {a : Addr} {ob : HO} (h0 : H a = none) (f : F1 a = none) (n1 : ¬ k.hot a) (hl : H1 a = none ∨ ∃ vs, H1 a = some (.lst vs)) : Step k F H F1 (upd H1 a ob) st1 where
  ext := s.ext
  stay := fun b o e m1 m3 => by rw [upd_ne (ne_of_none e h0)]; exact s.stay b o e m1 m3
  kept := fun b o e => by rw [upd_ne (ne_of_none e h0)]; exact s.kept b o e
  tabs := tabs_upd s.tabs hl
  ftbl := s.ftbl
  nof := s.nof
  sub := fun b o e => by rw [upd_ne (fun z => by rw [z, f] at e; cases e)]; exact s.sub b o e
  at_ := fun h => (s.at_ h).upd h n1
end

/-! ### lists made here -/
def tO (k : Kx) (E : XE) (m : Ev → M (List D)) : TE := fun σ H Q => ∃ F Γ st, Ok k F H σ Γ st ∧ Wp k E σ F H (m Γ st) fun xs F' H' _ => ∀ a vs, H' a = some (.lst vs) → F' a = none → H a = none → Reps k F' vs xs → Q (.ref a) H'
def mFrz (m : Ev → M (List D)) : EM := fun Γ => do
  let xs ← m Γ
  pure (.lst xs)
section
variable {X : Cx} {k : Kx} {E : XE} {e : Expr} {es : List Expr} {m mr : Ev → M (List D)} {pos : Pos}
theorem frz_imp {σ : L2.St} {H : Hp} {Q : VK} (h : tM k E (mFrz m) σ H Q) : tO k E m σ H Q := by
  obtain ⟨F, Γ, st, ok, w⟩ := h
  refine ⟨F, Γ, st, ok, ?_⟩
  have w : Wp k E σ F H ((m Γ st).bind fun xs => (pure (.lst xs) : M D)) (qD k Q) := w
  revert w
  cases m Γ st with
  | ok xs st' =>
    intro w F' H' s a vs h1 f1 h0 r
    have o2 : Same F' (upd F' a (.lst vs)) := fun b o e => by rw [upd_ne (fun z => by rw [z, f1] at e; cases e)]; exact e
    exact w _ _ (s.frz h0 h1 f1 ok.sub) _ (.lst upd_same (r.mono o2))
  | err C fs st' => exact fun w => w
  | stuck => exact fun w => w
theorem e_frz (h : PE X e (tO k E m)) : PE X e (tM k E (mFrz m)) := PE.weak h fun σ H Q => frz_imp
/-- [..], a list display -/
def mDisp (mr : Ev → M (List D)) : Ev → M (List D) := fun Γ => do
  let ds ← mr Γ
  if decide (ds.length ≤ sizeLine) then pure ds else halt
theorem o_lst (h : PA X es (tA k E mr)) : PE X (.List es pos) (tO k E (mDisp mr)) :=
  PE.weak (pe_lst h) fun σ H Q ⟨F, Γ, st, ok, w⟩ => tA.then_ ok w fun vs ds F1 H1 st1 s1 ok1 r1 w1 => by
    split at w1
    · rename_i hc
      refine ⟨by rw [r1.length]; exact of_decide_eq_true hc, fun p np => ?_⟩
      exact w1 _ _ (ok1.new' np) p vs upd_same (ok1.fnone np) (s1.back np) r1
    · exact w1.elim

/-! ### comprehensions -/
def wipeE (Γ : Ev) : List Nat → Ev
  | [] => Γ
  | v :: vs => (wipeE Γ vs).set v none
theorem wipeE_length (Γ : Ev) : ∀ vs : List Nat, (wipeE Γ vs).length = Γ.length
  | [] => rfl
  | v :: vs => by rw [wipeE, List.length_set, wipeE_length Γ vs]
theorem wipeE_some {Γ : Ev} {i : Nat} {x : Sl} : ∀ {vs : List Nat}, (wipeE Γ vs)[i]? = some (some x) → Γ[i]? = some (some x) ∧ i ∉ vs
  | [], h => ⟨h, by simp⟩
  | v :: vs, h => by
    unfold wipeE at h
    by_cases hi : v = i
    · subst hi
      by_cases hv : v < (wipeE Γ vs).length
      · rw [List.getElem?_set_self hv] at h; cases h
      · rw [List.getElem?_eq_none (by simpa using hv)] at h; cases h
    · rw [List.getElem?_set_ne hi] at h
      obtain ⟨h1, h2⟩ := wipeE_some h
      exact ⟨h1, by simp only [List.mem_cons, not_or]; exact ⟨fun e => hi e.symm, h2⟩⟩
theorem wipe_other {σ : L2.St} {i : Nat} : ∀ {vs : List Nat}, i ∉ vs → (wipe σ vs)[i]? = σ[i]?
  | [], _ => rfl
  | v :: vs, h => by
    simp only [List.mem_cons, not_or] at h
    unfold wipe
    rw [List.getElem?_set_ne (fun z => h.1 z.symm)]
    exact wipe_other h.2
theorem wipe_at {σ : L2.St} {i : Nat} : ∀ {vs : List Nat}, i ∈ vs → (wipe σ vs)[i]? = if i < σ.length then some none else none
  | [], h => by simp at h
  | v :: vs, h => by
    unfold wipe
    by_cases hv : v = i
    · subst hv
      by_cases hl : v < σ.length
      · rw [List.getElem?_set_self (by rw [wipe_length]; exact hl), if_pos hl]
      · rw [List.getElem?_eq_none (by rw [List.length_set, wipe_length]; omega), if_neg hl]
    · rw [List.getElem?_set_ne hv]
      rcases List.mem_cons.mp h with z | z
      · exact absurd z.symm hv
      · exact wipe_at z
theorem wipe_same {σ σ' : L2.St} {vs : List Nat} (hl : σ'.length = σ.length) (h : ∀ i : Nat, i ∉ vs → σ'[i]? = σ[i]?) : wipe σ' vs = wipe σ vs := by
  apply List.ext_getElem?
  intro i
  by_cases hi : i ∈ vs
  · rw [wipe_at hi, wipe_at hi, hl]
  · rw [wipe_other hi, wipe_other hi]; exact h i hi
theorem Ok.wipe {F H : Hp} {σ : L2.St} {Γ : Ev} {st : DS} (o : Ok k F H σ Γ st) (vs : List Nat) : Ok k F H (wipe σ vs) (wipeE Γ vs) st where
  sub := o.sub
  at_ := o.at_
  hid := o.hid
  bsub := o.bsub
  blst := o.blst
  tabs := o.tabs
  ftbl := o.ftbl
  len := by rw [wipe_length, wipeE_length]; exact o.len
  slot := fun i x e => by
    obtain ⟨e1, h1⟩ := wipeE_some e
    rw [wipe_other h1]
    exact o.slot i x e1
  apart := fun i j xs ys a e1 e2 e3 e4 => by
    obtain ⟨f1, h1⟩ := wipeE_some e1
    obtain ⟨f2, h2⟩ := wipeE_some e2
    rw [wipe_other h1] at e3
    rw [wipe_other h2] at e4
    exact o.apart i j xs ys a f1 f2 e3 e4
def compL (g : GM) (t : Ev → M Bool) (e : EM) (Γ : Ev) : List D → M (List D)
  | [] => pure []
  | d :: ds => match g d Γ with
    | none => halt
    | some Γ1 => do
      let c ← nxM (t Γ1)
      if c then do
        let y ← nxM (e Γ1)
        let r ← compL g t e Γ ds
        pure (y :: r)
      else compL g t e Γ ds
def mComp (mi : Ev → M (List D)) (g : GM) (t : Ev → M Bool) (e : EM) (vs : List Nat) : Ev → M (List D) := fun Γ => do
  let xs ← mi Γ
  if decide (xs.length ≤ sizeLine) then compL g t e (wipeE Γ vs) xs else halt
def mYes : Ev → M Bool := fun _ => pure true
theorem ts_nil : PTs X [] (tT k E mYes) := ⟨fun pins s σ H Q I ⟨F, Γ, st, ok, w⟩ => pts_nil.run pins s σ H Q I (w F H ok.refl)⟩
theorem ts_one {c : Expr} {t : Ev → M Bool} (h : PT X c (tT k E t)) : PTs X [c] (tT k E t) := pts_one h
/-- the list so far, then the rest -/
def onto (acc : List D) (o : Out (List D)) : Out (List D) := o.bind fun r st => .ok (acc ++ r) st
theorem onto_nil {o : Out (List D)} : onto [] o = o := by
  cases o <;> rfl
theorem onto_cons {acc : List D} {y : D} {o : Out (List D)} : onto acc (o.bind fun r st => .ok (y :: r) st) = onto (acc ++ [y]) o := by
  cases o with
  | ok r st => simp [onto, Out.bind]
  | err C fs st => rfl
  | stuck => rfl
theorem onto_bind {α : Type} {acc : List D} {o : Out α} {f : α → DS → Out (List D)} : onto acc (o.bind f) = o.bind fun a st => onto acc (f a st) := by
  cases o <;> rfl
theorem tI.then_ {F H : Hp} {σ : L2.St} {Γ : Ev} {st : DS} {mi : Ev → M (List D)} {α : Type} {f : List D → M α} {R : α → Hp → Hp → DS → Prop} {Q : It → Hp → Prop} (ok : Ok k F H σ Γ st) (h : Wp k E σ F H ((mi Γ >>= f) st) R)
    (q : ∀ J xs F1 H1 st1, Step k F H F1 H1 st1 → Ok k F1 H1 σ Γ st1 → ItOk k J F1 xs → Wp k E σ F1 H1 (f xs st1) R → Q J H1) : tI k E mi σ H Q :=
  ⟨F, Γ, st, ok, (Wp.bind (f := f) ok h).mono fun d F1 H1 st1 s w J j => q J d F1 H1 st1 s (ok.step s) j w⟩
theorem lc_imp {mi : Ev → M (List D)} {g : GM} {js : List Nat} {t : Ev → M Bool} {me : EM} {own : List (Str × Nat)} (hj : ∀ j ∈ js, j ∈ own.map (·.2)) {σ : L2.St} {H : Hp} {Q : VK} (h : tO k E (mComp mi g t me (own.map (·.2))) σ H Q) :
    tLc (tI k E mi) (gM k js g) (tT k EF t) (tM k EF me) (own.map (·.2)) σ H Q := by
  obtain ⟨F, Γ, st, ok0, w⟩ := h
  refine tI.then_ ok0 w fun J xs F1 H1 st1 s1 ok1 jk w1 => ?_
  have hz : xs.length ≤ sizeLine := by
    by_cases h : xs.length ≤ sizeLine
    · exact h
    · rw [decide_eq_false h] at w1; exact w1.elim
  rw [decide_eq_true hz] at w1
  have w1 : Wp k E σ F1 H1 (compL g t me (wipeE Γ (own.map (·.2))) xs st1) fun xs F' H' _ => ∀ a vs, H' a = some (.lst vs) → F' a = none → H a = none → Reps k F' vs xs → Q (.ref a) H' := w1
  intro D nD
  have nd1 : ¬ k.hot D := ok1.cold nD
  have hD0 : H D = none := s1.back nD
  have fD1 : F1 D = none := ok1.fnone nD
  have s0 := Step.mut (ob := .lst []) ok1.refl nD fD1 nd1 (.inl nD)
  refine ⟨fun i m H2 => m = xs.length - i ∧ i ≤ xs.length ∧ ∃ F2 st2 accV accD, Step k F1 H1 F2 H2 st2 ∧ H2 D = some (.lst accV) ∧ F2 D = none ∧ Reps k F2 accV accD ∧ accV.length ≤ i ∧
      Wp k E σ F1 H1 (onto accD (compL g t me (wipeE Γ (own.map (·.2))) (xs.drop i) st2)) fun xs F' H' _ => ∀ a vs, H' a = some (.lst vs) → F' a = none → H a = none → Reps k F' vs xs → Q (.ref a) H',
    ⟨_, rfl, Nat.zero_le _, F1, st1, [], [], s0, upd_same, fD1, .nil, Nat.zero_le _, by rw [onto_nil]; exact w1⟩, ?_⟩
  rintro i m H2 ⟨rfl, hi, F2, st2, accV, accD, s2, h2, f2, r2, l2, w2⟩
  have ok2 := ok1.step s2
  by_cases hlt : i < xs.length
  · refine .inr ⟨jk.go i F2 H2 s2.ext s2.sub ok2.bsub hlt, fun H3 => i + 1 ≤ xs.length ∧ ∃ F3 st3 accV accD, Step k F1 H1 F3 H3 st3 ∧ H3 D = some (.lst accV) ∧ F3 D = none ∧ Reps k F3 accV accD ∧ accV.length ≤ i + 1 ∧
        Wp k E σ F1 H1 (onto accD (compL g t me (wipeE Γ (own.map (·.2))) (xs.drop (i + 1)) st3)) fun xs F' H' _ => ∀ a vs, H' a = some (.lst vs) → F' a = none → H a = none → Reps k F' vs xs → Q (.ref a) H', ?_, ?_⟩
    · rintro H3 ⟨hi3, n⟩
      exact ⟨_, by omega, rfl, hi3, n⟩
    · intro x H3 y
      obtain ⟨d, F3, e, s3, r⟩ := jk.yld i x F2 H2 H3 σ Γ st2 s2.ext ok2 hlt y
      have ok3 := ok2.step s3
      have s13 := ok1.trans s2 s3
      have ed : xs.drop i = d :: xs.drop (i + 1) := by
        obtain ⟨q1, q2⟩ := List.getElem?_eq_some_iff.mp e
        rw [← q2]
        exact List.drop_eq_getElem_cons q1
      rw [ed] at w2
      unfold compL at w2
      have hw := ok3.wipe (own.map (·.2))
      cases eg : g d (wipeE Γ (own.map (·.2))) with
      | none => rw [eg] at w2; exact w2.elim
      | some Γ3 =>
        rw [eg] at w2
        refine ⟨d, F3, wipeE Γ (own.map (·.2)), Γ3, hw.sub, hw.len, r, eg, fun σ3 u => ?_⟩
        refine ⟨?_, ?_⟩
        · have e1 : wipe σ3 (own.map (·.2)) = wipe (wipe σ (own.map (·.2))) (own.map (·.2)) := wipe_same u.len fun j hj' => by
            rcases u.cases j with ⟨_, _, _, _, _, q⟩ | ⟨q, _⟩
            · exact absurd (hj j q) hj'
            · exact q
          rw [e1]
          exact wipe_same (wipe_length _ _) fun j hj' => wipe_other hj'
        have okU := hw.upd u
        have w2 : Wp k E σ F1 H1 (onto accD ((nxM (t Γ3) st2).bind fun c st => (if c = true then (do
            let y ← nxM (me Γ3)
            let r ← compL g t me (wipeE Γ (own.map (·.2))) (xs.drop (i + 1))
            pure (y :: r)) else compL g t me (wipeE Γ (own.map (·.2))) (xs.drop (i + 1)) : M (List FL.D)) st)) _ := w2
        rw [onto_bind] at w2
        obtain ⟨c, st4, et, w4⟩ := Wp.nx_ok w2
        refine ⟨F3, Γ3, st2, okU, ?_⟩
        rw [et]
        intro F4 H4 s4
        have ok4 := ok3.step s4
        have okU4 := okU.step s4
        have s14 := ok1.trans s13 s4
        have hD2 := s3.stay D _ h2 nd1 ltbl
        have hD4 := s4.stay D _ hD2 nd1 ltbl
        have fD4 := s4.nof _ _ hD2 (s3.nof _ _ h2 f2)
        have r4 : Reps k F4 accV accD := (r2.mono s3.ext).mono s4.ext
        cases c with
        | false => exact iteF ⟨hlt, F4, st4, accV, accD, s14, hD4, fD4, r4, by omega, w4⟩
        | true =>
          refine iteT ?_
          have w4 : Wp k E σ F1 H1 (onto accD ((nxM (me Γ3) st4).bind fun y st => (compL g t me (wipeE Γ (own.map (·.2))) (xs.drop (i + 1)) st).bind fun r st => .ok (y :: r) st)) _ := w4
          rw [onto_bind] at w4
          obtain ⟨y, st5, ee, w5⟩ := Wp.nx_ok w4
          rw [onto_cons] at w5
          refine ⟨F4, Γ3, st4, okU4, ?_⟩
          rw [ee]
          intro F5 H5 s5 v rv
          have hD5 := s5.stay D _ hD4 nd1 ltbl
          have fD5 := s5.nof _ _ hD4 fD4
          have s16 := Step.mut (ob := .lst (accV ++ [v])) (ok1.trans s14 s5) nD fD5 nd1 (.inr ⟨_, hD5⟩)
          exact ⟨accV, hD5, by omega, hlt, F5, st5, accV ++ [v], accD ++ [y], s16, upd_same, fD5, (r4.mono s5.ext).append (.cons rv .nil), by simp; omega, w5⟩
  · have e : i = xs.length := by omega
    subst e
    refine .inl ⟨jk.stop _ F2 H2 s2.ext s2.sub ok2.bsub (Nat.le_refl _), ?_⟩
    rw [List.drop_length] at w2
    have w2 : Wp k E σ F1 H1 (.ok (accD ++ []) st2) _ := w2
    rw [List.append_nil] at w2
    exact w2 F2 H2 s2 D accV h2 f2 hD0 r2

theorem o_comp {elt tg iter : Expr} {ifs : List Expr} {scope : Scope} {own : List (Str × Nat)} {mi : Ev → M (List D)} {g : GM} {js : List Nat} {t : Ev → M Bool} {me : EM} (hc : X.calm = true) (hN : X.N.Nodup) (hi : PI X tg iter (tI k E mi)) (ok : BlkOk X.N X.env.scope scope own)
    (hj : ∀ j ∈ js, j ∈ own.map (·.2))
    (hg : ∀ (s : Shared) (H : Hp) (C : Addr) (cl : List (Str × Addr)) (fp : List Addr), PG (X.blk s H scope (compEnvC scope cl C X.env) fp) tg (gM k js g)) (ht : ∀ (s : Shared) (H : Hp) (C : Addr) (cl : List (Str × Addr)) (fp : List Addr), PTs (X.blk s H scope (compEnvC scope cl C X.env) fp) ifs (tT k EF t))
    (he : ∀ (s : Shared) (H : Hp) (C : Addr) (cl : List (Str × Addr)) (fp : List Addr), PE (X.blk s H scope (compEnvC scope cl C X.env) fp) elt (tM k EF me)) (hs : ∀ x, foldedSetIterable iter X.env x = pure x := by intro _; rfl) :
    PE X (.ListComp elt [⟨tg, iter, ifs, 0⟩] scope pos) (tO k E (mComp mi g t me (own.map (·.2)))) := PE.weak (pe_lc hc hN hi ok hg ht he hs) fun σ H Q => lc_imp hj
/-! ### subscripts -/
def gIx : M2 := fun d e st => match d, e with
  | .lst xs, .int i => (match atI xs i with | some z => .ok z st | none => .stuck)
  | .tup xs, .int i => (match atI xs i with | some z => .ok z st | none => .stuck)
  | .bor xs, .int i => (match atI xs i with | some z => .ok z st | none => .stuck)
  | .str z, .int i => if decide (z.length ≤ sizeLine) then (match atI z.cps.toList i with | some c => .ok (.str ⟨#[c]⟩) st | none => .stuck) else .stuck
  | _, _ => .stuck
theorem Reps.atI {F : Hp} {vs : List V} {ds : List D} {i : Int} {d : D} (r : Reps k F vs ds) (h : L2.atI ds i = some d) : ∃ v, L2.atI vs i = some v ∧ Rep k F v d := by
  unfold L2.atI at h ⊢
  rw [r.length]
  cases e : ixN ds.length i with
  | none => rw [e] at h; cases h
  | some j =>
    rw [e] at h
    obtain ⟨v, e1, e2⟩ := r.getD (i := j) h
    exact ⟨v, e1, e2⟩
theorem ix_use (hk : k.K = X.K) {σ : L2.St} {F H : Hp} {Γ : Ev} {st : DS} {x y : V} {d e : D} {Q : VK} (ok : Ok k F H σ Γ st) (rx : Rep k F x d) (ry : Rep k F y e) (w : Wp k E σ F H (gIx d e st) (qD k Q)) : rIx X.K x y H Q := by
  unfold gIx at w
  split at w
  · rename_i xs i
    split at w
    · rename_i z hz
      cases ry
      cases rx with
      | lst h r =>
        obtain ⟨v, e1, e2⟩ := r.atI hz
        exact .inl ⟨_, _, _, _, rfl, rfl, SqL.of (ok.sub _ _ h), e1, w F H ok.refl _ e2⟩
    · exact w.elim
  · rename_i xs i
    split at w
    · rename_i z hz
      cases ry
      cases rx with
      | tup h r =>
        obtain ⟨v, e1, e2⟩ := r.atI hz
        rw [hk] at h
        exact .inr (.inl ⟨_, _, _, _, rfl, rfl, sqt_mono ok.sub h, e1, w F H ok.refl _ e2⟩)
    · exact w.elim
  · rename_i xs i
    split at w
    · rename_i z hz
      cases ry
      cases rx with
      | bor h r =>
        obtain ⟨v, e1, e2⟩ := r.atI hz
        exact .inl ⟨_, _, _, _, rfl, rfl, SqL.of (ok.bsub _ _ h), e1, w F H ok.refl _ e2⟩
    · exact w.elim
  · rename_i z i
    split at w
    · rename_i hl
      split at w
      · rename_i c hc
        cases ry
        cases rx
        exact .inr (.inr ⟨_, _, _, rfl, rfl, of_decide_eq_true hl, hc, w F H ok.refl _ (.str _)⟩)
      · exact w.elim
    · exact w.elim
  · exact w.elim
theorem e_ix {a b : Expr} {ma mb : EM} (ha : PE X a (tM k E ma)) (hb : PE X b (tM k E mb)) (hs : PlainIx b := by exact fun _ _ => rfl) (hk : k.K = X.K := by rfl) : PE X (.Subscript a b pos) (tM k E (mOp gIx ma mb)) :=
  PE.weak (pe_ix ix_seq ha hb hs) fun σ H Q h => tM.two (fun {E σ F H Γ st x y d e Q} => ix_use hk) h
def cutA {α : Type} (xs : List α) (lo hi : Option Int) : List α := (xs.drop (HT.sIx xs.length 0 lo)).take (HT.sIx xs.length xs.length hi - HT.sIx xs.length 0 lo)
theorem Reps.cut {F : Hp} {vs : List V} {ds : List D} (r : Reps k F vs ds) (lo hi : Option Int) : Reps k F (cutV vs lo hi) (cutA ds lo hi) := by
  unfold cutV cutA
  rw [r.length]
  exact (r.drop _).take _
def tP (k : Kx) (E : XE) (m : Ev → M (Option Int)) : TO := fun σ H Q => ∃ F Γ st, Ok k F H σ Γ st ∧ Wp k E σ F H (m Γ st) fun o _ H' _ => Q o H'
def mNoP : Ev → M (Option Int) := fun _ => pure none
def gInt : D → M Int := fun d st => match d with
  | .int i => .ok i st
  | _ => .stuck
def mSomeP (me : EM) : Ev → M (Option Int) := fun Γ => do
  let d ← me Γ
  let i ← gInt d
  pure (some i)
theorem PO.weak {o : Option Expr} {t t' : TO} (h : PO X o t) (q : ∀ σ H Q, t' σ H Q → t σ H Q) : PO X o t' := ⟨fun pins s σ H Q I w => h.run pins s σ H Q I (q _ _ _ w)⟩
theorem p_none : PO X none (tP k E mNoP) := PO.weak po_none fun σ H Q ⟨F, Γ, st, ok, w⟩ => w F H ok.refl
theorem p_some {me : EM} (h : PE X e (tM k E me)) : PO X (some e) (tP k E (mSomeP me)) := PO.weak (po_some h) fun σ H Q ⟨F, Γ, st, ok, w⟩ => tM.then_ ok w fun v d F1 H1 st1 s1 ok1 r1 w1 => by
  have w1 : Wp k E σ F1 H1 ((gInt d st1).bind fun i => (pure (some i) : M (Option Int))) fun o _ H' _ => Q o H' := w1
  unfold gInt at w1
  split at w1
  · cases r1
    exact ⟨_, rfl, w1 F1 H1 ok1.refl⟩
  · exact w1.elim
theorem tP.then_ {F H : Hp} {σ : L2.St} {Γ : Ev} {st : DS} {mi : Ev → M (Option Int)} {α : Type} {f : Option Int → M α} {R : α → Hp → Hp → DS → Prop} {Q : Option Int → Hp → Prop} (ok : Ok k F H σ Γ st) (h : Wp k E σ F H ((mi Γ >>= f) st) R)
    (q : ∀ o F1 H1 st1, Step k F H F1 H1 st1 → Ok k F1 H1 σ Γ st1 → Wp k E σ F1 H1 (f o st1) R → Q o H1) : tP k E mi σ H Q :=
  ⟨F, Γ, st, ok, (Wp.bind (f := f) ok h).mono fun d F1 H1 st1 s w => q d F1 H1 st1 s (ok.step s) w⟩
/-- x[lo:hi] of a list, a tuple -/
def gSl : D → Option Int → Option Int → M D := fun d lo hi st => match d with
  | .lst xs => .ok (.lst (cutA xs lo hi)) st
  | .tup xs => .ok (.tup (cutA xs lo hi)) st
  | .bor xs => .ok (.lst (cutA xs lo hi)) st
  | .kl xs => .ok (.lst (cutA xs lo hi)) st
  | _ => .stuck
def mSl (me : EM) (ml mh : Ev → M (Option Int)) : EM := fun Γ => do
  let d ← me Γ
  let lo ← ml Γ
  let hi ← mh Γ
  gSl d lo hi
theorem cut_whole {α : Type} {xs : List α} {lo hi : Option Int} (h : HT.sIx xs.length 0 lo = 0 ∧ HT.sIx xs.length xs.length hi = xs.length) : cutA xs lo hi = xs := by
  unfold cutA
  rw [h.1, h.2]
  simp
theorem e_sl {lo hi : Option Expr} {me : EM} {ml mh : Ev → M (Option Int)} {p2 : Pos} (he : PE X e (tM k E me)) (hl : PO X lo (tP k E ml)) (hu : PO X hi (tP k E mh)) (hk : k.K = X.K := by rfl) : PE X (.Subscript e (.Slice lo hi none p2) pos) (tM k E (mSl me ml mh)) :=
  PE.weak (pe_slice (sl_list.or sl_tupA) he hl hu) fun σ H Q ⟨F, Γ, st, ok, w⟩ => tM.then_ ok w fun v d F1 H1 st1 s1 ok1 r1 w1 => tP.then_ ok1 w1 fun lo F2 H2 st2 s2 ok2 w2 => tP.then_ ok2 w2 fun hi F3 H3 st3 s3 ok3 w3 => by
    have r3 := (r1.mono s2.ext).mono s3.ext
    unfold gSl at w3
    split at w3
    · cases r3 with
      | lst h r =>
        refine .inl ⟨_, _, rfl, SqL.of (ok3.sub _ _ h), fun p np => ?_⟩
        exact w3 _ _ (ok3.new np) _ (.lst upd_same ((r.cut lo hi).mono (ok3.new np).ext))
    · cases r3 with
      | @tup _ vs _ h r =>
        rw [hk] at h
        refine .inr ⟨_, _, rfl, sqt_mono ok3.sub h, fun z => ?_, fun z p np => ?_⟩
        · rw [r.length] at z
          rw [cut_whole z] at w3
          exact w3 _ _ ok3.refl _ (.tup (by rw [hk]; exact h) r)
        · exact w3 _ _ (ok3.new np) _ (.tup (SqT.of upd_same) ((r.cut lo hi).mono (ok3.new np).ext))
    · cases r3 with
      | bor h r =>
        refine .inl ⟨_, _, rfl, SqL.of (ok3.bsub _ _ h), fun p np => ?_⟩
        exact w3 _ _ (ok3.new np) _ (.lst upd_same ((r.cut lo hi).mono (ok3.new np).ext))
    · cases r3 with
      | kl h r =>
        refine .inl ⟨_, _, rfl, sql_mono ok3.sub (hk ▸ h), fun p np => ?_⟩
        exact w3 _ _ (ok3.new np) _ (.lst upd_same ((r.cut lo hi).mono (ok3.new np).ext))
    · exact w3.elim
end
end FL

/-! FL5: defs: what they promise, how they are entered, how they are called -/
namespace FL
open PySem PySem.Spec PyProof.Rows L2

def spM (K : PySem.W.Frag) (T : List (Addr × Str)) (g : List D → M D) : Sp := fun vs H Q E => ∃ on dl cl B F ds st, Ok ⟨K, on, dl, cl, B, T⟩ F H [] [] st ∧ Reps ⟨K, on, dl, cl, B, T⟩ F vs ds ∧ Wp ⟨K, on, dl, cl, B, T⟩ (fun _ => E) [] F H (g ds st) (qD ⟨K, on, dl, cl, B, T⟩ Q)
def startE (n : Nat) (ds : List D) : Ev := ds.map (fun d => some (.dat d)) ++ List.replicate (n - ds.length) none
def kRet : Fl → M D := fun r st => match r with
  | .nx _ => .ok .non st
  | .rt d => .ok d st
  | _ => .stuck
/-- n names, np of them parameters -/
def fnM (np n : Nat) (mb : SM) : List D → M D := fun ds => if ds.length = np then (do
    let r ← nxM (mb (startE n ds))
    kRet r) else halt
section
variable {P : Program} {w : World} {K : PySem.W.Frag} {T : List (Addr × Str)} {mg : Str → Option Value} {base : Heap}
theorem Reps.slot {k : Kx} {F : Hp} {vs : List V} {ds : List D} {n : Nat} (r : Reps k F vs ds) {i : Nat} {x : Sl} (h : (startE n ds)[i]? = some (some x)) : ∃ v d, (vs.map some ++ List.replicate (n - vs.length) none)[i]? = some (some v) ∧ x = .dat d ∧ Rep k F v d := by
  unfold startE at h
  by_cases hi : i < ds.length
  · rw [List.getElem?_append_left (by simpa using hi), List.getElem?_map] at h
    cases e : ds[i]? with
    | none => rw [e] at h; cases h
    | some d =>
      rw [e] at h
      cases h
      obtain ⟨v, e1, e2⟩ := r.getD e
      exact ⟨v, d, by rw [List.getElem?_append_left (by simp; rw [r.length]; exact hi), List.getElem?_map, e1]; rfl, rfl, e2⟩
  · rw [List.getElem?_append_right (by simp; omega)] at h
    rw [List.getElem?_replicate] at h
    split at h <;> cases h
/-- a def keeps g; it is entered while no repr runs -/
structure FnG (P : Program) (w : World) (K : PySem.W.Frag) (T : List (Addr × Str)) (mg : Str → Option Value) (base : Heap) (j : Nat) (f : Addr) (fd : FuncData) (ps : List Str) (g : List D → M D) : Prop where
  len : ∀ ds st, ds.length ≠ ps.length → g ds st = .stuck
  go : ∀ (A : Around) (outs : List Env) (s : Shared) (H : Hp) (args : Args) (us : List Value) (vs : List V) (Q : VK) (E : XK), Room j A → A.guards = some [] → Env0 P w K mg base A outs s H → BindsTo s fd args (ps.zip us) →
    Vals vs us → spM K T g vs H Q E → codeAny (model P w) A (.call (.ref f) args) (CR (L2.CX P w) outs P w H s Q E) s
theorem spM.len {T : List (Addr × Str)} {g : List D → M D} {n : Nat} (hg : ∀ ds st, ds.length ≠ n → g ds st = .stuck) {vs : List V} {H : Hp} {Q : VK} {E : XK} (h : spM K T g vs H Q E) : vs.length = n := by
  obtain ⟨on, dl, cl, B, F, ds, st, ok, r, w⟩ := h
  rw [r.length]
  by_cases e : ds.length = n
  · exact e
  · rw [hg ds st e] at w
    exact w.elim
theorem FnG.up {i j : Nat} {f : Addr} {fd : FuncData} {ps : List Str} {g : List D → M D} (Fn : FnG P w K T mg base i f fd ps g) (h : i ≤ j) : FnG P w K T mg base j f fd ps g :=
  ⟨Fn.len, fun A outs s H args us vs Q E hr => Fn.go A outs s H args us vs Q E (hr.mono h)⟩
/-- by another function that answers the same where it answers -/
theorem FnG.by {j : Nat} {f : Addr} {fd : FuncData} {ps : List Str} {g g' : List D → M D} (Fn : FnG P w K T mg base j f fd ps g) (h : ∀ ds st, g' ds st ≠ .stuck → g ds st = g' ds st) : FnG P w K T mg base j f fd ps g' := by
  refine ⟨fun ds st e => ?_, fun A outs s H args us vs Q E hr gd e0 hb r ⟨on, dl, cl, B, F, ds, st, ok, rr, w⟩ => Fn.go A outs s H args us vs Q E hr gd e0 hb r ⟨on, dl, cl, B, F, ds, st, ok, rr, ?_⟩⟩
  · have q := Fn.len ds st e
    by_cases z : g' ds st = .stuck
    · exact z
    · rw [h ds st z] at q
      exact q
  · by_cases z : g' ds st = .stuck
    · rw [z] at w
      exact w.elim
    · rw [h ds st z]
      exact w
/-- a def is entered, its promise sp told at the very state -/
theorem go_def {x qual : Str} {st : Stmt} {f : Addr} {fd : FuncData} {N ps : List Str} {j : Nat} {sp : Sp} (Fn : Fun K x qual st f fd) (S : FnScope N ps (defScope st)) (hl : ∀ vs H Q E, sp vs H Q E → vs.length = ps.length)
    (body : ∀ (cdv : Value) (A : Around) (outs : List Env) (s : Shared) (H : Hp) (vs : List V) (Q : VK) (E : XK), fd.code = cdv → Room j (A.deeper (envOfC qual (defScope st) s.heap.objs.size f cdv)) → A.guards = some [] → sp vs H Q E →
      ∃ t, PSs (cxOf (L2.CX P w) P w K mg base N qual (defScope st) f cdv A outs s H E) (defBody st) t ∧ t { nx := fun _ H' => Q .non H', rt := Q } (L2.start N vs) H) (A : Around) (outs : List Env) (s : Shared) (H : Hp) (args : Args) (us : List Value) (vs : List V) (Q : VK) (E : XK)
    (room : Room (j + 1) A) (gd : A.guards = some []) (env : Env0 P w K mg base A outs s H) (bind : BindsTo s fd args (ps.zip us)) (rel : Vals vs us) (sp : sp vs H Q E) : codeAny (model P w) A (.call (.ref f) args) (CR (L2.CX P w) outs P w H s Q E) s := by
  obtain ⟨oc, od, kV, dc, pm, an, cdv, ct, osl, efd, look, isCode⟩ := Fn.ex
  subst efd
  have inK : K.In s.heap := env.mod.kin.keeps fun b o q => (env.bs b o q).1
  have lens := hl _ _ _ _ sp
  have kinds : ∀ y ∈ ps.zip us, (defScope st).names.lookup y.1 = some .local ∨ ((defScope st).names.lookup y.1 = some .cell ∧ ((cellsFrom (s.heap.objs.size + 1) (defScope st).names []).lookup y.1).isSome = true) := by
    rintro ⟨n, v⟩ hy
    have := S.par n (List.of_mem_zip hy).1
    rcases this with l | l
    · exact Or.inl l
    · exact Or.inr ⟨l, PySem.W.cellsFrom_some _ _ _ (Or.inl l)⟩
  refine codeAny_call_function room.depth (inK _ _ look) rfl S.co S.gen rfl (PySem.W.codeRec_of inK isCode) ?_
  refine bind _ _ _ _ (wpAny_newFunctionEnv_cells S.kind kinds ?_)
  rintro env' rfl s' entered
  refine ⟨(env.mod.nolimit.keeps fun b o q => (env.bs b o q).1).keeps entered.toInCall.keep, codeAny_func ?_⟩
  obtain ⟨t, walk, hold⟩ := body cdv A outs s H vs Q E rfl (room.deeper _) gd sp
  have I := inv_start (CX := L2.CX P w) (E := E) S room.hd env lens rel entered
  refine wpAny_mono (walk.run [] s' (L2.start N vs) H _ I hold) (fun fl s2 hs => ?_) (fun _ _ q => q)
  cases fl with
  | next => exact let ⟨_, H', J, q⟩ := hs; ⟨V.non, H', J.os, J.bare, J.base, J.hok, rfl, q⟩
  | ret u => exact let ⟨v, _, H', J, rv, q⟩ := hs; ⟨v, H', J.os, J.bare, J.base, J.hok, rv, q⟩
  | brk => exact let ⟨_, _, _, q⟩ := hs; False.elim q
  | cont => exact let ⟨_, _, _, q⟩ := hs; False.elim q
/-- a def, by its body's readings at each entry -/
theorem fng_of {x qual : Str} {st : Stmt} {f : Addr} {fd : FuncData} {N ps : List Str} {j : Nat} {g : List D → M D} (Fn : Fun K x qual st f fd) (S : FnScope N ps (defScope st)) (hl : ∀ ds st, ds.length ≠ ps.length → g ds st = .stuck)
    (body : ∀ (cdv : Value) (A : Around) (outs : List Env) (s : Shared) (H : Hp) (vs : List V) (Q : VK) (E : XK), Room j (A.deeper (envOfC qual (defScope st) s.heap.objs.size f cdv)) → A.guards = some [] → spM K T g vs H Q E →
      ∃ t, PSs (cxOf (L2.CX P w) P w K mg base N qual (defScope st) f cdv A outs s H E) (defBody st) t ∧ t { nx := fun _ H' => Q .non H', rt := Q } (L2.start N vs) H) : FnG P w K T mg base (j + 1) f fd ps g :=
  ⟨hl, go_def Fn S (fun _ _ _ _ => spM.len hl) fun cdv A outs s H vs Q E _ => body cdv A outs s H vs Q E⟩
/-- what a body's states are at its entry -/
theorem start_ok {on : Bool} {dl cl : Addr} {B F H : Hp} {N ps : List Str} {vs : List V} {ds : List D} {st0 : DS} (ok : Ok ⟨K, on, dl, cl, B, T⟩ F H [] [] st0) (r : Reps ⟨K, on, dl, cl, B, T⟩ F vs ds) (hN : ds.length ≤ N.length) :
    OkS ⟨K, on, dl, cl, B, T⟩ F H F F H (L2.start N vs) (startE N.length ds) st0 := by
  refine ⟨⟨ok.sub, ok.at_, ok.hid, ok.bsub, ok.blst, ok.tabs, ok.ftbl, by simp [L2.start, startE, r.length], fun i y e => ?_, fun i j xs ys a e1 => ?_⟩, Same.refl _, Same.refl _, fun _ _ h _ _ => h, fun _ o h => ⟨o, h⟩, fun _ _ _ g => g, fun i xs a e1 => ?_, ⟨st0, ok⟩⟩
  · obtain ⟨v, d, e1, e2, e3⟩ := r.slot e
    subst e2
    exact ⟨v, e1, e3⟩
  · obtain ⟨v, d, _, e2, _⟩ := r.slot e1
    cases e2
  · obtain ⟨v, d, _, e2, _⟩ := r.slot e1
    cases e2
theorem scope_len {N ps : List Str} {sc : Scope} (S : FnScope N ps sc) : ps.length ≤ N.length := by
  have := congrArg List.length S.pre
  rw [List.length_take] at this
  omega
/-- .. where its code object is of weight -/
theorem ok_defC {x qual : Str} {st : Stmt} {f : Addr} {fd : FuncData} {N ps : List Str} {j : Nat} {mb : SM} (Fn : Fun K x qual st f fd) (S : FnScope N ps (defScope st))
    (hb : ∀ (cdv : Value) (A : Around) (outer : List Env) (s : Shared) (H : Hp) (E : XK) (on : Bool) (dl cl : Addr) (B : Hp), fd.code = cdv → Room j (A.deeper (envOfC qual (defScope st) s.heap.objs.size f cdv)) → (A.deeper (envOfC qual (defScope st) s.heap.objs.size f cdv)).guards = some [] →
      PSs (cxOf (L2.CX P w) P w K mg base N qual (defScope st) f cdv A outer s H E).nox (defBody st) (tS ⟨K, on, dl, cl, B, T⟩ EF mb)) : FnG P w K T mg base (j + 1) f fd ps (fnM ps.length N.length mb) := by
  have len : ∀ ds st, ds.length ≠ ps.length → fnM ps.length N.length mb ds st = .stuck := fun ds st e => by unfold fnM; rw [if_neg e]; rfl
  refine ⟨len, go_def Fn S (fun _ _ _ _ => spM.len len) fun cdv A outs s H vs Q E hcd hr gd ⟨on, dl, cl, B, F, ds, st0, ok, r, h⟩ => ⟨_, (hb cdv A outs s H E on dl cl B hcd hr gd).nox, ?_⟩⟩
  unfold fnM at h
  split at h
  · rename_i el
    refine ⟨F, H, F, F, startE N.length ds, st0, start_ok (ps := ps) ok r (by rw [el]; exact scope_len S), ?_⟩
    have h : Wp ⟨K, on, dl, cl, B, T⟩ (fun _ => E) [] F H ((nxM (mb (startE N.length ds)) st0).bind kRet) (qD ⟨K, on, dl, cl, B, T⟩ Q) := h
    unfold nxM at h
    revert h
    cases mb (startE N.length ds) st0 with
    | ok r' st' =>
      cases r' with
      | nx Γ' => exact fun h σ' F' H' o => h F' H' o.toStep _ .non
      | rt d => exact fun h v F' H' s rv => h F' H' s v rv
      | bk Γ' => exact fun h => h.elim
      | ct Γ' => exact fun h => h.elim
      | xc C fs Γ' => exact fun h => h.elim
    | err C fs st' => exact fun h => h.elim
    | stuck => exact fun h => h.elim
  · exact h.elim
/-- a def that lets nothing out -/
theorem ok_def {x qual : Str} {st : Stmt} {f : Addr} {fd : FuncData} {N ps : List Str} {j : Nat} {mb : SM} (Fn : Fun K x qual st f fd) (S : FnScope N ps (defScope st))
    (hb : ∀ (cdv : Value) (A : Around) (outer : List Env) (s : Shared) (H : Hp) (E : XK) (on : Bool) (dl cl : Addr) (B : Hp), Room j (A.deeper (envOfC qual (defScope st) s.heap.objs.size f cdv)) → (A.deeper (envOfC qual (defScope st) s.heap.objs.size f cdv)).guards = some [] →
      PSs (cxOf (L2.CX P w) P w K mg base N qual (defScope st) f cdv A outer s H E).nox (defBody st) (tS ⟨K, on, dl, cl, B, T⟩ EF mb)) : FnG P w K T mg base (j + 1) f fd ps (fnM ps.length N.length mb) :=
  ok_defC Fn S fun cdv A outer s H E on dl cl B _ => hb cdv A outer s H E on dl cl B
end

section
variable {X : Cx} {k : Kx} {E : XE} {e : Expr} {es : List Expr} {mr mk : Ev → M (List D)} {pos p : Pos} {x : Str} {j : Nat} {f : Addr} {fd : FuncData} {ps : List Str} {g : List D → M D}
theorem Ok.bare {F H : Hp} {σ : L2.St} {Γ : Ev} {st : DS} (o : Ok k F H σ Γ st) : Ok k F H [] [] st := ⟨o.sub, o.at_, o.hid, o.bsub, o.blst, o.tabs, o.ftbl, rfl, fun i x e => by simp at e, fun i j xs ys a e => by simp at e⟩
theorem sp_use (hk : k.K = X.K) {F H : Hp} {σ : L2.St} {Γ : Ev} {st : DS} {vs : List V} {ds : List D} {Q : VK} (ok : Ok k F H σ Γ st) (r : Reps k F vs ds) (w : Wp k E σ F H (nxM (g ds) st) (qD k Q)) : spM X.K k.T g vs H Q E0 := by
  obtain ⟨K', on, dl, cl, B, T⟩ := k
  have hk : K' = X.K := hk
  subst hk
  refine ⟨on, dl, cl, B, F, ds, st, ok.bare, r, ?_⟩
  unfold nxM at w
  revert w
  cases g ds st with
  | ok a st' => exact fun w => w
  | err C fs st' => exact fun w => w.elim
  | stuck => exact fun w => w
/-- the callee runs -/
theorem go_fn {pins : List (Addr × Obj)} {σ : L2.St} {H : Hp} {s : Shared} {Q : VK} {args : Args} {us : List Value} {vs : List V} {E' : XK} (Fn : FnG X.prog X.w X.K k.T X.mg X.base j f fd ps g) (hr : Room j X.A) (gd : X.A.guards = some []) (hx : PassesAt (L2.CX X.prog X.w) X σ E')
    (I : Inv X pins σ H s) (r : Vals vs us) (b : BindsTo s fd args (ps.zip us)) (h : spM X.K k.T g vs H Q E') : wpAny (model X.prog X.w) X.A (call (.ref f) args.pos args.kw) (EP X pins σ Q) X.xe s := by
  have run := Fn.go X.A X.stack s H args us vs Q E' hr gd I.env0 b r h
  refine wpAny_call (codeAny_mono run ?_)
  intro res s' after
  match res, after with
  | .error e, after => exact hx pins H s e s' I after
  | .ok (.ret u), after => exact I.after after
  | .ok .next, after => exact False.elim after
  | .ok .brk, after => exact False.elim after
  | .ok .cont, after => exact False.elim after
theorem pass0At {σ : L2.St} : PassesAt (L2.CX X.prog X.w) X σ E0 := fun pins H s e s' I c => passL pins σ H s e s' I c
theorem pe_fn {E' : L2.St → XK} {t : TA} (Fn : FnG X.prog X.w X.K k.T X.mg X.base j f fd ps g) (hr : Room j X.A) (gd : X.A.guards = some []) (hg : Gl X x) (hm : X.mg x = some (.ref f)) (hk : PySem.W.keepIn X.K (.ref f) = true) (hb : Binds X.K fd ps []) (hx : ∀ σ, PassesAt (L2.CX X.prog X.w) X σ (E' σ))
    (ha : PA X (e :: es) t) (hdb : (x == ("__debug__" : Str)) = false := by decide) (he : starEach (e :: es) X.env = (false, eval e X.env) :: starEach es X.env := by rfl) (hpl : (backTo pos (starEach es X.env)).any (·.1) = false := by rfl) :
    PE X (.Call (.Name x p) (e :: es) [] pos) (fun σ H Q => t σ H fun vs H1 => spM X.K k.T g vs H1 Q (E' σ)) := ⟨fun pins s σ H Q I hq =>
  wpAny_Call_Name_kw (ld_glob I hg hm (PySem.W.callWith_K (h₀ := X.base) I.ok.mod.kin hk (thn (ha.run pos pins s σ H _ I hq) fun us s1 ⟨vs, H1, I1, r, q⟩ => ⟨I1.kIn, by
    have hl : us.length = ps.length := by rw [← r.length]; exact spM.len Fn.len q
    have b := hb s1 us I1.kIn (by rw [List.append_nil]; exact hl)
    rw [List.append_nil] at b
    exact go_fn (args := ⟨us, []⟩) Fn hr gd (hx σ) I1 r b q⟩) he hpl) hdb)⟩
theorem e_call (Fn : FnG X.prog X.w X.K k.T X.mg X.base j f fd ps g) (hr : Room j X.A) (gd : X.A.guards = some []) (hg : Gl X x) (hm : X.mg x = some (.ref f)) (hk : PySem.W.keepIn X.K (.ref f) = true) (hb : Binds X.K fd ps [])
    (ha : PA X (e :: es) (tA k E mr)) (hK : k.K = X.K := by rfl) (hdb : (x == ("__debug__" : Str)) = false := by decide) (he : starEach (e :: es) X.env = (false, eval e X.env) :: starEach es X.env := by rfl) (hpl : (backTo pos (starEach es X.env)).any (·.1) = false := by rfl) :
    PE X (.Call (.Name x p) (e :: es) [] pos) (tM k E (mCall (fun ds => nxM (g ds)) mr)) :=
  PE.weak (pe_fn Fn hr gd hg hm hk hb (E' := fun _ => E0) (fun _ => pass0At) ha hdb he hpl) fun σ H Q ⟨F, Γ, st, ok, w⟩ => tA.then_ ok w fun vs ds F1 H1 st1 s ok1 r1 w1 => sp_use hK ok1 r1 w1
/-! keywords alone -/
theorem k_nil : PK X [] (tA k E mNil) := ⟨fun pos pins s σ H Q I ⟨F, Γ, st, ok, w⟩ => pk_nil.run pos pins s σ H Q I (w F H ok.refl _ .nil)⟩
theorem k_cons {nm : Option Str} {kpos : Pos} {kws : List Keyword} {me : EM} (ha : PE X e (tM k E me)) (hr : PK X kws (tA k E mr)) : PK X (⟨nm, e, kpos⟩ :: kws) (tA k E (mCons me mr)) :=
  ⟨fun pos pins s σ H Q I ⟨F, Γ, st, ok, w⟩ => (pk_cons ha hr).run pos pins s σ H Q I (tM.then_ ok w fun v d F1 H1 st1 s1 ok1 r1 w1 => tA.then_ ok1 w1 fun vs ds F2 H2 st2 s2 ok2 r2 w2 => w2 F2 H2 ok2.refl _ (.cons (r1.mono s2.ext) r2))⟩
def pick {α : Type} (π : List Nat) (ws : List α) : List α := if ws.length = π.length then π.filterMap fun i => ws[i]? else []
theorem vals_pick {vs : List V} {us : List Value} (r : Vals vs us) : ∀ π : List Nat, Vals (π.filterMap fun i => vs[i]?) (π.filterMap fun i => us[i]?)
  | [] => .nil
  | i :: π => by
    rw [List.filterMap_cons, List.filterMap_cons]
    cases e : vs[i]? with
    | none => rw [Vals.none_of r e]; exact vals_pick r π
    | some v =>
      obtain ⟨u, e1, e2⟩ := Vals.get r e
      rw [e1]
      exact .cons e2 (vals_pick r π)
theorem Vals.pick {vs : List V} {us : List Value} (r : Vals vs us) (π : List Nat) : Vals (pick π vs) (pick π us) := by
  unfold FL.pick
  rw [r.length]
  split
  · exact vals_pick r π
  · exact .nil
theorem reps_pick {F : Hp} {vs : List V} {ds : List D} (r : Reps k F vs ds) : ∀ π : List Nat, Reps k F (π.filterMap fun i => vs[i]?) (π.filterMap fun i => ds[i]?)
  | [] => .nil
  | i :: π => by
    rw [List.filterMap_cons, List.filterMap_cons]
    cases e : ds[i]? with
    | none =>
      have e' : vs[i]? = none := by rw [List.getElem?_eq_none_iff] at e ⊢; rw [r.length]; exact e
      rw [e']
      exact reps_pick r π
    | some d =>
      obtain ⟨v, e1, e2⟩ := r.getD e
      rw [e1]
      exact .cons e2 (reps_pick r π)
theorem Reps.pick {F : Hp} {vs : List V} {ds : List D} (r : Reps k F vs ds) (π : List Nat) : Reps k F (FL.pick π vs) (FL.pick π ds) := by
  unfold FL.pick
  rw [r.length]
  split
  · exact reps_pick r π
  · exact .nil
/-- keywords alone, in the order π of the parameters -/
theorem kbinds {K : PySem.W.Frag} {fd : FuncData} {ps ks : List Str} (π : List Nat) (hne : ps ≠ [])
    (h : ∀ ws : List Value, ws.length = π.length → bindArgs fd ⟨[], ks.zip ws⟩ = pure (ps.zip (FL.pick π ws))) : KBinds K fd ps ks (fun us ws => if us = [] then FL.pick π ws else []) (fun vs zs => if vs = [] then FL.pick π zs else []) where
  to := fun s us ws hin hl => by
    try dsimp only at hl ⊢
    split at hl
    · rename_i hu
      subst hu
      rw [if_pos rfl]
      unfold FL.pick at hl
      split at hl
      · rename_i hw
        exact .of_eq (h ws hw)
      · exact absurd (List.length_eq_zero_iff.mp hl.symm) hne
    · exact absurd (List.length_eq_zero_iff.mp hl.symm) hne
  rel := fun {vs us zs ws} r rz => by
    try dsimp only
    cases r with
    | nil => rw [if_pos rfl, if_pos rfl]; exact Vals.pick rz π
    | cons _ _ => rw [if_neg (by simp), if_neg (by simp)]; exact .nil
theorem e_callK {kws : List Keyword} {ks : List Str} {π : List Nat} (Fn : FnG X.prog X.w X.K k.T X.mg X.base j f fd ps g) (hr : Room j X.A) (gd : X.A.guards = some []) (hg : Gl X x) (hm : X.mg x = some (.ref f)) (hk : PySem.W.keepIn X.K (.ref f) = true)
    (hb : KBinds X.K fd ps ks (fun us ws => if us = [] then FL.pick π ws else []) (fun vs zs => if vs = [] then FL.pick π zs else [])) (hkw : PK X kws (tA k E mk)) (hK : k.K = X.K := by rfl) (hall : (backToKw pos (keywordEach kws X.env)).all (·.1.isSome) = true := by rfl) (hks : (backToKw pos (keywordEach kws X.env)).filterMap (·.1) = ks := by rfl)
    (hdb : (x == ("__debug__" : Str)) = false := by decide) (hpl : ((backTo pos (starEach [] X.env)).any (·.1) || (backToKw pos (keywordEach kws X.env)).any (·.1.isNone)) = false := by rfl) :
    PE X (.Call (.Name x p) [] kws pos) (tM k E (mCall (fun ds => nxM (g (FL.pick π ds))) mk)) := ⟨fun pins s σ H Q I ⟨F, Γ, st, ok, w⟩ =>
  wpAny_Call_Name_kw (ld_glob I hg hm (PySem.W.callWith_KW0 (h₀ := X.base) I.ok.mod.kin hk hall (thn (hkw.run pos pins s σ H _ I (tA.then_ ok w fun vs ds F1 H1 st1 s ok1 r1 w1 => sp_use (vs := FL.pick π vs) hK ok1 (r1.pick π) w1)) fun ws s2 ⟨zs, H2, I2, rz, q2⟩ =>
    ⟨I2.kIn, by
      rw [hks]
      have rp : Vals (FL.pick π zs) (FL.pick π ws) := Vals.pick rz π
      have hl : (FL.pick π ws).length = ps.length := by rw [← rp.length]; exact spM.len Fn.len q2
      exact go_fn (args := ⟨[], ks.zip ws⟩) Fn hr gd pass0At I2 rp (hb.to s2 [] ws I2.kIn (by rw [if_pos rfl]; exact hl)) q2⟩) hpl) hdb)⟩
end
end FL

/-! FL6: the law's own def, entered from the judge's frame -/
namespace FL
open PySem PySem.Spec PyProof.Rows L2

/-- what is tracked at the entry: the tables of code objects, empty, and the script where it is no known object -/
def entryH (a : Addr) (one : Option HO) (ts : List Addr) : Hp := fun b => if b ∈ ts then some (.tbl #[]) else if b = a then one else none
/-- what a law's def promises: from the script alone it answers True; no exception leaves -/
def LawSp (K : PySem.W.Frag) (T : List (Addr × Str)) (n : Nat) : Sp := fun vs H Q _ => ∃ (a : Addr) (ns : List Int), vs = [.ref a] ∧ SqL K H a (ns.map V.int) ∧ ns.length ≤ n ∧ LamX.Tabs T H ∧ ∀ v H', v = .bl true → Q v H'
/-- .. entered while no repr runs -/
def LawG (P : Program) (w : World) (K : PySem.W.Frag) (T : List (Addr × Str)) (mg : Str → Option Value) (base : Heap) (j : Nat) (f : Addr) (fd : FuncData) (x : Str) (n : Nat) : Prop :=
  ∀ (A : Around) (outs : List Env) (s : Shared) (H : Hp) (args : Args) (us : List Value) (vs : List V) (Q : VK) (E : XK), Room j A → A.guards = some [] → Env0 P w K mg base A outs s H → BindsTo s fd args ([x].zip us) →
    Vals vs us → LawSp K T n vs H Q E → codeAny (model P w) A (.call (.ref f) args) (CR (L2.CX P w) outs P w H s Q E) s
/-- defs whose code objects' tables are tracked: each with its code object, its table and the name that its lambda bears -/
structure Tb where
  of : Str
  code : Addr
  tab : Addr
  nm : Str
abbrev tabsOf (ts : List Tb) : List (Addr × Str) := ts.map fun t => (t.tab, t.nm)

section
variable {P : Program} {w : World} {K : PySem.W.Frag} {mg mb : Str → Option Value} {j n : Nat} {fa a : Addr} {fd : FuncData} {x : Str} {s : Shared} {vs : List Value} {ns : List Int} {ts : List Tb}
/-- what is asked of the heap at the entry -/
structure Gr (K : PySem.W.Frag) (mg : Str → Option Value) (h : Heap) (ts : List Tb) : Prop where
  known : K.In h
  glob : h.Ns mainGlobals mg
  blt : ∃ mb, h.Ns builtinsNs mb ∧ ∀ y : Str, y ≠ "__name__" → mb y = bootBuiltins y
  lim : h.NoLimit
  mod : ∃ (bm : Addr) (ob : Obj), mg "__builtins__" = some (.ref bm) ∧ bm ≠ builtinsNs ∧ h.get? bm = some ob ∧ ob.cls = .type "module" ∧ ob.dict = some builtinsNs ∧ ob.data = .plain
  tabs : ∀ t ∈ ts, PySem.W.CodeHd h t.code t.tab ∧ h.get? t.tab = some (PySem.W.tabObj #[]) ∧ K.lookup t.tab = none
theorem enter_one (one : Option HO) (G : Gr K mg s.heap ts) (ng : s.gens = #[]) (obj : s.heap.get? a = some { cls := .type "list", data := .seq vs.toArray }) (len : ns.length ≤ n) (room : Room j callerA)
    (F : ∀ base : Heap, K.In base → base.Ns mainGlobals mg → (∀ t ∈ ts, LamX.TabB base mg t.code t.tab) → LawG P w K (tabsOf ts) mg base j fa fd x n) (bind : ∀ (s : Shared) (u : Value), BindsTo s fd ⟨[u], []⟩ [(x, u)])
    (seq : SqL K (entryH a one (ts.map (·.tab))) a (ns.map V.int)) (hok : HOk P w (entryH a one (ts.map (·.tab))) s.heap) (what : one = none ∨ (K.lookup a = none ∧ ∃ o, one = some (.frz o (.lst (ns.map V.int))))) :
    codeAny (model P w) callerA (.call (.ref fa) ⟨[.ref a], []⟩) (fun r s' => r = .ok (.ret (.bool true)) ∧ OldK s.heap s'.heap ∧ s'.os = s.os ∧ AllBare s'.gens) s := by
  obtain ⟨H, eH⟩ : ∃ H, H = entryH a one (ts.map (·.tab)) := ⟨_, rfl⟩
  rw [← eH] at seq hok
  have atT : ∀ t ∈ ts, H t.tab = some (.tbl #[]) := fun t ht => by rw [eH]; exact if_pos (List.mem_map_of_mem ht)
  have notT : a ∉ ts.map (·.tab) := fun z => by
    obtain ⟨t, ht, e⟩ := List.mem_map.mp z
    have q := (G.tabs t ht).2.1
    rw [e, obj] at q
    cases (congrArg Obj.data (Option.some.inj q))
  have atA : H a = one := by rw [eH]; unfold entryH; rw [if_neg notT, if_pos rfl]
  have off : ∀ b, b ∉ ts.map (·.tab) → b ≠ a → H b = none := fun b h1 h2 => by rw [eH]; unfold entryH; rw [if_neg h1, if_neg h2]
  -- an object that is neither an empty table nor the script is not tracked
  have free : ∀ (b : Addr) (o : Obj), s.heap.get? b = some o → o.data ≠ .fields #[] → (∀ us m, o.data ≠ .seq us m) → H b = none := fun b o e n1 n2 => by
    refine off b (fun z => ?_) fun z => ?_
    · obtain ⟨t, ht, e2⟩ := List.mem_map.mp z
      have q := (G.tabs t ht).2.1
      rw [e2, e] at q
      cases q
      exact n1 rfl
    · rw [z, obj] at e
      cases e
      exact n2 _ _ rfl
  have up : ∀ {b : Addr} {o : Obj}, s.heap.get? b = some o → o.data ≠ .fields #[] → (∀ us m, o.data ≠ .seq us m) → (hidT s.heap H).get? b = some o := fun e n1 n2 => hidT_get e (free _ _ e n1 n2)
  have under : ∀ (b : Addr) (m : Str → Option Value), s.heap.Ns b m → (hidT s.heap H).Ns b m := by
    rintro b m ⟨o, es, ep, e, d, r⟩
    exact ⟨o, es, ep, up e (by rw [d]; intro z; cases z) (by rw [d]; intro _ _ z; cases z), d, r⟩
  have known : K.In (hidT s.heap H) := by
    intro b o e
    refine hidT_get (G.known b o e) ?_
    by_cases hb : b ∈ ts.map (·.tab)
    · obtain ⟨t, ht, e2⟩ := List.mem_map.mp hb
      rw [← e2, (G.tabs t ht).2.2] at e
      cases e
    · by_cases hb2 : b = a
      · subst hb2
        rw [atA]
        rcases what with z | ⟨z, _⟩
        · exact z
        · rw [z] at e; cases e
      · exact off b hb hb2
  obtain ⟨mb, bl, same⟩ := G.blt
  have ground : Mod K mg (hidT s.heap H) := by
    refine ⟨known, under _ _ G.glob, ⟨mb, under _ _ bl, same⟩, ?_⟩
    obtain ⟨mc, l1, l2⟩ := G.lim
    exact ⟨mc, under _ _ l1, l2⟩
  have env : Env0 P w K mg (hidT s.heap H) callerA [] s H := by
    refine ⟨rfl, ground, fun b o e => of_hidT e, ?_, trivial, ?_, hok, AllBare.of_eq ng⟩
    · rw [hidT_size]
      exact Nat.le_refl _
    · intro b hb
      simp [frs] at hb
  have tb : ∀ t ∈ ts, LamX.TabB (hidT s.heap H) mg t.code t.tab := fun t ht => by
    obtain ⟨C, g, _⟩ := G.tabs t ht
    refine ⟨?_, ?_, fun z => ?_⟩
    · obtain ⟨o, us, file, tf, flags, tg, inF, text, tt, e1, r1, r2, r3, r⟩ := C
      refine ⟨o, us, file, tf, flags, tg, inF, text, tt, up e1 (fun z => ?_) (fun _ _ z => ?_), r1, r2, r3, r⟩
      · rw [r2] at z
        cases z
        simp at r3
      · rw [r2] at z
        cases z
    · obtain ⟨bm, ob, b1, b2, b3, b4, b5, b6⟩ := G.mod
      refine ⟨bm, ob, b1, b2, fun q => ?_, fun q => ?_, up b3 (by rw [b6]; intro z; cases z) (by rw [b6]; intro _ _ z; cases z), b4, b5, b6⟩
      · obtain ⟨o, es, ep, e, hd, _⟩ := G.glob
        rw [q, e] at b3
        cases b3
        rw [hd] at b6
        cases b6
      · rw [q, g] at b3
        cases b3
        cases b6
    · obtain ⟨o, es, ep, e, hd, _⟩ := G.glob
      rw [z, g] at e
      cases e
      cases hd
  have law := F _ known (under _ _ G.glob) tb callerA [] s H ⟨[.ref a], []⟩ [.ref a] [.ref a] (fun v _ => v = .bl true) (fun _ _ _ => False) room rfl env (bind s (.ref a)) (.cons rfl .nil)
    ⟨a, ns, rfl, seq, len, fun p hp => by
      obtain ⟨t, ht, e⟩ := List.mem_map.mp hp
      subst e
      exact LamX.TabS.nil (atT t ht), fun v H' e => e⟩
  refine codeAny_mono law ?_
  intro r s' after
  match r, after with
  | .ok (.ret u), after =>
    obtain ⟨v, H', os, bare, un, hok', rv, ev⟩ := after
    have ev : v = .bl true := ev
    subst ev
    have eu : u = Value.bool true := rv
    subst eu
    have old : ∀ b o, b ∉ ts.map (·.tab) → s.heap.get? b = some o → s'.heap.get? b = some o := fun b o hb e => by
      by_cases hn : H b = none
      · exact un.keep b o e hn (by simp [frs]) (by simp)
      · have hba : b = a := Classical.byContradiction fun z => hn (off b hb z)
        subst hba
        rw [atA] at hn
        rcases what with z | ⟨_, ob, z⟩
        · exact absurd z hn
        · have q : H b = some (.frz ob (.lst (ns.map V.int))) := by rw [atA]; exact z
          have o1 := (hok _ _ q).1
          have o2 := (hok' _ _ (un.frzs _ _ _ q)).1
          rw [e] at o1
          rw [o2]
          exact o1.symm
    have grown : ∀ t ∈ ts, ∃ more : Array Value, s'.heap.get? t.tab = some (PySem.W.tabObj more) := fun t ht => by
      obtain ⟨more, z⟩ := un.tbls t.tab #[] (atT t ht)
      exact ⟨_, hok' t.tab _ z⟩
    refine ⟨rfl, ⟨fun b o e => ?_, fun b o e => ?_⟩, os, bare⟩
    · by_cases hb : b ∈ ts.map (·.tab)
      · obtain ⟨t, ht, et⟩ := List.mem_map.mp hb
        obtain ⟨more, hm⟩ := grown t ht
        obtain ⟨C, g, _⟩ := G.tabs t ht
        subst et
        rw [g] at e
        cases e
        exact .inr (.inl ⟨(C.tab g).isCodeTable, rfl, #[], more, rfl, by rw [Array.empty_append]; exact hm⟩)
      · exact .inl (old b o hb e)
    · by_cases hb : b ∈ ts.map (·.tab)
      · obtain ⟨t, ht, et⟩ := List.mem_map.mp hb
        obtain ⟨more, hm⟩ := grown t ht
        subst et
        exact ⟨_, hm⟩
      · exact ⟨o, old b o hb e⟩
  | .ok .next, after => exact False.elim after
  | .ok .brk, after => exact False.elim after
  | .ok .cont, after => exact False.elim after
  | .error e, after =>
    obtain ⟨_, _, _, _, _, _, _, _, _, _, _, _, z⟩ := after
    exact z.elim
theorem enter_law (G : Gr K mg s.heap ts) (ng : s.gens = #[]) (obj : s.heap.get? a = some { cls := .type "list", data := .seq vs.toArray }) (areInts : IntsAre vs ns) (len : ns.length ≤ n) (hn : n ≤ sizeLine) (room : Room j callerA)
    (F : ∀ base : Heap, K.In base → base.Ns mainGlobals mg → (∀ t ∈ ts, LamX.TabB base mg t.code t.tab) → LawG P w K (tabsOf ts) mg base j fa fd x n)
    (bind : ∀ (s : Shared) (u : Value), BindsTo s fd ⟨[u], []⟩ [(x, u)]) : codeAny (model P w) callerA (.call (.ref fa) ⟨[.ref a], []⟩) (fun r s' => r = .ok (.ret (.bool true)) ∧ OldK s.heap s'.heap ∧ s'.os = s.os ∧ AllBare s'.gens) s := by
  have rel : Vals (ns.map V.int) vs := L2.vals_ints areInts
  have big : ns.length ≤ sizeLine := Nat.le_trans len hn
  have notT : a ∉ ts.map (·.tab) := fun z => by
    obtain ⟨t, ht, e⟩ := List.mem_map.mp z
    have q := (G.tabs t ht).2.1
    rw [e, obj] at q
    cases (congrArg Obj.data (Option.some.inj q))
  have okT : ∀ one u b, b ∈ ts.map (·.tab) → entryH a one (ts.map (·.tab)) b = some u → ObjOk P w (entryH a one (ts.map (·.tab))) s.heap b u := fun one u b hb z => by
    unfold entryH at z
    rw [if_pos hb] at z
    cases z
    obtain ⟨t, ht, et⟩ := List.mem_map.mp hb
    subst et
    exact (G.tabs t ht).2.1
  cases look : K.lookup a with
  | some o =>
    have e := G.known a o look
    rw [obj] at e
    have eo := (Option.some.inj e)
    subst eo
    refine enter_one none G ng obj len room F bind (Or.inr ⟨_, vs.toArray, _, look, rfl, rfl, rfl, ?_, by simpa using rel⟩) (fun b u z => ?_) (Or.inl rfl)
    · rw [List.size_toArray, ← rel.length, List.length_map]
      exact big
    · by_cases hb : b ∈ ts.map (·.tab)
      · exact okT _ _ b hb z
      · unfold entryH at z
        rw [if_neg hb] at z
        split at z <;> cases z
  | none =>
    obtain ⟨one, eo⟩ : ∃ one, one = some (HO.frz { cls := .type "list", data := .seq vs.toArray } (.lst (ns.map V.int))) := ⟨_, rfl⟩
    have at_a : entryH a one (ts.map (·.tab)) a = one := by unfold entryH; rw [if_neg notT, if_pos rfl]
    refine enter_one one G ng obj len room F bind (Or.inl (Or.inr ⟨_, at_a.trans eo⟩)) (fun b u z => ?_) (Or.inr ⟨look, _, eo⟩)
    by_cases hb : b ∈ ts.map (·.tab)
    · exact okT _ _ b hb z
    · by_cases hb2 : b = a
      · subst hb2
        rw [at_a, eo] at z
        have := Option.some.inj z
        subst this
        exact ⟨obj, by rw [List.length_map]; exact big, vs, _, rel, obj⟩
      · unfold entryH at z
        rw [if_neg hb, if_neg hb2] at z
        cases z
end
theorem walk_law {l : PySem.W.OpenLaw} {n j : Nat} {q : Program} {loose : List Str} {XP : (Str → Option Value) → Heap → Prop} {YP : World → Heap → Prop} {d : DefRec} {K : Params → PySem.W.Frag} {x : Str} (ts : List Tb) (hn : l.most = some n) (hn2 : n ≤ sizeLine) (hdf : d.params.defaults = []) (room : Room j callerA)
    (hY : ∀ (w : World) (h : Heap), YP w h → (K w.params).In h)
    (hT : ∀ (w : World) (h : Heap), YP w h → ∀ t ∈ ts, PySem.W.CodeHd h t.code t.tab ∧ h.get? t.tab = some (PySem.W.tabObj #[]) ∧ (K w.params).lookup t.tab = none)
    (F : ∀ (w : World) (mg : Str → Option Value) (fa : Addr) (h : Heap), (K w.params).In h → h.Ns mainGlobals mg → mg d.name = some (.ref fa) → ∃ fd : FuncData, (∀ (s : Shared) (u : Value), BindsTo s fd ⟨[u], []⟩ [(x, u)]) ∧
      ∀ base : Heap, (K w.params).In base → base.Ns mainGlobals mg → (∀ t ∈ ts, LamX.TabB base mg t.code t.tab) → LawG l.prog w (K w.params) (tabsOf ts) mg base j fa fd x n) :
    PySem.W.WalkO q loose XP YP l.row.toRowW d [] (fun f vs => PySem.call f vs) :=
  Att.attach_call hn hdf fun w s₀ s₁ mg mb fa o pm cd doc a vs ns G Y ho hd hcd hmg hobj hints hlen hg => by
    have KX := hY w _ Y
    obtain ⟨fd, bind, all⟩ := F w mg fa _ KX G.T.g hmg
    exact enter_law ⟨KX, G.T.g, ⟨mb, G.T.b, G.T.builtins⟩, G.T.nolimit, G.T.bmain, hT w _ Y⟩ hg hobj hints hlen hn2 room all bind
end FL

/-! FL7: built-in functions over trees -/
namespace FL
open PySem PySem.Spec PyProof.Rows L2 RZ

section
variable {X : Cx} {k : Kx} {E : XE}
theorem vals_ref1 {a : Addr} {us : List Value} (r : Vals [V.ref a] us) : us = [Value.ref a] := L2.Vals.ref1 r
/-! ### lists, lent or not -/
def asL : D → Option (List D)
  | .lst xs => some xs
  | .bor xs => some xs
  | _ => none
/-- it stands so from here on -/
def Stands (k : Kx) (F : Hp) (a : Addr) (vs : List V) : Prop := ∀ F1 H1, Same F F1 → Same F1 H1 → Same k.B H1 → H1 a = some (.lst vs)
theorem asL_use {F : Hp} {v : V} {d : D} {xs : List D} (r : Rep k F v d) (e : asL d = some xs) : ∃ a vs, v = .ref a ∧ Reps k F vs xs ∧ Stands k F a vs := by
  cases r with
  | lst h rs => cases e; exact ⟨_, _, rfl, rs, fun F1 H1 s1 s2 _ => s2 _ _ (s1 _ _ h)⟩
  | bor h rs => cases e; exact ⟨_, _, rfl, rs, fun F1 H1 _ _ sb => sb _ _ h⟩
  | _ => cases e
theorem Stands.now {F H : Hp} {σ : L2.St} {Γ : Ev} {st : DS} {a : Addr} {vs : List V} (h : Stands k F a vs) (ok : Ok k F H σ Γ st) : H a = some (.lst vs) := h F H (Same.refl _) ok.sub ok.bsub
theorem Stands.at {F F1 H1 : Hp} {σ : L2.St} {Γ : Ev} {st : DS} {a : Addr} {vs : List V} (h : Stands k F a vs) (s : Same F F1) (ok : Ok k F1 H1 σ Γ st) : H1 a = some (.lst vs) := h F1 H1 s ok.sub ok.bsub
/-! ### len -/
def gLen : List D → M D := fun ds st => match ds with
  | [.lst xs] => .ok (.int xs.length) st
  | [.bor xs] => .ok (.int xs.length) st
  | [.tup xs] => .ok (.int xs.length) st
  | [.str z] => if decide (z.length ≤ sizeLine) then .ok (.int z.length) st else .stuck
  | _ => .stuck
theorem c_len (hk : k.K = X.K := by rfl) : CallS X k (.builtin "len") gLen :=
  ⟨_, call_len_seq.or call_len_str, fun {E σ F H Γ st vs ds Q} ok r w => by
    unfold gLen at w
    split at w
    · match vs, r with
      | [_], .cons (.lst h rs) .nil =>
        refine .inl ⟨_, _, rfl, .inl (SqL.of (ok.sub _ _ h)), ?_⟩
        rw [rs.length]
        exact w F H ok.refl _ (.int _)
    · match vs, r with
      | [_], .cons (.bor h rs) .nil =>
        refine .inl ⟨_, _, rfl, .inl (SqL.of (ok.bsub _ _ h)), ?_⟩
        rw [rs.length]
        exact w F H ok.refl _ (.int _)
    · match vs, r with
      | [_], .cons (.tup h rs) .nil =>
        rw [hk] at h
        refine .inl ⟨_, _, rfl, .inr (sqt_mono ok.sub h), ?_⟩
        rw [rs.length]
        exact w F H ok.refl _ (.int _)
    · split at w
      · rename_i hz
        match vs, r with
        | [_], .cons (.str z) .nil => exact .inr ⟨_, rfl, of_decide_eq_true hz, w F H ok.refl _ (.int _)⟩
      · exact w.elim
    · exact w.elim⟩
/-! ### numbers -/
def gAbs : List D → M D := fun ds st => match ds with
  | [.int i] => .ok (.int (if i < 0 then -i else i)) st
  | _ => .stuck
theorem c_abs : CallS X k (.builtin "abs") gAbs :=
  ⟨_, call_abs, fun {E σ F H Γ st vs ds Q} ok r w => by
    unfold gAbs at w
    split at w
    · match vs, r with
      | [_], .cons (.int _) .nil => exact ⟨_, rfl, w F H ok.refl _ (.int _)⟩
    · exact w.elim⟩
def gIntOf : List D → M D := fun ds st => match ds with
  | [.int i] => .ok (.int i) st
  | _ => .stuck
theorem c_int : CallS X k (.type "int") gIntOf :=
  ⟨_, call_int1, fun {E σ F H Γ st vs ds Q} ok r w => by
    unfold gIntOf at w
    split at w
    · match vs, r with
      | [_], .cons (.int _) .nil => exact .inl ⟨_, rfl, w F H ok.refl _ (.int _)⟩
    · exact w.elim⟩
/-- ints of trees -/
def intsD : List D → Option (List Int)
  | [] => some []
  | .int i :: ds => (intsD ds).map (i :: ·)
  | _ :: _ => none
theorem intsD_map : ∀ ns : List Int, intsD (ns.map D.int) = some ns
  | [] => rfl
  | n :: ns => by rw [List.map_cons, intsD, intsD_map ns]; rfl
theorem Reps.ints {F : Hp} : ∀ {vs : List V} {ds : List D} {ns : List Int}, Reps k F vs ds → intsD ds = some ns → vs = ns.map V.int
  | _, _, _, .nil, e => by cases e; rfl
  | _, _, ns, .cons (d := d) (ds := ds) h t, e => by
    cases h with
    | int i =>
      cases e' : intsD ds with
      | none => rw [intsD, e'] at e; cases e
      | some ms =>
        rw [intsD, e'] at e
        cases e
        rw [Reps.ints t e']
        rfl
    | _ => cases e
def minI : Int → List Int → Int
  | a, [] => a
  | a, b :: r => minI (if b < a then b else a) r
theorem minI_spec : ∀ (a : Int) (r : List Int), minI a r ∈ a :: r ∧ ∀ y ∈ a :: r, minI a r ≤ y
  | a, [] => by simp [minI]
  | a, b :: r => by
    obtain ⟨h1, h2⟩ := minI_spec (if b < a then b else a) r
    unfold minI
    by_cases hb : b < a
    · rw [if_pos hb] at h1 h2 ⊢
      refine ⟨?_, fun y hy => ?_⟩
      · rcases List.mem_cons.mp h1 with e | e
        · rw [e]; simp
        · simp [e]
      · rcases List.mem_cons.mp hy with rfl | hy
        · exact Int.le_trans (h2 b (by simp)) (Int.le_of_lt hb)
        · rcases List.mem_cons.mp hy with rfl | hy
          · exact h2 _ (by simp)
          · exact h2 y (by simp [hy])
    · rw [if_neg hb] at h1 h2 ⊢
      refine ⟨?_, fun y hy => ?_⟩
      · rcases List.mem_cons.mp h1 with e | e
        · rw [e]; simp
        · simp [e]
      · rcases List.mem_cons.mp hy with rfl | hy
        · exact h2 _ (by simp)
        · rcases List.mem_cons.mp hy with rfl | hy
          · exact Int.le_trans (h2 a (by simp)) (Int.not_lt.mp hb)
          · exact h2 y (by simp [hy])
theorem minI_uniq {a : Int} {r : List Int} {m : Int} (h1 : m ∈ a :: r) (h2 : ∀ y ∈ a :: r, m ≤ y) : m = minI a r :=
  Int.le_antisymm (h2 _ (minI_spec a r).1) ((minI_spec a r).2 m h1)
def maxI : Int → List Int → Int
  | a, [] => a
  | a, b :: r => maxI (if a < b then b else a) r
theorem maxI_spec : ∀ (a : Int) (r : List Int), maxI a r ∈ a :: r ∧ ∀ y ∈ a :: r, y ≤ maxI a r
  | a, [] => by simp [maxI]
  | a, b :: r => by
    obtain ⟨h1, h2⟩ := maxI_spec (if a < b then b else a) r
    unfold maxI
    by_cases hb : a < b
    · rw [if_pos hb] at h1 h2 ⊢
      refine ⟨?_, fun y hy => ?_⟩
      · rcases List.mem_cons.mp h1 with e | e
        · rw [e]; simp
        · simp [e]
      · rcases List.mem_cons.mp hy with rfl | hy
        · exact Int.le_trans (Int.le_of_lt hb) (h2 b (by simp))
        · rcases List.mem_cons.mp hy with rfl | hy
          · exact h2 _ (by simp)
          · exact h2 y (by simp [hy])
    · rw [if_neg hb] at h1 h2 ⊢
      refine ⟨?_, fun y hy => ?_⟩
      · rcases List.mem_cons.mp h1 with e | e
        · rw [e]; simp
        · simp [e]
      · rcases List.mem_cons.mp hy with rfl | hy
        · exact h2 _ (by simp)
        · rcases List.mem_cons.mp hy with rfl | hy
          · exact Int.le_trans (Int.not_lt.mp hb) (h2 a (by simp))
          · exact h2 y (by simp [hy])
theorem maxI_uniq {a : Int} {r : List Int} {m : Int} (h1 : m ∈ a :: r) (h2 : ∀ y ∈ a :: r, y ≤ m) : m = maxI a r :=
  Int.le_antisymm ((maxI_spec a r).2 m h1) (h2 _ (maxI_spec a r).1)
/-- min(..), max(..) of a list of ints, or of two ints -/
def gMin : List D → M D := fun ds st => match ds with
  | [.lst xs] => (match intsD xs with | some (a :: r) => .ok (.int (minI a r)) st | _ => .stuck)
  | [.int i, .int j] => .ok (.int (if j < i then j else i)) st
  | _ => .stuck
theorem c_min (hc : X.calm = true := by rfl) : CallS X k (.builtin "min") gMin :=
  ⟨_, (cr_min hc).or (call_min2 hc), fun {E σ F H Γ st vs ds Q} ok r w => by
    unfold gMin at w
    split at w
    · split at w
      · rename_i a r' e
        match vs, r with
        | [_], .cons (.lst h rs) .nil =>
          have ev := rs.ints e
          subst ev
          refine .inl ⟨_, a :: r', rfl, SqL.of (ok.sub _ _ h), by simp, fun m h1 h2 => ?_⟩
          rw [minI_uniq h1 h2]
          exact w F H ok.refl _ (.int _)
      · exact w.elim
    · match vs, r with
      | [_, _], .cons (.int _) (.cons (.int _) .nil) => exact .inr ⟨_, _, rfl, w F H ok.refl _ (.int _)⟩
    · exact w.elim⟩
def gMax : List D → M D := fun ds st => match ds with
  | [.lst xs] => (match intsD xs with | some (a :: r) => .ok (.int (maxI a r)) st | _ => .stuck)
  | [.int i, .int j] => .ok (.int (if j > i then j else i)) st
  | _ => .stuck
theorem c_max (hc : X.calm = true := by rfl) : CallS X k (.builtin "max") gMax :=
  ⟨_, (cr_max hc).or (call_max2 hc), fun {E σ F H Γ st vs ds Q} ok r w => by
    unfold gMax at w
    split at w
    · split at w
      · rename_i a r' e
        match vs, r with
        | [_], .cons (.lst h rs) .nil =>
          have ev := rs.ints e
          subst ev
          refine .inl ⟨_, a :: r', rfl, SqL.of (ok.sub _ _ h), by simp, fun m h1 h2 => ?_⟩
          rw [maxI_uniq h1 h2]
          exact w F H ok.refl _ (.int _)
      · exact w.elim
    · match vs, r with
      | [_, _], .cons (.int _) (.cons (.int _) .nil) => exact .inr ⟨_, _, rfl, w F H ok.refl _ (.int _)⟩
    · exact w.elim⟩
/-- sum of a list, of a tuple of ints -/
theorem sum_tup {a : Addr} {its : List Value} {ns : List Int} {prog : Program} {w : World} {A : Around} {E : Value → Shared → Prop} {s : Shared} {Q : Value → Shared → Prop} (hh : A.handled = none) (ht : IsTup s.heap a its.toArray) (hi : IntsAre its ns)
    (h : ∀ h' tk t', (∀ b o, s.heap.get? b = some o → h'.get? b = some o) → Q (.int ns.sum t') { s with heap := h', toks := tk }) : wpAny (model prog w) A (call (.builtin "sum") [.ref a]) Q E s := by
  obtain ⟨xs, e⟩ := hi.allInts.items
  have hn : numsOf (intItems xs).toList = ns := by rw [← e]; exact hi.numsOf
  rw [nums_intItems] at hn
  rw [e] at ht
  have ht' : s.heap.IsTuple a (intItems xs) := ht
  have lt : a < s.heap.objs.size := ht.lt
  refine call_sum_walkG (wpAny_pyIter_tuple ht' ?_)
  refine ⟨_, [s.heap.objs.size, a], [s.heap.objs.size], (intItems xs).size, fun i v => (intItems xs)[i]? = some v, fun i h => h.IsTupleIter s.heap.objs.size a i ∧ h.IsTuple a (intItems xs), numAt xs, rfl,
    Walks.tuple (A := A.in1) hh _ a (Nat.ne_of_lt lt) (intItems xs), ⟨⟨_, Heap.get?_push_size _ rfl, rfl, rfl⟩, ht'.at fun o q => Heap.get?_push_of_some _ q⟩, fun b hb => ?_, (fun _ _ => intItems_at), fun h' tk t' hk => ?_⟩
  · show b < (s.heap.push _).objs.size
    rw [Heap.size_push]
    rcases List.mem_cons.mp hb with z | hb
    · rw [z]; exact Nat.lt_succ_self _
    · have z : b = a := by simpa using hb
      rw [z]; exact Nat.lt_succ_of_lt lt
  · have q := h h' tk t' fun b o eo => hk b o (fun z => by
      have z' : b = s.heap.objs.size := by simpa using z
      exact absurd (Heap.lt_size eo) (by rw [z']; exact Nat.lt_irrefl _)) (Heap.get?_push_of_some _ eo)
    rw [preSum_eq, List.take_of_length_le (by simp [intItems]), hn]
    exact q
theorem c_sum_tup (hc : X.calm = true) : CallR X (.builtin "sum") (fun vs H Q => ∃ (a : Addr) (ns : List Int), vs = [V.ref a] ∧ SqT X.K H a (ns.map V.int) ∧ Q (.int ns.sum) H) := by
  intro pins s σ H vs us Q I r ⟨a, ns, e, hs, q⟩
  subst e
  obtain ⟨its, rv, ht, _⟩ := I.tuple hs
  rw [vals_ref1 r]
  exact sum_tup (I.ok.hd hc) ht rv.ints fun h' tk t' hk => ⟨.int _, H, I.kept hk, ⟨_, rfl⟩, q⟩
def gSum : List D → M D := fun ds st => match ds with
  | [.lst xs] => (match intsD xs with | some ns => .ok (.int ns.sum) st | none => .stuck)
  | [.bor xs] => (match intsD xs with | some ns => .ok (.int ns.sum) st | none => .stuck)
  | [.tup xs] => (match intsD xs with | some ns => .ok (.int ns.sum) st | none => .stuck)
  | _ => .stuck
theorem c_sum (hc : X.calm = true := by rfl) (hk : k.K = X.K := by rfl) : CallS X k (.builtin "sum") gSum :=
  ⟨_, (cr_sum hc).or (c_sum_tup hc), fun {E σ F H Γ st vs ds Q} ok r w => by
    unfold gSum at w
    split at w
    · split at w
      · rename_i ns e
        match vs, r with
        | [_], .cons (.lst h rs) .nil =>
          have ev := rs.ints e
          subst ev
          exact .inl ⟨_, ns, rfl, SqL.of (ok.sub _ _ h), w F H ok.refl _ (.int _)⟩
      · exact w.elim
    · split at w
      · rename_i ns e
        match vs, r with
        | [_], .cons (.bor h rs) .nil =>
          have ev := rs.ints e
          subst ev
          exact .inl ⟨_, ns, rfl, SqL.of (ok.bsub _ _ h), w F H ok.refl _ (.int _)⟩
      · exact w.elim
    · split at w
      · rename_i ns e
        match vs, r with
        | [_], .cons (.tup h rs) .nil =>
          rw [hk] at h
          have ev := rs.ints e
          subst ev
          exact .inr ⟨_, ns, rfl, sqt_mono ok.sub h, w F H ok.refl _ (.int _)⟩
      · exact w.elim
    · exact w.elim⟩
/-! ### truth values -/
def blsD : List D → Option (List Bool)
  | [] => some []
  | .bl i :: ds => (blsD ds).map (i :: ·)
  | _ :: _ => none
theorem blsD_map : ∀ ns : List Bool, blsD (ns.map D.bl) = some ns
  | [] => rfl
  | n :: ns => by rw [List.map_cons, blsD, blsD_map ns]; rfl
theorem Reps.bls {F : Hp} : ∀ {vs : List V} {ds : List D} {ns : List Bool}, Reps k F vs ds → blsD ds = some ns → vs = ns.map V.bl
  | _, _, _, .nil, e => by cases e; rfl
  | _, _, ns, .cons (d := d) (ds := ds) h t, e => by
    cases h with
    | bl i =>
      cases e' : blsD ds with
      | none => rw [blsD, e'] at e; cases e
      | some ms =>
        rw [blsD, e'] at e
        cases e
        rw [Reps.bls t e']
        rfl
    | _ => cases e
def gAll : List D → M D := fun ds st => match ds with
  | [.lst xs] => (match blsD xs with | some bs => .ok (.bl (bs.all id)) st | none => .stuck)
  | _ => .stuck
theorem c_all (hc : X.calm = true := by rfl) : CallS X k (.builtin "all") gAll :=
  ⟨_, cr_all hc, fun {E σ F H Γ st vs ds Q} ok r w => by
    unfold gAll at w
    split at w
    · split at w
      · rename_i bs e
        match vs, r with
        | [_], .cons (.lst h rs) .nil =>
          have ev := rs.bls e
          subst ev
          exact ⟨_, bs, rfl, SqL.of (ok.sub _ _ h), w F H ok.refl _ (.bl _)⟩
      · exact w.elim
    · exact w.elim⟩
def gAny : List D → M D := fun ds st => match ds with
  | [.lst xs] => (match blsD xs with | some bs => .ok (.bl (bs.any id)) st | none => .stuck)
  | _ => .stuck
theorem c_any (hc : X.calm = true := by rfl) : CallS X k (.builtin "any") gAny :=
  ⟨_, cr_any hc, fun {E σ F H Γ st vs ds Q} ok r w => by
    unfold gAny at w
    split at w
    · split at w
      · rename_i bs e
        match vs, r with
        | [_], .cons (.lst h rs) .nil =>
          have ev := rs.bls e
          subst ev
          exact ⟨_, bs, rfl, SqL.of (ok.sub _ _ h), w F H ok.refl _ (.bl _)⟩
      · exact w.elim
    · exact w.elim⟩
/-! ### tuple(..), list(..) -/
def gTuple : List D → M D := fun ds st => match ds with
  | [.lst xs] => .ok (.tup xs) st
  | [.bor xs] => .ok (.tup xs) st
  | [.tup xs] => .ok (.tup xs) st
  | _ => .stuck
theorem c_tuple (hk : k.K = X.K := by rfl) : CallS X k (.type "tuple") gTuple :=
  ⟨_, call_tuple_of, fun {E σ F H Γ st vs ds Q} ok r w => by
    unfold gTuple at w
    split at w
    · match vs, r with
      | [_], .cons (.lst h rs) .nil =>
        exact ⟨_, _, rfl, .inl ⟨SqL.of (ok.sub _ _ h), fun p np => w _ _ (ok.new np) _ (.tup (SqT.of upd_same) (rs.mono (ok.new np).ext))⟩⟩
    · match vs, r with
      | [_], .cons (.bor h rs) .nil =>
        exact ⟨_, _, rfl, .inl ⟨SqL.of (ok.bsub _ _ h), fun p np => w _ _ (ok.new np) _ (.tup (SqT.of upd_same) (rs.mono (ok.new np).ext))⟩⟩
    · match vs, r with
      | [_], .cons (.tup h rs) .nil =>
        have h' := h
        rw [hk] at h
        exact ⟨_, _, rfl, .inr ⟨sqt_mono ok.sub h, w _ _ ok.refl _ (.tup h' rs)⟩⟩
    · exact w.elim⟩
/-- a list that is new, its reading in another's words -/
def CallO (X : Cx) (k : Kx) (f : Value) (g : List D → M (List D)) : Prop :=
  ∃ r : List V → Hp → VK → Prop, CallR X f r ∧ ∀ {E : XE} {σ : L2.St} {F H : Hp} {Γ : Ev} {st : DS} {vs : List V} {ds : List D} {Q : VK}, Ok k F H σ Γ st → Reps k F vs ds →
    Wp k E σ F H (g ds st) (fun xs F' H' _ => ∀ a vs, H' a = some (.lst vs) → F' a = none → H a = none → Reps k F' vs xs → Q (.ref a) H') → r vs H Q
def mCallO (g : List D → M (List D)) (mr : Ev → M (List D)) : Ev → M (List D) := fun Γ => do
  let ds ← mr Γ
  g ds
theorem back_new {F H F1 H1 : Hp} {st1 : DS} {Q : VK} {F' H' : Hp} {xs : List D} (s1 : Step k F H F1 H1 st1) (w : ∀ a vs, H' a = some (.lst vs) → F' a = none → H a = none → Reps k F' vs xs → Q (.ref a) H') : ∀ a vs, H' a = some (.lst vs) → F' a = none → H1 a = none → Reps k F' vs xs → Q (.ref a) H' :=
  fun a vs h1 h2 h3 h4 => w a vs h1 h2 (s1.back h3) h4
variable {e : Expr} {es : List Expr} {mr : Ev → M (List D)} {pos p : Pos} {x : Str}
theorem o_ty {T : String} {g : List D → M (List D)} (hc : CallO X k (.type T) g) (hg : Gl X x) (hm : X.mg x = none) (hv : bootBuiltins x = some (.type T)) (ha : PA X (e :: es) (tA k E mr)) (hn : x ≠ "__name__" := by decide) (hdb : (x == ("__debug__" : Str)) = false := by decide)
    (he : starEach (e :: es) X.env = (false, eval e X.env) :: starEach es X.env := by rfl) (hpl : (backTo pos (starEach es X.env)).any (·.1) = false := by rfl) : PE X (.Call (.Name x p) (e :: es) [] pos) (tO k E (mCallO g mr)) := by
  obtain ⟨r, h1, h2⟩ := hc
  exact PE.weak (pe_callTy h1 hg hm hv ha hn hdb he hpl) fun σ H Q ⟨F, Γ, st, ok, w⟩ => tA.then_ ok w fun vs ds F1 H1 st1 s1 ok1 r1 w1 => h2 ok1 r1 (w1.mono fun xs F' H' st' s' q => back_new s1 q)
theorem o_blt {T : String} {g : List D → M (List D)} (hc : CallO X k (.builtin T) g) (hg : Gl X x) (hm : X.mg x = none) (hv : bootBuiltins x = some (.builtin T)) (ha : PA X (e :: es) (tA k E mr)) (hn : x ≠ "__name__" := by decide) (hdb : (x == ("__debug__" : Str)) = false := by decide)
    (he : starEach (e :: es) X.env = (false, eval e X.env) :: starEach es X.env := by rfl) (hpl : (backTo pos (starEach es X.env)).any (·.1) = false := by rfl) : PE X (.Call (.Name x p) (e :: es) [] pos) (tO k E (mCallO g mr)) := by
  obtain ⟨r, h1, h2⟩ := hc
  exact PE.weak (pe_callB h1 hg hm hv ha hn hdb he hpl) fun σ H Q ⟨F, Γ, st, ok, w⟩ => tA.then_ ok w fun vs ds F1 H1 st1 s1 ok1 r1 w1 => h2 ok1 r1 (w1.mono fun xs F' H' st' s' q => back_new s1 q)
def gListOf : List D → M (List D) := fun ds st => match ds with
  | [.lst xs] => .ok xs st
  | [.bor xs] => .ok xs st
  | [.tup xs] => .ok xs st
  | _ => .stuck
theorem c_list (hk : k.K = X.K := by rfl) : CallO X k (.type "list") gListOf :=
  ⟨_, call_list_of, fun {E σ F H Γ st vs ds Q} ok r w => by
    unfold gListOf at w
    split at w
    · match vs, r with
      | [_], .cons (.lst h rs) .nil =>
        exact ⟨_, _, rfl, .inl (SqL.of (ok.sub _ _ h)), fun p np => w _ _ (ok.new' np) p _ upd_same (ok.fnone np) np rs⟩
    · match vs, r with
      | [_], .cons (.bor h rs) .nil =>
        exact ⟨_, _, rfl, .inl (SqL.of (ok.bsub _ _ h)), fun p np => w _ _ (ok.new' np) p _ upd_same (ok.fnone np) np rs⟩
    · match vs, r with
      | [_], .cons (.tup h rs) .nil =>
        rw [hk] at h
        exact ⟨_, _, rfl, .inr (sqt_mono ok.sub h), fun p np => w _ _ (ok.new' np) p _ upd_same (ok.fnone np) np rs⟩
    · exact w.elim⟩
/-! ### repr of data -/
def reprOk (d : D) : Bool := d.plain && d.py.showable && !d.py.hasDict && decide (d.py.depth ≤ 60) && decide (d.py.shown.length ≤ sizeLine)
def gRepr : List D → M D := fun ds st => match ds with
  | [d] => if reprOk d then .ok (.str d.py.shown) st else .stuck
  | _ => .stuck
theorem call_repr_D (gd : X.A.guards = some []) (hu : X.A.units + 64 < cLine) : CallR X (.builtin "repr") (fun vs H Q => ∃ v d, vs = [v] ∧ Dp X.K H v d ∧ d.showable = true ∧ d.hasDict = false ∧ d.depth ≤ 60 ∧ d.shown.length ≤ sizeLine ∧ Q (.str d.shown) H) := by
  intro pins s σ H vs us Q I r ⟨v, d, e, dp, h1, h2, h3, h4, q⟩
  subst e
  obtain ⟨u, rfl, ru⟩ := L2.vals1 r
  obtain ⟨as, rd⟩ := Dp.reads I d v u dp ru
  cases rd with
  | none => exact PySem.P.repr_of_none ⟨.str _, H, I.tok _, ⟨_, rfl⟩, by simpa [PyData.shown] using q⟩
  | bool b => exact PySem.P.repr_of_bool ⟨.str _, H, I.tok _, ⟨_, rfl⟩, by simpa [PyData.shown] using q⟩
  | int i t =>
    have hs : i.natAbs.log2 < 1920 := by simpa [PyData.showable] using h1
    exact PySem.P.repr_of_int hs ⟨.str _, H, I.tok _, ⟨_, rfl⟩, by simpa [PyData.shown] using q⟩
  | str x t => exact PySem.P.repr_of_str ⟨.str _, H, I.tok _, ⟨_, rfl⟩, by simpa [PyData.shown] using q⟩ (by simpa [PyData.shown] using h4)
  | list ho hc hd hr => exact repr_of_reads' (Reads.list ho hc hd hr) h1 (PyData.noDict_hsm h2) gd (by omega) (fun _ _ z => z) (fun h' u tk hk => ⟨.str _, H, I.kept hk, ⟨_, rfl⟩, q⟩) h4
  | tuple ho hc hd hr => exact repr_of_reads' (Reads.tuple ho hc hd hr) h1 (PyData.noDict_hsm h2) gd (by omega) (fun _ _ z => z) (fun h' u tk hk => ⟨.str _, H, I.kept hk, ⟨_, rfl⟩, q⟩) h4
  | dict => simp [PyData.hasDict] at h2
theorem c_repr (gd : X.A.guards = some []) (hu : X.A.units + 64 < cLine) (hk : k.K = X.K := by rfl) : CallS X k (.builtin "repr") gRepr :=
  ⟨_, call_repr_D gd hu, fun {E σ F H Γ st vs ds Q} ok r w => by
    unfold gRepr at w
    split at w
    · split at w
      · rename_i d hc
        unfold reprOk at hc
        simp only [Bool.and_eq_true, Bool.not_eq_true', decide_eq_true_eq] at hc
        match vs, r with
        | [v], .cons rv .nil => exact ⟨v, _, rfl, hk ▸ rv.dp ok.sub ok.bsub hc.1.1.1.1, hc.1.1.1.2, hc.1.1.2, hc.1.2, hc.2, w F H ok.refl _ (.str _)⟩
      · exact w.elim
    · exact w.elim⟩
/-! ### isinstance(e, T), T a built-in type -/
def tyN : D → String
  | .non => "NoneType"
  | .bl _ => "bool"
  | .int _ => "int"
  | .str _ => "str"
  | .tup _ => "tuple"
  | .lst _ => "list"
  | .bor _ => "list"
  | .kl _ => ""
  | .deal => "list"
  | .ins _ _ _ => ""
def gIsi (T : String) : D → M D := fun d st => match d with
  | .ins _ _ _ => .stuck
  | .kl _ => .stuck
  | d => (match kitB (tyN d) T with | some b => .ok (.bl b) st | none => .stuck)
theorem Rep.tyX {F H : Hp} {v : V} {d : D} (s : Same F H) (sb : Same k.B H) (dl : k.on = true → ∃ xs, H k.dl = some (.lst xs)) (r : Rep k F v d) (no : ∀ C ks xs, d ≠ .ins C ks xs) (no2 : ∀ xs, d ≠ .kl xs) : TyX k.K H v (.type (tyN d)) := by
  cases r with
  | non => exact .base .non
  | bl b => exact .base (.bl b)
  | int i => exact .base (.int i)
  | str x => exact .base (.str x)
  | tup h r =>
    rcases h with (h | ⟨o, h⟩) | ⟨o, its, n, hk, hc, hd, hs, rv⟩
    · exact .base (.tup (s _ _ h))
    · exact .fTuple (s _ _ h)
    · exact .kTuple hk hc
  | lst h r => exact .base (.lst (s _ _ h))
  | bor h r => exact .base (.lst (sb _ _ h))
  | kl h r => exact absurd rfl (no2 _)
  | deal on => exact let ⟨xs, h⟩ := dl on; .base (.lst h)
  | ins _ _ _ _ => exact absurd rfl (no _ _ _)
variable {me : EM}
theorem e_isi {T : String} {y : Str} {p2 : Pos} (hg : Gl X "isinstance") (hm : X.mg "isinstance" = none) (he : PE X e (tM k E me)) (hgT : Gl X y) (hmT : X.mg y = none) (hv : bootBuiltins y = some (.type T)) (hb : bootBuiltins "isinstance" = some (.builtin "isinstance")) (hk : k.K = X.K := by rfl) (hyn : y ≠ "__name__" := by decide) (hyd : (y == ("__debug__" : Str)) = false := by decide)
    (hs : starEach [.Name y p2] X.env = (false, eval (.Name y p2) X.env) :: starEach [] X.env := by rfl) (hs2 : starEach [e, .Name y p2] X.env = (false, eval e X.env) :: starEach [.Name y p2] X.env := by rfl) (hpl : (backTo pos (starEach [.Name y p2] X.env)).any (·.1) = false := by rfl) :
    PE X (.Call (.Name "isinstance" p) [e, .Name y p2] [] pos) (tM k E (mUn (gIsi T) me)) :=
  PE.weak (pe_callB call_isi hg hm hb (pa_cons he (pa_cons (pe_bltn (v := .ty T) hgT hmT hv rfl hyn hyd) pa_nil hs) hs2) (by decide) (by decide) hs2 hpl) fun σ H Q ⟨F, Γ, st, ok, w⟩ => tM.then_ ok w fun v d F1 H1 st1 s1 ok1 r1 w1 => by
    unfold gIsi at w1
    split at w1
    · exact w1.elim
    · exact w1.elim
    · rename_i hd hd2
      split at w1
      · rename_i b eb
        refine ⟨v, .ty T, _, _, b, rfl, .ty T, ?_, kit_ty eb, w1 F1 H1 ok1.refl _ (.bl b)⟩
        rw [← hk]
        exact r1.tyX ok1.sub ok1.bsub (fun on => ⟨_, (ok1.at_ on).dl⟩) (fun C ks xs e => hd C ks xs e) (fun xs e => hd2 xs e)
      · exact w1.elim

/-! ### zip, enumerate as sources -/
theorem new_pair {F H : Hp} {σ : L2.St} {Γ : Ev} {st : DS} {T : Addr} {x y : V} {d d2 : D} (ok : Ok k F H σ Γ st) (nT : H T = none) (r1 : Rep k F x d) (r2 : Rep k F y d2) :
    ∃ F2, Step k F H F2 (upd H T (.tup [x, y])) st ∧ Rep k F2 (.ref T) (.tup [d, d2]) :=
  ⟨_, ok.new nT, .tup (SqT.of upd_same) (Reps.mono (ok.new nT).ext (.cons r1 (.cons r2 .nil)))⟩
def zipD (xs ys : List D) : List D := List.zipWith (fun a b => .tup [a, b]) xs ys
theorem it_zip {K : PySem.W.Frag} {F : Hp} {a b : Addr} {vs ws : List V} {xs ys : List D} (h : Stands k F a vs) (h' : Stands k F b ws) (r : Reps k F vs xs) (r' : Reps k F ws ys) : ItOk k (Itz K a b) F (zipD xs ys) where
  go := fun i F1 H1 s1 s2 sb hi => by
    have hi' : i < xs.length ∧ i < ys.length := by
      have : i < min xs.length ys.length := by simpa [zipD] using hi
      omega
    have h1 : i < vs.length := by rw [r.length]; exact hi'.1
    have h2 : i < ws.length := by rw [r'.length]; exact hi'.2
    exact ⟨vs, ws, vs[i], ws[i], SqL.of (h _ _ s1 s2 sb), SqL.of (h' _ _ s1 s2 sb), List.getElem?_eq_getElem h1, List.getElem?_eq_getElem h2⟩
  stop := fun i F1 H1 s1 s2 sb hi => by
    have hi' : xs.length ≤ i ∨ ys.length ≤ i := by
      have : min xs.length ys.length ≤ i := by simpa [zipD] using hi
      omega
    exact ⟨vs, ws, SqL.of (h _ _ s1 s2 sb), SqL.of (h' _ _ s1 s2 sb), by rw [r.length, r'.length]; exact hi'⟩
  yld := fun i x F1 H1 H2 σ Γ st s1 ok hi y => by
    obtain ⟨T, u, v, e1, nT, e2, f1, f2⟩ := y
    subst e1 e2
    obtain ⟨d1, g1, q1⟩ := r.get (f1 vs (SqL.of (h.at s1 ok)))
    obtain ⟨d2, g2, q2⟩ := r'.get (f2 ws (SqL.of (h'.at s1 ok)))
    obtain ⟨F2, s2, q⟩ := new_pair ok nT (q1.mono s1) (q2.mono s1)
    exact ⟨_, F2, by simp [zipD, List.getElem?_zipWith, g1, g2], s2, q⟩
theorem it_zipT {K : PySem.W.Frag} {F : Hp} {a b : Addr} {vs ws : List V} {xs ys : List D} (h : SqT K F a vs) (h' : SqT K F b ws) (r : Reps k F vs xs) (r' : Reps k F ws ys) : ItOk k (ItzT K a b) F (zipD xs ys) where
  go := fun i F1 H1 s1 s2 _ hi => by
    have hi' : i < xs.length ∧ i < ys.length := by
      have : i < min xs.length ys.length := by simpa [zipD] using hi
      omega
    have h1 : i < vs.length := by rw [r.length]; exact hi'.1
    have h2 : i < ws.length := by rw [r'.length]; exact hi'.2
    exact ⟨vs, ws, vs[i], ws[i], sqt_mono (s1.trans s2) h, sqt_mono (s1.trans s2) h', List.getElem?_eq_getElem h1, List.getElem?_eq_getElem h2⟩
  stop := fun i F1 H1 s1 s2 _ hi => by
    have hi' : xs.length ≤ i ∨ ys.length ≤ i := by
      have : min xs.length ys.length ≤ i := by simpa [zipD] using hi
      omega
    exact ⟨vs, ws, sqt_mono (s1.trans s2) h, sqt_mono (s1.trans s2) h', by rw [r.length, r'.length]; exact hi'⟩
  yld := fun i x F1 H1 H2 σ Γ st s1 ok hi y => by
    obtain ⟨T, u, v, e1, nT, e2, f1, f2⟩ := y
    subst e1 e2
    obtain ⟨d1, g1, q1⟩ := r.get (f1 vs (sqt_mono (s1.trans ok.sub) h))
    obtain ⟨d2, g2, q2⟩ := r'.get (f2 ws (sqt_mono (s1.trans ok.sub) h'))
    obtain ⟨F2, s2, q⟩ := new_pair ok nT (q1.mono s1) (q2.mono s1)
    exact ⟨_, F2, by simp [zipD, List.getElem?_zipWith, g1, g2], s2, q⟩
def gZip : List D → M (List D) := fun ds st => match ds with
  | [.tup xs, .tup ys] => .ok (zipD xs ys) st
  | [d, e] => (match asL d, asL e with | some xs, some ys => .ok (zipD xs ys) st | _, _ => .stuck)
  | _ => .stuck
theorem i_zip {e2 : Expr} {elts : List Expr} {kk : Nat} {tpos : Pos} (hg : Gl X "zip") (hm : X.mg "zip" = none) (ha : PA X [e, e2] (tA k E mr)) (hk : k.K = X.K := by rfl)
    (hs : starEach [e, e2] X.env = (false, eval e X.env) :: starEach [e2] X.env := by rfl) (hpl : (backTo pos (starEach [e2] X.env)).any (·.1) = false := by rfl) :
    PI X (.Tuple elts kk tpos) (.Call (.Name "zip" p) [e, e2] [] pos) (tI k E (mSrc gZip mr)) :=
  PI.weak (pi_zipA hg hm ha hs hpl) fun σ H R ⟨F, Γ, st, ok, w⟩ => tA.then_ ok w fun vs ds F1 H1 st1 s1 ok1 r w1 => by
    unfold gZip at w1
    split at w1
    · match vs, r with
      | [_, _], .cons (.tup h r1) (.cons (.tup h' r2) .nil) =>
        rw [hk] at h h'
        exact ⟨_, _, _, _, rfl, .inr ⟨sqt_mono ok1.sub h, sqt_mono ok1.sub h', w1 F1 H1 ok1.refl _ (it_zipT h h' r1 r2)⟩⟩
    · split at w1
      · rename_i xs ys e1 e2
        match vs, r with
        | [_, _], .cons q1 (.cons q2 .nil) =>
          obtain ⟨a, vs1, rfl, r1, h1⟩ := asL_use q1 e1
          obtain ⟨b, vs2, rfl, r2, h2⟩ := asL_use q2 e2
          exact ⟨_, _, _, _, rfl, .inl ⟨SqL.of (h1.now ok1), SqL.of (h2.now ok1), w1 F1 H1 ok1.refl _ (it_zip h1 h2 r1 r2)⟩⟩
      · exact w1.elim
    · exact w1.elim
def enumD (xs : List D) : List D := (List.range xs.length).zipWith (fun i x => .tup [.int (i : Nat), x]) xs
theorem it_enum {K : PySem.W.Frag} {F : Hp} {a : Addr} {vs : List V} {xs : List D} (h : Stands k F a vs) (r : Reps k F vs xs) : ItOk k (Ite K a) F (enumD xs) where
  go := fun i F1 H1 s1 s2 sb hi => by
    have hi' : i < xs.length := by simpa [enumD] using hi
    have h1 : i < vs.length := by rw [r.length]; exact hi'
    exact ⟨vs, vs[i], SqL.of (h _ _ s1 s2 sb), List.getElem?_eq_getElem h1⟩
  stop := fun i F1 H1 s1 s2 sb hi => ⟨vs, SqL.of (h _ _ s1 s2 sb), by rw [r.length]; simpa [enumD] using hi⟩
  yld := fun i x F1 H1 H2 σ Γ st s1 ok hi y => by
    obtain ⟨T, u, e1, nT, e2, f1⟩ := y
    subst e1 e2
    have hi' : i < xs.length := by simpa [enumD] using hi
    obtain ⟨d1, g1, q1⟩ := r.get (f1 vs (SqL.of (h.at s1 ok)))
    obtain ⟨F2, s2, q⟩ := new_pair ok nT (.int (i : Nat)) (q1.mono s1)
    have g2 : xs[i] = d1 := by rw [List.getElem?_eq_getElem hi'] at g1; exact Option.some.inj g1
    exact ⟨_, F2, by simp [enumD, List.getElem?_zipWith, g1, hi', List.getElem?_range, g2], s2, q⟩
def gEnum : List D → M (List D) := fun ds st => match ds with
  | [d] => (match asL d with | some xs => .ok (enumD xs) st | none => .stuck)
  | _ => .stuck
theorem i_enum {elts : List Expr} {kk : Nat} {tpos : Pos} (hg : Gl X "enumerate") (hm : X.mg "enumerate" = none) (ha : PA X [e] (tA k E mr)) (hs : starEach [e] X.env = [(false, eval e X.env)] := by rfl) :
    PI X (.Tuple elts kk tpos) (.Call (.Name "enumerate" p) [e] [] pos) (tI k E (mSrc gEnum mr)) :=
  PI.weak (pi_enum hg hm ha hs) fun σ H R ⟨F, Γ, st, ok, w⟩ => tA.then_ ok w fun vs ds F1 H1 st1 s ok1 r w1 => by
    unfold gEnum at w1
    split at w1
    · split at w1
      · rename_i xs e1
        match vs, r with
        | [_], .cons q1 .nil =>
          obtain ⟨a, vs1, rfl, r1, h1⟩ := asL_use q1 e1
          exact ⟨_, _, rfl, SqL.of (h1.now ok1), w1 F1 H1 ok1.refl _ (it_enum h1 r1)⟩
      · exact w1.elim
    · exact w1.elim
end
end FL

/-! FL8: lists that a frame alone has: made, lent, written -/
namespace FL
open PySem PySem.Spec PyProof.Rows L2

def gOwn (i : Nat) (Γ : Ev) : Option (List D) := match Γ[i]? with
  | some (some (.own xs)) => some xs
  | _ => none
theorem gOwn_use {i : Nat} {Γ : Ev} {xs : List D} (h : gOwn i Γ = some xs) : Γ[i]? = some (some (.own xs)) := by
  unfold gOwn at h
  split at h
  · rename_i ys e
    cases h
    exact e
  · cases h
section
variable {k : Kx} {G H0 P F H F1 H1 : Hp} {σ : L2.St} {Γ : Ev} {st st1 : DS}
theorem OkS.fresh0 (o : OkS k G H0 P F H σ Γ st) {a : Addr} (h : H a = none) : H0 a = none := o.toStep.back h
theorem Ok.bnone (o : Ok k F H σ Γ st) {a : Addr} (h : H a = none) : k.B a = none := o.bsub.free h
/-- slot i gets a list that is new -/
theorem OkS.setO (o : OkS k G H0 P F H σ Γ st) (s : Step k F H F1 H1 st1) {a : Addr} {vs : List V} {xs : List D} (i : Nat) (h0 : H a = none) (h1 : H1 a = some (.lst vs)) (f1 : F1 a = none) (r : Reps k F1 vs xs) :
    OkS k G H0 P F1 H1 (σ.set i (some (.ref a))) (Γ.set i (some (.own xs))) st1 := by
  have o1 := o.step s
  have nd : ¬ k.hot a := o.ok.cold h0
  have old : ∀ (j : Nat) ys b, Γ[j]? = some (some (.own ys)) → σ[j]? = some (some (.ref b)) → b ≠ a := fun j ys b e1 e2 z => by
    obtain ⟨v, e3, c, ws, e4, e5, _⟩ := o.ok.slot j _ e1
    rw [e2] at e3
    cases e3
    cases e4
    rw [z, h0] at e5
    cases e5
  have at_i : ∀ (j : Nat) x, (Γ.set i (some (.own xs)))[j]? = some (some x) → (j = i ∧ x = .own xs ∧ (σ.set i (some (.ref a)))[j]? = some (some (.ref a))) ∨ (j ≠ i ∧ Γ[j]? = some (some x) ∧ (σ.set i (some (.ref a)))[j]? = σ[j]?) := by
    intro j x e
    by_cases hj : i = j
    · subst hj
      by_cases hl : i < Γ.length
      · rw [List.getElem?_set_self hl] at e
        cases e
        exact .inl ⟨rfl, rfl, List.getElem?_set_self (o.ok.len ▸ hl)⟩
      · rw [List.getElem?_eq_none (by simp; omega)] at e
        cases e
    · rw [List.getElem?_set_ne hj] at e
      exact .inr ⟨fun z => hj z.symm, e, List.getElem?_set_ne hj⟩
  refine ⟨⟨o1.ok.sub, o1.ok.at_, o1.ok.hid, o1.ok.bsub, o1.ok.blst, o1.ok.tabs, o1.ok.ftbl, by simp [o1.ok.len], fun j x e => ?_, fun j l ys zs b e1 e2 e3 e4 => ?_⟩, o1.per, o1.ext0, o1.stay0, o1.kept0, o1.nof0, fun j ys b e1 e2 => ?_, o1.base⟩
  · rcases at_i j x e with ⟨_, rfl, e2⟩ | ⟨_, e2, e3⟩
    · exact ⟨_, e2, a, vs, rfl, h1, f1, nd, o.ok.bnone h0, r⟩
    · rw [e3]
      exact o1.ok.slot j x e2
  · rcases at_i j _ e1 with ⟨rfl, _, f2⟩ | ⟨n1, f1', f2⟩
    · rcases at_i l _ e2 with ⟨rfl, _, _⟩ | ⟨n2, g1, g2⟩
      · rfl
      · rw [f2] at e3
        cases e3
        rw [g2] at e4
        exact absurd rfl (old l _ _ g1 e4)
    · rcases at_i l _ e2 with ⟨rfl, _, g2⟩ | ⟨n2, g1, g2⟩
      · rw [g2] at e4
        cases e4
        rw [f2] at e3
        exact absurd rfl (old j _ _ f1' e3)
      · rw [f2] at e3
        rw [g2] at e4
        exact o1.ok.apart j l ys zs b f1' g1 e3 e4
  · rcases at_i j _ e1 with ⟨rfl, _, f2⟩ | ⟨n1, f1', f2⟩
    · rw [f2] at e2
      cases e2
      exact o.fresh0 h0
    · rw [f2] at e2
      exact o1.own0 j ys b f1' e2
/-- the list of slot i is written -/
theorem OkS.mut (o : OkS k G H0 P F H σ Γ st) {i : Nat} {a : Addr} {xs ys : List D} {ws : List V} (e1 : Γ[i]? = some (some (.own xs))) (e2 : σ[i]? = some (some (.ref a))) (r : Reps k F ws ys) :
    OkS k G H0 P F (L2.upd H a (.lst ws)) σ (Γ.set i (some (.own ys))) st := by
  obtain ⟨v, e3, b, vs, e4, ha, fa, nd, nb, r0⟩ := o.ok.slot i _ e1
  rw [e2] at e3
  cases e3
  cases e4
  have hi : i < Γ.length := (List.getElem?_eq_some_iff.mp e1).1
  have h0 := o.own0 i _ _ e1 e2
  have at_i : ∀ (j : Nat) x, (Γ.set i (some (.own ys)))[j]? = some (some x) → (j = i ∧ x = .own ys) ∨ (j ≠ i ∧ Γ[j]? = some (some x)) := by
    intro j x e
    by_cases hj : i = j
    · subst hj
      rw [List.getElem?_set_self hi] at e
      cases e
      exact .inl ⟨rfl, rfl⟩
    · rw [List.getElem?_set_ne hj] at e
      exact .inr ⟨fun z => hj z.symm, e⟩
  refine ⟨⟨fun b u e => ?_, fun h => (o.ok.at_ h).upd h nd, o.ok.hid, fun b u e => ?_, o.ok.blst, tabs_upd o.ok.tabs (.inr ⟨_, ha⟩), o.ok.ftbl, by simp [o.ok.len], fun j x e => ?_, fun j l us zs b q1 q2 q3 q4 => ?_⟩, o.per, o.ext0, fun b u e n1 n3 => ?_, fun b u e => ?_, o.nof0, fun j us b q1 q2 => ?_, o.base⟩
  · rw [upd_ne (fun z => by rw [z, fa] at e; cases e)]
    exact o.ok.sub b u e
  · rw [upd_ne (fun z => by rw [z, nb] at e; cases e)]
    exact o.ok.bsub b u e
  · rcases at_i j x e with ⟨rfl, rfl⟩ | ⟨hj, e'⟩
    · exact ⟨_, e2, a, ws, rfl, upd_same, fa, nd, nb, r⟩
    · obtain ⟨v, q1, q2⟩ := o.ok.slot j x e'
      refine ⟨v, q1, ?_⟩
      cases x with
      | dat d => exact q2
      | own us =>
        obtain ⟨c, ls, rfl, hc, fc, n1, n3, rr⟩ := q2
        have hca : c ≠ a := fun z => by
          subst z
          exact hj (o.ok.apart j i _ _ _ e' e1 q1 e2)
        exact ⟨c, ls, rfl, by rw [upd_ne hca]; exact hc, fc, n1, n3, rr⟩
  · rcases at_i j _ q1 with ⟨rfl, _⟩ | ⟨n1, p1⟩
    · rcases at_i l _ q2 with ⟨rfl, _⟩ | ⟨n2, p2⟩
      · rfl
      · exact o.ok.apart _ l _ _ b e1 p2 q3 q4
    · rcases at_i l _ q2 with ⟨rfl, _⟩ | ⟨n2, p2⟩
      · exact o.ok.apart j _ _ _ b p1 e1 q3 q4
      · exact o.ok.apart j l _ _ b p1 p2 q3 q4
  · rw [upd_ne (fun z => by rw [z, h0] at e; cases e)]
    exact o.stay0 b u e n1 n3
  · rw [upd_ne (fun z => by rw [z, h0] at e; cases e)]
    exact o.kept0 b u e
  · rcases at_i j _ q1 with ⟨rfl, _⟩ | ⟨n1, p1⟩
    · exact o.own0 _ _ _ e1 q2
    · exact o.own0 j _ _ p1 q2
/-- the list of slot i is frozen -/
theorem OkS.frz (o : OkS k G H0 P F H σ Γ st) {i : Nat} {xs : List D} (e1 : Γ[i]? = some (some (.own xs))) : ∃ F', OkS k G H0 P F' H σ (Γ.set i (some (.dat (.lst xs)))) st := by
  obtain ⟨v, e2, a, vs, rfl, ha, fa, nd, nb, r⟩ := o.ok.slot i _ e1
  have hi : i < Γ.length := (List.getElem?_eq_some_iff.mp e1).1
  have h0 := o.own0 i _ _ e1 e2
  have ext : Same F (L2.upd F a (.lst vs)) := fun b u e => by rw [upd_ne (fun z => by rw [z, fa] at e; cases e)]; exact e
  have at_i : ∀ (j : Nat) x, (Γ.set i (some (.dat (.lst xs))))[j]? = some (some x) → (j = i ∧ x = .dat (.lst xs)) ∨ (j ≠ i ∧ Γ[j]? = some (some x)) := by
    intro j x e
    by_cases hj : i = j
    · subst hj
      rw [List.getElem?_set_self hi] at e
      cases e
      exact .inl ⟨rfl, rfl⟩
    · rw [List.getElem?_set_ne hj] at e
      exact .inr ⟨fun z => hj z.symm, e⟩
  have un : ∀ (j : Nat) us, (Γ.set i (some (.dat (.lst xs))))[j]? = some (some (.own us)) → Γ[j]? = some (some (.own us)) ∧ j ≠ i := fun j us e => by
    rcases at_i j _ e with ⟨_, z⟩ | ⟨hj, z⟩
    · cases z
    · exact ⟨z, hj⟩
  refine ⟨L2.upd F a (.lst vs), ⟨fun b u e => ?_, o.ok.at_, fun h => ⟨by rw [upd_ne (fun z => nd ⟨h, .inl z.symm⟩)]; exact (o.ok.hid h).fdl, by rw [upd_ne (fun z => nd ⟨h, .inr z.symm⟩)]; exact (o.ok.hid h).fcl, (o.ok.hid h).ne, (o.ok.hid h).bdl, (o.ok.hid h).bcl⟩, o.ok.bsub, o.ok.blst, o.ok.tabs, fun b x h => by
      by_cases hb : b = a
      · subst hb; rw [upd_same] at h; cases h; exact ltbl
      · rw [upd_ne hb] at h; exact o.ok.ftbl _ _ h
    , by simp [o.ok.len], fun j x e => ?_, fun j l us zs b q1 q2 => o.ok.apart j l us zs b (un j us q1).1 (un l zs q2).1⟩, o.per.trans ext, o.ext0.trans ext, o.stay0, o.kept0, fun b u e g => ?_, fun j us b q => o.own0 j us b (un j us q).1, o.base⟩
  · by_cases hb : b = a
    · subst hb
      rw [upd_same] at e
      rw [ha]
      exact e
    · rw [upd_ne hb] at e
      exact o.ok.sub b u e
  · rcases at_i j x e with ⟨rfl, rfl⟩ | ⟨hj, e'⟩
    · exact ⟨_, e2, .lst upd_same (r.mono ext)⟩
    · obtain ⟨v, q1, q2⟩ := o.ok.slot j x e'
      refine ⟨v, q1, ?_⟩
      cases x with
      | dat d => exact Rep.mono ext q2
      | own us =>
        obtain ⟨c, ls, rfl, hc, fc, n1, n3, rr⟩ := q2
        have hca : c ≠ a := fun z => by
          subst z
          exact hj (o.ok.apart j i _ _ _ e' e1 q1 e2)
        exact ⟨c, ls, rfl, hc, by rw [upd_ne hca]; exact fc, n1, n3, rr.mono ext⟩
  · rw [upd_ne (fun z => by rw [z, h0] at e; cases e)]
    exact o.nof0 b u e g
end

section
variable {X : Cx} {k : Kx} {E : XE} {e : Expr} {m : Ev → M (List D)} {pos : Pos} {st : Stmt} {sm : SM}
/-- the statement sees slot i's list as data, from here on -/
def mFrzS (i : Nat) (sm : SM) : SM := fun Γ => match gOwn i Γ with
  | some xs => sm (Γ.set i (some (.dat (.lst xs))))
  | none => sm Γ
theorem s_frz (i : Nat) (h : PS X st (tS k E sm)) : PS X st (tS k E (mFrzS i sm)) := PS.weak h fun D σ H ⟨G, H0, P, F, Γ, s, ok, w⟩ => by
  unfold mFrzS at w
  cases eg : gOwn i Γ with
  | some xs =>
    rw [eg] at w
    obtain ⟨F', ok'⟩ := ok.frz (gOwn_use eg)
    exact ⟨G, H0, P, F', _, s, ok', w⟩
  | none =>
    rw [eg] at w
    exact ⟨G, H0, P, F, Γ, s, ok, w⟩
def mSetO (i : Nat) (m : Ev → M (List D)) : SM := fun Γ => sE (m Γ) Γ fun xs => pure (.nx (Γ.set i (some (.own xs))))
theorem setO_imp {i : Nat} {D0 : Ends} {σ : L2.St} {H : Hp} (h : tS k E (mSetO i m) D0 σ H) : tO k E m σ H fun x H1 => gName i x σ H1 D0.nx := by
  obtain ⟨G, H0, P, F, Γ, st, ok, w⟩ := h
  refine ⟨F, Γ, st, ok.ok, (Wp.inS (o := m Γ st) ok w).mono fun xs F1 H1 st1 s w1 a vs h1 f1 h0 r => ?_⟩
  exact w1 _ F1 H1 (ok.setO s i h0 h1 f1 r)
theorem s_setO {i : Nat} {x : Str} {pos' : Pos} (hN : X.N.Nodup) (he : PE X e (tO k E m)) (hi : X.N[i]? = some x := by rfl) (hx : Loc X.env.scope x := by first | exact Or.inl rfl | exact Or.inr rfl) (hs : swapsWith e (some (.Name x pos')) pos.line X.env = pure false := by rfl) (hf : X.fn x = true ∨ X.env.scope.names.lookup x = some .local := by first | exact .inl rfl | exact .inr rfl | assumption) :
    PS X (.Assign [.Name x pos'] e pos) (tS k E (mSetO i m)) := PS.weak (ps_set hN hi hx he hs hf) fun D σ H h => setO_imp h
section
variable {i : Nat} {y : Str} {py : Pos} {elt tg iter : Expr} {ifs : List Expr} {scope : Scope} {own : List (Str × Nat)} {spos : Pos} {mi : Ev → M (List D)} {g : GM} {js : List Nat} {t : Ev → M Bool} {me : EM}
/-- x = [..] on one line, x a plain local -/
theorem s_lcO (hc : X.calm = true) (hN : X.N.Nodup) (hsw : swapsWith (.ListComp elt [⟨tg, iter, ifs, 0⟩] scope pos) (some (.Name y py)) spos.line X.env = pure true) (hi : PI X tg iter (tI k E mi)) (ok : BlkOk X.N X.env.scope scope own) (hj : ∀ j ∈ js, j ∈ own.map (·.2))
    (hg : ∀ (s : Shared) (H : Hp) (C : Addr) (cl : List (Str × Addr)) (fp : List Addr), PG (X.blk s H scope (compEnvC scope cl C X.env) fp) tg (gM k js g)) (ht : ∀ (s : Shared) (H : Hp) (C : Addr) (cl : List (Str × Addr)) (fp : List Addr), PTs (X.blk s H scope (compEnvC scope cl C X.env) fp) ifs (tT k EF t))
    (he : ∀ (s : Shared) (H : Hp) (C : Addr) (cl : List (Str × Addr)) (fp : List Addr), PE (X.blk s H scope (compEnvC scope cl C X.env) fp) elt (tM k EF me)) (hy : X.N[i]? = some y := by rfl) (hyl : X.env.scope.names.lookup y = some .local := by rfl) (hs : ∀ x, foldedSetIterable iter X.env x = pure x := by intro _; rfl) :
    PS X (.Assign [.Name y py] (.ListComp elt [⟨tg, iter, ifs, 0⟩] scope pos) spos) (tS k E (mSetO i (mComp mi g t me (own.map (·.2))))) :=
  PS.weak (ps_setLc hc hN hy hyl hsw hi ok hg ht he hs) fun D σ H h => lc_imp hj (setO_imp h)
theorem s_lc (hc : X.calm = true) (hN : X.N.Nodup) (hsw : swapsWith (.ListComp elt [⟨tg, iter, ifs, 0⟩] scope pos) (some (.Name y py)) spos.line X.env = pure true) (hi : PI X tg iter (tI k E mi)) (ok : BlkOk X.N X.env.scope scope own) (hj : ∀ j ∈ js, j ∈ own.map (·.2))
    (hg : ∀ (s : Shared) (H : Hp) (C : Addr) (cl : List (Str × Addr)) (fp : List Addr), PG (X.blk s H scope (compEnvC scope cl C X.env) fp) tg (gM k js g)) (ht : ∀ (s : Shared) (H : Hp) (C : Addr) (cl : List (Str × Addr)) (fp : List Addr), PTs (X.blk s H scope (compEnvC scope cl C X.env) fp) ifs (tT k EF t))
    (he : ∀ (s : Shared) (H : Hp) (C : Addr) (cl : List (Str × Addr)) (fp : List Addr), PE (X.blk s H scope (compEnvC scope cl C X.env) fp) elt (tM k EF me)) (hy : X.N[i]? = some y := by rfl) (hyl : X.env.scope.names.lookup y = some .local := by rfl) (hs : ∀ x, foldedSetIterable iter X.env x = pure x := by intro _; rfl) :
    PS X (.Assign [.Name y py] (.ListComp elt [⟨tg, iter, ifs, 0⟩] scope pos) spos) (tS k E (mAsg (mFrz (mComp mi g t me (own.map (·.2)))) (mgName i))) :=
  PS.weak (ps_setLc hc hN hy hyl hsw hi ok hg ht he hs) fun D σ H ⟨G, H0, P, F, Γ, st, ok, w⟩ => by
    have q : tM k E (mFrz (mComp mi g t me (own.map (·.2)))) σ H fun x H1 => gName i x σ H1 D.nx := tM.inS ok w fun v d F1 H1 st1 s ok1 r w1 => w1 _ F1 H1 (ok1.upd (Upd.set ok1.ok.len r))
    exact lc_imp hj (frz_imp q)
end
/-! ### lent -/
mutual
def noBor : D → Bool
  | .tup xs => noBors xs
  | .lst xs => noBors xs
  | .bor _ => false
  | .kl xs => noBors xs
  | .ins _ _ xs => noBors xs
  | _ => true
def noBors : List D → Bool
  | [] => true
  | d :: ds => noBor d && noBors ds
end
section
variable {K : PySem.W.Frag} {on : Bool} {dl cl : Addr} {B B' : Hp} {F : Hp} {T : List (Addr × Str)}
mutual
theorem Rep.noB : ∀ {v : V} {d : D}, Rep ⟨K, on, dl, cl, B, T⟩ F v d → noBor d = true → Rep ⟨K, on, dl, cl, B', T⟩ F v d
  | _, _, .non, _ => .non
  | _, _, .bl b, _ => .bl b
  | _, _, .int i, _ => .int i
  | _, _, .str x, _ => .str x
  | _, _, .tup h r, n => .tup h (Reps.noB r (by rw [noBor] at n; exact n))
  | _, _, .lst h r, n => .lst h (Reps.noB r (by rw [noBor] at n; exact n))
  | _, _, .bor h r, n => by rw [noBor] at n; cases n
  | _, _, .kl h r, n => .kl h (Reps.noB r (by rw [noBor] at n; exact n))
  | _, _, .deal h, _ => .deal h
  | _, _, .ins h h2 e r, n => .ins h h2 e (Reps.noB r (by rw [noBor] at n; exact n))
theorem Reps.noB : ∀ {vs : List V} {ds : List D}, Reps ⟨K, on, dl, cl, B, T⟩ F vs ds → noBors ds = true → Reps ⟨K, on, dl, cl, B', T⟩ F vs ds
  | _, _, .nil, _ => .nil
  | _, _, .cons h t, n => by
    rw [noBors, Bool.and_eq_true] at n
    exact .cons (Rep.noB h n.1) (Reps.noB t n.2)
end
mutual
theorem Rep.upB (s : Same B B') : ∀ {v : V} {d : D}, Rep ⟨K, on, dl, cl, B, T⟩ F v d → Rep ⟨K, on, dl, cl, B', T⟩ F v d
  | _, _, .non => .non
  | _, _, .bl b => .bl b
  | _, _, .int i => .int i
  | _, _, .str x => .str x
  | _, _, .tup h r => .tup h (Reps.upB s r)
  | _, _, .lst h r => .lst h (Reps.upB s r)
  | _, _, .bor h r => .bor (s _ _ h) (Reps.upB s r)
  | _, _, .kl h r => .kl h (Reps.upB s r)
  | _, _, .deal h => .deal h
  | _, _, .ins h h2 e r => .ins h h2 e (Reps.upB s r)
theorem Reps.upB (s : Same B B') : ∀ {vs : List V} {ds : List D}, Reps ⟨K, on, dl, cl, B, T⟩ F vs ds → Reps ⟨K, on, dl, cl, B', T⟩ F vs ds
  | _, _, .nil => .nil
  | _, _, .cons h t => .cons (Rep.upB s h) (Reps.upB s t)
end
theorem Step.anyB {H F' H' : Hp} {st' : DS} (s : Step ⟨K, on, dl, cl, B, T⟩ F H F' H' st') : Step ⟨K, on, dl, cl, B', T⟩ F H F' H' st' := ⟨s.ext, s.stay, s.kept, s.nof, s.tabs, s.ftbl, s.sub, fun h => ⟨(s.at_ h).few, (s.at_ h).dl, (s.at_ h).cl⟩⟩
/-- slot i's list is lent -/
theorem Ok.lend {H : Hp} {σ : L2.St} {Γ : Ev} {st : DS} (o : Ok ⟨K, on, dl, cl, B, T⟩ F H σ Γ st) {i : Nat} {xs : List D} (e1 : Γ[i]? = some (some (.own xs))) : ∃ B', Same B B' ∧ Ok ⟨K, on, dl, cl, B', T⟩ F H σ (Γ.set i (some (.dat (.bor xs)))) st := by
  obtain ⟨v, e2, a, vs, rfl, ha, fa, nd, nb, r⟩ := o.slot i _ e1
  have hi : i < Γ.length := (List.getElem?_eq_some_iff.mp e1).1
  have ext : Same B (L2.upd B a (.lst vs)) := fun b u e => by rw [upd_ne (fun z => by rw [z] at e; rw [show B a = none from nb] at e; cases e)]; exact e
  have at_i : ∀ (j : Nat) x, (Γ.set i (some (.dat (.bor xs))))[j]? = some (some x) → (j = i ∧ x = .dat (.bor xs)) ∨ (j ≠ i ∧ Γ[j]? = some (some x)) := by
    intro j x e
    by_cases hj : i = j
    · subst hj
      rw [List.getElem?_set_self hi] at e
      cases e
      exact .inl ⟨rfl, rfl⟩
    · rw [List.getElem?_set_ne hj] at e
      exact .inr ⟨fun z => hj z.symm, e⟩
  have un : ∀ (j : Nat) us, (Γ.set i (some (.dat (.bor xs))))[j]? = some (some (.own us)) → Γ[j]? = some (some (.own us)) ∧ j ≠ i := fun j us e => by
    rcases at_i j _ e with ⟨_, z⟩ | ⟨hj, z⟩
    · cases z
    · exact ⟨z, hj⟩
  refine ⟨L2.upd B a (.lst vs), ext, o.sub, fun h => ⟨(o.at_ h).few, (o.at_ h).dl, (o.at_ h).cl⟩, fun h => ⟨(o.hid h).fdl, (o.hid h).fcl, (o.hid h).ne, ?_, ?_⟩, fun b u e => ?_, fun b u e => ?_, o.tabs, o.ftbl, by simp [o.len], fun j x e => ?_, fun j l us zs b q1 q2 => o.apart j l us zs b (un j us q1).1 (un l zs q2).1⟩
  · show L2.upd B a (.lst vs) dl = none
    rw [upd_ne (fun z => nd ⟨h, .inl z.symm⟩)]
    exact (o.hid h).bdl
  · show L2.upd B a (.lst vs) cl = none
    rw [upd_ne (fun z => nd ⟨h, .inr z.symm⟩)]
    exact (o.hid h).bcl
  · have e : L2.upd B a (.lst vs) b = some u := e
    by_cases hb : b = a
    · subst hb
      rw [upd_same] at e
      rw [ha]
      exact e
    · rw [upd_ne hb] at e
      exact o.bsub b u e
  · have e : L2.upd B a (.lst vs) b = some u := e
    by_cases hb : b = a
    · subst hb
      rw [upd_same] at e
      cases e
      exact ⟨_, rfl⟩
    · rw [upd_ne hb] at e
      exact o.blst b u e
  · rcases at_i j x e with ⟨rfl, rfl⟩ | ⟨hj, e'⟩
    · exact ⟨_, e2, .bor (show L2.upd B a (.lst vs) a = some (.lst vs) from upd_same) (r.upB ext)⟩
    · obtain ⟨v, q1, q2⟩ := o.slot j x e'
      refine ⟨v, q1, ?_⟩
      cases x with
      | dat d => exact Rep.upB ext q2
      | own us =>
        obtain ⟨c, ls, rfl, hc, fc, n1, n3, rr⟩ := q2
        have hca : c ≠ a := fun z => by
          subst z
          exact hj (o.apart j i _ _ _ e' e1 q1 e2)
        exact ⟨c, ls, rfl, hc, fc, n1, by show L2.upd B a (.lst vs) c = none; rw [upd_ne hca]; exact n3, rr.upB ext⟩
def mBor (i : Nat) (m : EM) : EM := fun Γ => match gOwn i Γ with
  | some xs => (do
    let d ← nxM (m (Γ.set i (some (.dat (.bor xs)))))
    if noBor d then pure d else halt)
  | none => m Γ
def mBorT (i : Nat) (m : Ev → M Bool) : Ev → M Bool := fun Γ => match gOwn i Γ with
  | some xs => nxM (m (Γ.set i (some (.dat (.bor xs)))))
  | none => m Γ
theorem e_bor (i : Nat) {m : EM} (h : ∀ B, PE X e (tM ⟨K, on, dl, cl, B, T⟩ E m)) : PE X e (tM ⟨K, on, dl, cl, B, T⟩ E (mBor i m)) := ⟨fun pins s σ H Q I ⟨F, Γ, st, ok, w⟩ => by
  unfold mBor at w
  cases eg : gOwn i Γ with
  | some xs =>
    rw [eg] at w
    obtain ⟨B', sB, ok'⟩ := ok.lend (gOwn_use eg)
    have w : Wp ⟨K, on, dl, cl, B, T⟩ E σ F H ((nxM (m (Γ.set i (some (.dat (.bor xs))))) st).bind fun d => (if noBor d = true then pure d else halt : M D)) (qD ⟨K, on, dl, cl, B, T⟩ Q) := w
    obtain ⟨d, st', em, w'⟩ := Wp.nx_ok w
    refine (h B').run pins s σ H Q I ⟨F, _, st, ok', ?_⟩
    rw [em]
    intro F' H' s' v r
    split at w'
    · rename_i nb
      exact w' F' H' s'.anyB v (r.noB nb)
    · exact w'.elim
  | none =>
    rw [eg] at w
    exact (h B).run pins s σ H Q I ⟨F, Γ, st, ok, w⟩⟩
theorem t_bor (i : Nat) {m : Ev → M Bool} (h : ∀ B, PT X e (tT ⟨K, on, dl, cl, B, T⟩ E m)) : PT X e (tT ⟨K, on, dl, cl, B, T⟩ E (mBorT i m)) := ⟨fun pins s σ H Q I ⟨F, Γ, st, ok, w⟩ => by
  unfold mBorT at w
  cases eg : gOwn i Γ with
  | some xs =>
    rw [eg] at w
    obtain ⟨B', sB, ok'⟩ := ok.lend (gOwn_use eg)
    refine (h B').run pins s σ H Q I ⟨F, _, st, ok', ?_⟩
    have w : Wp ⟨K, on, dl, cl, B, T⟩ E σ F H (nxM (m (Γ.set i (some (.dat (.bor xs))))) st) fun b _ H' _ => Q b H' := w
    unfold nxM at w
    revert w
    cases m (Γ.set i (some (.dat (.bor xs)))) st with
    | ok b st' => exact fun w F' H' s' => w F' H' s'.anyB
    | err C fs st' => exact fun w => w.elim
    | stuck => exact fun w => w.elim
  | none =>
    rw [eg] at w
    exact (h B).run pins s σ H Q I ⟨F, Γ, st, ok, w⟩⟩
end
/-! ### written -/
/-- x[i] = e -/
def gStore (i : Nat) (Γ : Ev) (xs : List D) (d ix : D) : M Fl := fun st => match ix with
  | .int n => (match ixN xs.length n with
    | some j => .ok (.nx (Γ.set i (some (.own (xs.set j d))))) st
    | none => .stuck)
  | _ => .stuck
def mStore (i : Nat) (me mi : EM) : SM := fun Γ => match gOwn i Γ with
  | some xs => sE (me Γ) Γ fun d => sE (mi Γ) Γ fun ix => gStore i Γ xs d ix
  | none => halt
theorem s_store (i : Nat) {x : Str} {px : Pos} {ie : Expr} {p2 : Pos} {me mi : EM} (he : PE X e (tM k E me)) (hi : PE X ie (tM k E mi)) (hN : X.N[i]? = some x := by rfl) (hv : Vis X.env.scope x := by first | exact Or.inl rfl | exact Or.inr (Or.inl rfl) | exact Or.inr (Or.inr rfl)) (hd : (x == ("__debug__" : Str)) = false := by decide) (hcd : (x == ("__classdict__" : Str)) = false := by decide)
    (hs : swapsWithSole [.Subscript (.Name x px) ie p2] e pos.line X.env = pure false := by rfl) (hw : swappedStores [.Subscript (.Name x px) ie p2] e X.env = pure none := by rfl) (h1 : (assignEach [.Subscript (.Name x px) ie p2] X.env).map (·.2) = [assign (.Subscript (.Name x px) ie p2) X.env] := by rfl)
    (ha : ∀ v, assign (.Subscript (.Name x px) ie p2) X.env v = (do
      let ov ← holding [v] (eval (.Name x px) X.env)
      let iv ← holding [v, ov] (eval ie X.env)
      standAt p2
      holding [v, ov, iv] (setItem ov iv v)
      release [v, ov, iv] []) := by intro _; rfl) : PS X (.Assign [.Subscript (.Name x px) ie p2] e pos) (tS k E (mStore i me mi)) :=
  PS.weak (ps_asg he (pg_sub (pv i hN hv hd hcd) hi set_list ha) hs hw h1) fun D σ H ⟨G, H0, P, F, Γ, st, ok, w⟩ => by
    unfold mStore at w
    cases eg : gOwn i Γ with
    | none => rw [eg] at w; exact w.elim
    | some xs =>
      rw [eg] at w
      refine tM.inS ok w fun v d F1 H1 st1 s1 ok1 r1 w1 => ?_
      obtain ⟨v0, e2, a, vs, rfl, _⟩ := ok1.ok.slot i _ (gOwn_use eg)
      refine ⟨.ref a, e2, tM.inS ok1 w1 fun iv ix F2 H2 st2 s2 ok2 r2 w2 => ?_⟩
      obtain ⟨v0', e2', a', vs', e3, ha', fa, n1, n3, rr⟩ := ok2.ok.slot i _ (gOwn_use eg)
      rw [e2] at e2'
      cases e2'
      cases e3
      unfold gStore at w2
      split at w2
      · rename_i n
        cases r2
        split at w2
        · rename_i j ej
          refine ⟨a, vs', n, j, rfl, rfl, ha', by rw [rr.length]; exact ej, ?_⟩
          exact w2 σ F2 _ (ok2.mut (gOwn_use eg) e2 (rr.set j (r1.mono s2.ext)))
        · exact w2.elim
      · exact w2.elim
/-- x.append(e) -/
def mApp (i : Nat) (me : EM) : SM := fun Γ => match gOwn i Γ with
  | some xs => sE (me Γ) Γ fun d => if decide (xs.length < sizeLine) then pure (.nx (Γ.set i (some (.own (xs ++ [d]))))) else halt
  | none => halt
theorem s_app (i : Nat) {x : Str} {px apos cpos : Pos} {me : EM} (he : PE X e (tM k E me)) (hN : X.N[i]? = some x := by rfl) (hv : Vis X.env.scope x := by first | exact Or.inl rfl | exact Or.inr (Or.inl rfl) | exact Or.inr (Or.inr rfl)) (hd : (x == ("__debug__" : Str)) = false := by decide) (hcd : (x == ("__classdict__" : Str)) = false := by decide)
    (hbase : attributeBase (.Name x px) "append" X.env (eval (.Name x px) X.env) = eval (.Name x px) X.env := by rfl)
    (hfew : ((backTo cpos (starEach [e] X.env)).all (fun x => !x.1) && (backToKw cpos (keywordEach [] X.env)).all (fun x => x.1.isSome)
      && decide ([e].length + ([] : List Keyword).length + (if ([] : List Keyword).isEmpty then 0 else 1) < 30)) = true := by rfl)
    (hline : (apos.endLine == cpos.line) = true := by rfl) (hs : starEach [e] X.env = (false, eval e X.env) :: starEach [] X.env := by rfl) (hplain : (backTo cpos (starEach [] X.env)).any (·.1) = false := by rfl)
    (hsw : swapsWith (.Call (.Attribute (.Name x px) "append" apos) [e] [] cpos) none pos.line X.env = pure false := by rfl) : PS X (.Expr (.Call (.Attribute (.Name x px) "append" apos) [e] [] cpos) pos) (tS k E (mApp i me)) :=
  PS.weak (ps_expr (pe_bm PySem.F.plainAttrs_list PySem.F.slot_list_append PySem.F.type_list_append mt_append (pv i hN hv hd hcd) (pa_cons he pa_nil hs) hbase hfew hline hs hplain) hsw) fun D σ H ⟨G, H0, P, F, Γ, st, ok, w⟩ => by
    unfold mApp at w
    cases eg : gOwn i Γ with
    | none => rw [eg] at w; exact w.elim
    | some xs =>
      rw [eg] at w
      obtain ⟨v0, e2, a, vs, rfl, ha, _⟩ := ok.ok.slot i _ (gOwn_use eg)
      refine ⟨.ref a, e2, .inl ⟨rfl, _, SqL.of ha⟩, tM.inS ok w fun v d F1 H1 st1 s1 ok1 r1 w1 => ?_⟩
      obtain ⟨v0', e2', a', vs', e3, ha', fa, n1, n3, rr⟩ := ok1.ok.slot i _ (gOwn_use eg)
      rw [e2] at e2'
      cases e2'
      cases e3
      split at w1
      · rename_i hz
        refine ⟨a, vs', v, rfl, rfl, ha', by rw [rr.length]; exact of_decide_eq_true hz, ?_⟩
        exact w1 σ F1 _ (ok1.mut (gOwn_use eg) e2 (rr.append (.cons r1 .nil)))
      · exact w1.elim
end
end FL

/-! FL9: the deal: a number below m is drawn -/
namespace FL
open PySem PySem.Spec PyProof.Rows L2

def popZ (ns : List Int) : List Int := (ns.reverse.dropWhile (· == 0)).reverse
theorem popZ_snoc0 (ns : List Int) : popZ (ns ++ [0]) = popZ ns := by simp [popZ]
theorem popZ_snoc (ns : List Int) {r : Int} (h : r ≠ 0) : popZ (ns ++ [r]) = ns ++ [r] := by simp [popZ, h]
theorem popZ_nil : popZ [] = [] := rfl
def anyI (c : Int) (st : DS) (m : Int) : Int × DS := match (popZ st.1).getLast? with
  | some r => (r % m, ((popZ st.1).dropLast ++ [r / m], st.2))
  | none => ((st.2 * 48271 + c) % 2147483647 / 64 % m, ([], (st.2 * 48271 + c) % 2147483647))
def gAnyD (c : Int) : List D → M D := fun ds st => match ds with
  | [.deal, .int m] => if decide (0 < m ∧ m.natAbs.log2 < 9000) then .ok (.int (anyI c st m).1) (anyI c st m).2 else .stuck
  | _ => .stuck
section
variable (K : PySem.W.Frag)
def rInt1 : List V → Hp → VK → Prop := fun xs H Q => (∃ i, xs = [.int i] ∧ Q (.int i) H) ∨ ∃ k, xs = [.bl k] ∧ Q (.int (if k then 1 else 0)) H
def rModI : R2 := rI (fun _ j => 0 < j) fun i j => .int (i % j)
def rMulI : R2 := rI (fun a b => (-(2 ^ 64) < a ∧ a < 2 ^ 64) ∨ (-(2 ^ 64) < b ∧ b < 2 ^ 64)) fun i j => .int (i * j)
def tD0 : TE := tOp (rIx K) (tVar 0) (tC (.int 0))
def tNe0 : TT := tTest (tOp (rNeD K) (tD0 K) (tLst L2.tNil))
def tLast0 : TT := tTest (tOp (rEqD K) (tOp (rIx K) (tD0 K) (tUn (rU fun i => .int (-i)) (tC (.int 1)))) (tC (.int 0)))
def tPop0 : TE := tBM0 K "list" rPop (tD0 K)
def tAnyB (c : Int) : TS :=
  tSeq (tWhile (L2.tAnd (tNe0 K) (tLast0 K)) (tDrop (tPop0 K)))
    (tSeq (tIfS (tNe0 K) (tSeq (tAsg (tCB rInt1 (L2.tCons (tPop0 K) L2.tNil)) (gName 2)) (tSeq (tDrop (tBM K "list" rAppend (tD0 K) (L2.tCons (tOp (rI CDivW fun i j => .int (i / j)) (tVar 2) (tVar 1)) L2.tNil))) (tRet (tOp rModI (tVar 2) (tVar 1))))) tNext)
      (tSeq (tAsg (tOp rModI (tCB rInt1 (L2.tCons (tOp (rI0 fun i j => .int (i + j)) (tOp rMulI (tOp (rIx K) (tVar 0) (tC (.int 1))) (tC (.int 48271))) (tC (.int c))) L2.tNil)) (tC (.int 2147483647))) (L2.gSub (tVar 0) (tC (.int 1)) rSetL))
        (tRet (tOp rModI (tCB rInt1 (L2.tCons (tOp (rI (fun _ j => 0 < j ∧ j < 1073741824) fun i j => .int (i / j)) (tOp (rIx K) (tVar 0) (tC (.int 1))) (tC (.int 64))) L2.tNil)) (tVar 1)))))
end
theorem dpInts {K : PySem.W.Frag} {H : Hp} : ∀ ns : List Int, DpAll K H (ns.map V.int) (ns.map PyData.int)
  | [] => .nil
  | n :: ns => .cons (.int n) (dpInts ns)
theorem canLayInts : ∀ ns : List Int, PyData.canLayAll0 (ns.map PyData.int) = true
  | [] => by simp [PyData.canLayAll0]
  | n :: ns => by simp [PyData.canLayAll0, PyData.canLay0, canLayInts ns]
theorem depthInts : ∀ ns : List Int, PyData.depthAll (ns.map PyData.int) = 0
  | [] => by simp [PyData.depthAll]
  | n :: ns => by simp [PyData.depthAll, PyData.depth, depthInts ns]
theorem shapedInts (ns : List Int) : SeqAt.shaped (.list (ns.map PyData.int)) = true := by
  simp [SeqAt.shaped, PyData.canLay0, PyData.depth, canLayInts, depthInts]
theorem eqvNil : ∀ ns : List Int, PyData.eqv (.list (ns.map PyData.int)) (.list []) = ns.isEmpty
  | [] => by simp [PyData.eqv, PyData.eqvAll]
  | n :: ns => by simp [PyData.eqv, PyData.eqvAll]
section
variable {k : Kx} {F H : Hp} {σ : L2.St} {st : DS}
theorem d0_run {Q : VK} (ok : Ok k F H [] [] st) (on : k.on = true) (h0 : σ[0]? = some (some (.ref k.dl))) (q : Q (.ref k.cl) H) : tD0 k.K σ H Q :=
  ⟨_, h0, .inl ⟨k.dl, _, 0, _, rfl, rfl, SqL.of (ok.at_ on).dl, rfl, q⟩⟩
theorem ne0_run {Q : Bool → Hp → Prop} (ok : Ok k F H [] [] st) (on : k.on = true) (h0 : σ[0]? = some (some (.ref k.dl))) (q : ∀ H1, Ok k F H1 [] [] st → Step k F H F H1 st → Q (!st.1.isEmpty) H1) : tNe0 k.K σ H Q := by
  refine d0_run ok on h0 ⟨Nat.zero_le _, fun p np => ?_⟩
  have s := ok.new' (ob := .lst []) np
  have ok1 := ok.step s
  refine ⟨.list (st.1.map .int), .list [], .lst (SqL.of (ok1.at_ on).cl) (dpInts _), .lst (SqL.of upd_same) .nil, shapedInts _, shapedInts [], _, rfl, ?_⟩
  rw [eqvNil]
  exact q _ ok1 s
theorem atLast {α : Type} (xs : List α) (x : α) : atI (xs ++ [x]) (-1) = some x := by
  unfold atI
  have e : ixN (xs ++ [x]).length (-1) = some xs.length := by
    unfold ixN
    rw [if_neg (by decide), if_pos (by simp; omega)]
    simp
    omega
  rw [e]
  simp
theorem last0_run {Q : Bool → Hp → Prop} {ns : List Int} {r : Int} (ok : Ok k F H [] [] st) (on : k.on = true) (h0 : σ[0]? = some (some (.ref k.dl))) (e : st.1 = ns ++ [r]) (q : Q (r == 0) H) : tLast0 k.K σ H Q := by
  refine d0_run ok on h0 ⟨1, rfl, .inl ⟨k.cl, _, -1, .int r, rfl, rfl, SqL.of (ok.at_ on).cl, by rw [e, List.map_append]; exact atLast _ _, ?_⟩⟩
  refine ⟨.int r, .int 0, .int _, .int _, by simp [SeqAt.shaped, PyData.canLay0, PyData.depth], by decide +kernel, _, rfl, ?_⟩
  have e2 : PyData.eqv (.int r) (.int 0) = (r == 0) := by simp [PyData.eqv]
  rw [e2]
  exact q
/-- the cells are written -/
theorem Ok.cells (ok : Ok k F H [] [] st) (on : k.on = true) {ns : List Int} (hn : ns.length ≤ 63) : Step k F H F (L2.upd H k.cl (.lst (ns.map V.int))) (ns, st.2) where
  ext := fun _ _ h => h
  stay := fun a o h n _ => by rw [upd_ne (fun z => n ⟨on, .inr z⟩)]; exact h
  kept := fun a o h => by
    by_cases z : a = k.cl
    · subst z; exact ⟨_, upd_same⟩
    · exact ⟨o, by rw [upd_ne z]; exact h⟩
  nof := fun _ _ _ f => f
  tabs := tabs_upd ok.tabs (.inr ⟨_, (ok.at_ on).cl⟩)
  ftbl := ok.ftbl
  sub := fun b o e => by rw [upd_ne (fun z => by rw [z, (ok.hid on).fcl] at e; cases e)]; exact ok.sub b o e
  at_ := fun _ => ⟨hn, by rw [upd_ne (ok.hid on).ne]; exact (ok.at_ on).dl, upd_same⟩
/-- the mix is written -/
theorem Ok.mix (ok : Ok k F H [] [] st) (on : k.on = true) (b : Int) : Step k F H F (L2.upd H k.dl (.lst [.ref k.cl, .int b])) (st.1, b) where
  ext := fun _ _ h => h
  stay := fun a o h n _ => by rw [upd_ne (fun z => n ⟨on, .inl z⟩)]; exact h
  kept := fun a o h => by
    by_cases z : a = k.dl
    · subst z; exact ⟨_, upd_same⟩
    · exact ⟨o, by rw [upd_ne z]; exact h⟩
  nof := fun _ _ _ f => f
  tabs := tabs_upd ok.tabs (.inr ⟨_, (ok.at_ on).dl⟩)
  ftbl := ok.ftbl
  sub := fun b o e => by rw [upd_ne (fun z => by rw [z, (ok.hid on).fdl] at e; cases e)]; exact ok.sub b o e
  at_ := fun _ => ⟨(ok.at_ on).few, upd_same, by rw [upd_ne (ok.hid on).ne.symm]; exact (ok.at_ on).cl⟩
theorem pop0_run {Q : VK} {ns : List Int} {r : Int} (ok : Ok k F H [] [] st) (on : k.on = true) (h0 : σ[0]? = some (some (.ref k.dl))) (e : st.1 = ns ++ [r]) (q : ∀ H1, Ok k F H1 [] [] (ns, st.2) → Step k F H F H1 (ns, st.2) → Q (.int r) H1) : tPop0 k.K σ H Q := by
  have A := ok.at_ on
  have hn : ns.length ≤ 63 := by
    have := A.few
    rw [e] at this
    simp at this
    omega
  have s := ok.cells on hn
  refine d0_run ok on h0 ⟨.inl ⟨rfl, _, SqL.of A.cl⟩, k.cl, _, .int r, rfl, rfl, A.cl, ?_, ?_⟩
  · rw [e]; simp
  · have e2 : (st.1.map V.int).dropLast = ns.map V.int := by rw [e]; simp
    rw [e2]
    exact q _ (ok.step s) s
theorem any_run {c m : Int} {D0 : Ends} (ok : Ok k F H [] [] st) (on : k.on = true) (hm : 0 < m ∧ m.natAbs.log2 < 9000) (q : ∀ H', Step k F H F H' (anyI c st m).2 → D0.rt (.int (anyI c st m).1) H') :
    tAnyB k.K c D0 [some (.ref k.dl), some (.int m), none] H := by
  refine ⟨fun n σ H' => ∃ ns, n = ns.length ∧ σ = [some (.ref k.dl), some (.int m), none] ∧ Ok k F H' [] [] (ns, st.2) ∧ Step k F H F H' (ns, st.2) ∧ popZ ns = popZ st.1, ⟨_, st.1, rfl, rfl, ok, ok.refl, rfl⟩, ?_⟩
  rintro n σ H1 ⟨ns, rfl, rfl, ok1, s1, e1⟩
  refine ne0_run ok1 on rfl fun H2 ok2 s2 => ?_
  have s12 := ok.trans s1 s2
  rcases List.eq_nil_or_concat ns with en | ⟨ms, r, en⟩
  · subst en
    refine iteF (iteF (ne0_run ok2 on rfl fun H3 ok3 s3 => iteF ?_))
    have s13 := ok.trans s12 s3
    have A := ok3.at_ on
    have ea : anyI c st m = ((st.2 * 48271 + c) % 2147483647 / 64 % m, ([], (st.2 * 48271 + c) % 2147483647)) := by
      unfold anyI
      rw [← e1]
      rfl
    rw [ea] at q
    refine ⟨_, rfl, .inl ⟨k.dl, _, 1, _, rfl, rfl, SqL.of A.dl, rfl, ?_⟩⟩
    refine ⟨st.2, 48271, rfl, rfl, .inr ⟨by decide, by decide⟩, ?_⟩
    refine ⟨_, _, rfl, rfl, .inl ⟨_, rfl, ?_⟩⟩
    refine ⟨_, 2147483647, rfl, rfl, (by decide : (0 : Int) < 2147483647), ?_⟩
    refine ⟨_, rfl, k.dl, _, 1, 1, rfl, rfl, A.dl, rfl, ?_⟩
    have s4 := ok3.mix on ((st.2 * 48271 + c) % 2147483647)
    have ok4 := ok3.step s4
    refine ⟨_, rfl, .inl ⟨k.dl, _, 1, _, rfl, rfl, SqL.of (ok4.at_ on).dl, rfl, ?_⟩⟩
    refine ⟨_, 64, rfl, rfl, ⟨by decide, by decide⟩, ?_⟩
    refine .inl ⟨_, rfl, ?_⟩
    refine ⟨_, rfl, _, m, rfl, rfl, hm.1, ?_⟩
    exact q _ (ok.trans s13 s4)
  · rw [List.concat_eq_append] at en
    subst en
    have hb0 : (!(((ms ++ [r], st.2) : DS).1.isEmpty)) = true := by simp
    rw [hb0]
    refine iteT ?_
    refine last0_run (ns := ms) (r := r) ok2 on rfl rfl ?_
    by_cases hr : r = 0
    · subst hr
      refine iteT ⟨fun σ' H' => ∃ ns, ns = ms ∧ σ' = [some (.ref k.dl), some (.int m), none] ∧ Ok k F H' [] [] (ns, st.2) ∧ Step k F H F H' (ns, st.2) ∧ popZ ns = popZ st.1, ?_, ?_⟩
      · rintro σ' H' ⟨ns, rfl, a, b, c, d⟩
        exact ⟨ns.length, by simp, ns, rfl, a, b, c, d⟩
      · refine pop0_run (ns := ms) (r := 0) ok2 on rfl rfl fun H3 ok3 s3 => ⟨ms, rfl, rfl, ok3, ok.trans s12 s3, ?_⟩
        rw [← e1, popZ_snoc0]
    · have hb : (r == 0) = false := by simpa using hr
      rw [hb]
      refine iteF (ne0_run ok2 on rfl fun H3 ok3 s3 => ?_)
      rw [hb0]
      refine iteT ?_
      have ep := popZ_snoc ms hr
      rw [e1] at ep
      have ea : anyI c st m = (r % m, (ms ++ [r / m], st.2)) := by
        unfold anyI
        rw [ep]
        simp
      rw [ea] at q
      refine pop0_run (ns := ms) (r := r) ok3 on rfl rfl fun H4 ok4 s4 => .inl ⟨r, rfl, ?_⟩
      have A := ok4.at_ on
      have few := (ok3.at_ on).few
      simp at few
      refine ⟨_, rfl, .inl ⟨k.dl, _, 0, _, rfl, rfl, SqL.of A.dl, rfl, .inl ⟨rfl, _, SqL.of A.cl⟩, ?_⟩⟩
      refine ⟨_, rfl, _, rfl, r, m, rfl, rfl, hm, ?_⟩
      refine ⟨k.cl, _, .int (r / m), rfl, rfl, A.cl, ?_, ?_⟩
      · have : (ms.map V.int).length = ms.length := by simp
        show (ms.map V.int).length < sizeLine
        unfold sizeLine
        omega
      · have s5 := ok4.cells on (ns := ms ++ [r / m]) (by simp; omega)
        rw [List.map_append] at s5
        refine ⟨_, rfl, _, rfl, r, m, rfl, rfl, hm.1, ?_⟩
        exact q _ (ok.trans (ok.trans (ok.trans s12 s3) s4) s5)
end
end FL

/-! FL10: min(x, key=lambda y: ..) of a tuple: the key a pair of ints, read in the lambda's own frame -/
namespace FL
open PySem PySem.Spec PyProof.Rows L2

/-- a lambda of one parameter x, which captures names -/
structure LamP (sc scope : Scope) (x : Str) : Prop where
  kind : scope.kind = .function
  co : scope.isCoroutine = false
  gen : scope.isGenerator = false
  own : ∀ y ∈ scope.names, y.2 ≠ .cell
  loc : ∀ y ∈ scope.names, y.2 = .local → y.1 = x
  par : scope.names.lookup x = some .local
  free : ∀ y ∈ scope.names, y.2 = .free → sc.names.lookup y.1 = some .cell ∨ sc.names.lookup y.1 = some .free
def lamPB (sc scope : Scope) (x : Str) : Bool :=
  decide (scope.kind = .function) && (!scope.isCoroutine && (!scope.isGenerator && (decide (scope.names.lookup x = some .local) && scope.names.all fun y => !decide (y.2 = .cell) && ((!decide (y.2 = .local) || decide (y.1 = x)) && (!decide (y.2 = .free) || (decide (sc.names.lookup y.1 = some .cell) || decide (sc.names.lookup y.1 = some .free)))))))
theorem lamP_by {sc scope : Scope} {x : Str} (h : lamPB sc scope x = true) : LamP sc scope x := by
  unfold lamPB at h
  simp only [Bool.and_eq_true, Bool.or_eq_true, Bool.not_eq_true', decide_eq_true_eq, decide_eq_false_iff_not, List.all_eq_true] at h
  obtain ⟨h1, h2, h3, h4, h5⟩ := h
  refine ⟨h1, h2, h3, fun y hy => (h5 y hy).1, fun y hy e => ?_, h4, fun y hy e => ?_⟩
  · rcases (h5 y hy).2.1 with z | z
    · exact absurd e z
    · exact z
  · rcases (h5 y hy).2.2 with z | z
    · exact absurd e z
    · exact z
section
variable {X : Cx} {pins : List (Addr × Obj)} {σ : L2.St} {H HZ : Hp} {s s1 : Shared}
theorem LamP.has {scope : Scope} {x : Str} (L : LamP X.env.scope scope x) (ok : X.Ok) : ∀ y ∈ scope.names, y.2 = .free → ∃ c, X.env.cells.lookup y.1 = some c := fun y hy e =>
  ok.has y.1 (L.free y hy e)
/-- the lambda is made; what is tracked stays tracked -/
theorem lam_mk {T : List (Addr × Str)} {c P : Addr} {params : Arguments} {body : Expr} {scope : Scope} {pos : Pos} {Er : Value → Shared → Prop} {Q : Value → Shared → Prop} (I : Inv X pins σ H s) (TB : LamX.TabB X.base X.mg c P) (here : X.env.code = .ref c)
    (inT : (P, X.env.qual ++ "<lambda>") ∈ T) (oneN : ∀ p ∈ T, p.1 = P → p.2 = X.env.qual ++ "<lambda>") (tabs : LamX.Tabs T H) (nodef : defaultsOf params X.env = ([], [])) (caps : ∀ y ∈ scope.names, y.2 = .free → ∃ c, X.env.cells.lookup y.1 = some c)
    (go : ∀ (f c' : Addr) (pm ctv : Value) (H1 : Hp) (s' : Shared), Inv X pins σ H1 s' → LamX.ExtN H H1 → LamX.Tabs T H1 → (∀ b o, H b = some o → ∃ o', H1 b = some o') →
      s'.heap.get? f = some (PySem.W.kla_obj "<lambda>" (X.env.qual ++ "<lambda>") params body scope (cloFrom X.env.cells scope.names []) pm c' ctv) → H1 f = none → f ∉ frs X.stack → H1 c' = some (LamX.CodeO c' (X.env.qual ++ "<lambda>")) → X.base.objs.size ≤ f → f ≠ X.env.locals → Q (.ref f) s') :
    wpAny (model X.prog X.w) X.A (eval (.Lambda params body scope pos) X.env) Q Er s := by
  obtain ⟨ps, atP, trip, among⟩ := tabs _ inT
  refine PySem.W.kla_eval nodef ?_
  have blt : s.heap.BuiltinsAt X.mg P := TB.bm.keeps I.bk
  have realP : s.heap.get? P = some { cls := .none, data := .fields ps } := I.hok P _ atP
  have base_le : X.base.objs.size ≤ s.heap.objs.size := Nat.le_trans I.ok.bsz I.sz
  have new_fr : ∀ f, s.heap.objs.size ≤ f → f ∉ frs X.stack ∧ f ≠ X.env.locals := fun f hf => by
    have ne : f ≠ X.env.locals := fun e => absurd (Nat.lt_of_lt_of_le I.lt hf) (by rw [e]; exact Nat.lt_irrefl _)
    refine ⟨fun z => ?_, ne⟩
    rcases List.mem_cons.mp (I.stkSub _ z) with e | e
    · exact ne e
    · exact I.nofs hf e
  cases am : codeAmong pos ps.toList with
  | some cv =>
    obtain ⟨c', e, cobj⟩ := among pos cv am
    subst e
    refine PySem.W.kla_makeFunctionHit (mg := X.mg) (c := c) (P := P) (ps := ps) (closure_ok caps) I.ok.glob (I.mod.glob.keeps I.bk) here (TB.code.keeps I.bk) realP trip am blt fun ctv h' tk ext sz => ?_
    have I1 : Inv X pins σ H { s with heap := h'.push (PySem.W.kla_obj "<lambda>" (X.env.qual ++ "<lambda>") params body scope (cloFrom X.env.cells scope.names []) ((X.mg "__name__").getD .none) c' ctv), toks := tk } :=
      I.kept fun b o e => Heap.get?_push_of_some _ (ext b o e)
    exact go _ c' _ ctv H _ I1 (LamX.ExtN.refl H) tabs (fun _ o e => ⟨o, e⟩) (Heap.get?_push_size _ rfl) (I.hok.fresh sz) (new_fr _ sz).1 cobj (Nat.le_trans base_le sz) (new_fr _ sz).2
  | none =>
    refine PySem.W.kla_makeFunction (mg := X.mg) (c := c) (P := P) (ps := ps) (closure_ok caps) I.ok.glob (I.mod.glob.keeps I.bk) here (TB.code.keeps I.bk) realP trip am TB.gP blt fun c' ctv h' tk ext lo hi record tab' => ?_
    obtain ⟨c2, oc, vs, t, e2, hoc, hd, hv⟩ := record
    cases e2
    have sz : s.heap.objs.size ≤ h'.objs.size := Nat.le_trans lo (Nat.le_of_lt hi)
    have newC : H c' = none := I.hok.fresh lo
    obtain ⟨H1, eH1⟩ : ∃ H1, H1 = L2.upd (L2.upd H P (.tbl (ps ++ #[rawInt pos.line, rawInt pos.col, .ref c']))) c' (LamX.CodeO c' (X.env.qual ++ "<lambda>")) := ⟨_, rfl⟩
    have atC : H1 c' = some (LamX.CodeO c' (X.env.qual ++ "<lambda>")) := by rw [eH1]; exact upd_same
    have atP1 : H1 P = some (.tbl (ps ++ #[rawInt pos.line, rawInt pos.col, .ref c'])) := by rw [eH1, upd_ne (ne_of_none atP newC), upd_same]
    have old : ∀ b o, H b = some o → b ≠ P → H1 b = some o := fun b o e n => by rw [eH1, upd_ne (ne_of_none e newC), upd_ne n]; exact e
    have ntP : ∀ b o, H b = some o → (∀ us, o ≠ .tbl us) → b ≠ P := fun b o e n z => by
      rw [z, atP] at e
      cases e
      exact n ps rfl
    have I1 : Inv X pins σ H1 { s with heap := h'.push (PySem.W.kla_obj "<lambda>" (X.env.qual ++ "<lambda>") params body scope (cloFrom X.env.cells scope.names []) ((X.mg "__name__").getD .none) c' ctv), toks := tk } := by
      rw [eH1]
      exact LamX.inv_table (more := #[rawInt pos.line, rawInt pos.col, .ref c']) I atP (fun b o hb e => Heap.get?_push_of_some _ (ext b o hb e)) (Heap.get?_push_of_some _ tab') lo ⟨oc, vs, t, Heap.get?_push_of_some _ hoc, hd, hv⟩
    have eN : LamX.ExtN H H1 := fun b o e n => old b o e (ntP b o e n)
    have nC : ∀ us : Array Value, LamX.CodeO c' (X.env.qual ++ "<lambda>") ≠ .tbl us := fun us => LamX.codeO_ne us
    refine go h'.objs.size c' _ ctv H1 _ I1 eN (fun p hp => ?_) (fun b o e => ?_) (Heap.get?_push_size _ rfl) ?_ (new_fr _ sz).1 atC (Nat.le_trans base_le sz) (new_fr _ sz).2
    · obtain ⟨us, a1, a2, a3⟩ := tabs p hp
      by_cases hb : p.1 = P
      · have en := oneN p hp hb
        rw [en, hb]
        refine ⟨_, atP1, ?_, fun p' cv hcv => ?_⟩
        · rw [Array.toList_append]
          exact PySem.TriplesOk_snoc _ _ _ _ trip
        · rw [Array.toList_append] at hcv
          rcases LamX.among_app _ trip hcv with z | z
          · obtain ⟨c0, e1, e2⟩ := among p' cv z
            exact ⟨c0, e1, eN _ _ e2 fun us => LamX.codeO_ne us⟩
          · exact ⟨c', z, atC⟩
      · refine ⟨us, old _ _ a1 hb, a2, fun p' cv hcv => ?_⟩
        obtain ⟨c0, e1, e2⟩ := a3 p' cv hcv
        exact ⟨c0, e1, eN _ _ e2 fun us => LamX.codeO_ne us⟩
    · by_cases hb : b = P
      · rw [hb]
        exact ⟨_, atP1⟩
      · exact ⟨o, old b o e hb⟩
    · have q : H h'.objs.size = none := I.hok.fresh sz
      rw [eH1, upd_ne (Nat.ne_of_gt hi), upd_ne (fun z => by rw [z, atP] at q; cases q)]
      exact q
/-- the lambda's frame, at its entry: the parameter's slot is p -/
theorem lam_in {A : Around} {outer : List Env} {E : XK} {scope : Scope} {f c' : Addr} {h₁ : Heap} {tk p : Nat} {x : Str} {v : V} {u : Value} (I : Inv X pins σ H s) (L : LamP X.env.scope scope x) (nd : X.N.Nodup) (atp : X.N[p]? = some x) (rv : L2.RelV v u)
    (e0 : Env0 X.prog X.w X.K X.mg X.base A outer s1 HZ) (nohd : A.handled = none) (un : Un (frs X.stack) [] H HZ s.heap s1.heap) (ns : h₁.Ns s1.heap.objs.size fun y => [(x, u)].reverse.lookup y) (kp : ∀ b o, s1.heap.get? b = some o → h₁.get? b = some o) :
    Inv (LamX.lamCx X A outer s1 HZ E scope f c') [] (σ.set p (some v)) HZ { s1 with heap := h₁, toks := tk } := by
  have caps := L.has I.ok
  have back : ∀ {y c}, (cloFrom X.env.cells scope.names []).lookup y = some c → X.env.cells.lookup y = some c := fun {y c} e => by
    rcases cloFrom_mem (PySem.mem_of_lookup e) with hm | ⟨h1, h2⟩
    · exact absurd hm (by simp)
    · obtain ⟨c1, q⟩ := caps _ h1 rfl
      have q : X.env.cells.lookup y = some c1 := q
      rw [q] at h2
      rw [q]
      exact congrArg some h2.symm
  have fwd : ∀ {y}, scope.names.lookup y = some .free → ∃ c, (cloFrom X.env.cells scope.names []).lookup y = some c := fun {y} q =>
    mem_lookup (cloFrom_has (cells := X.env.cells) (acc := []) (PySem.mem_of_lookup q))
  have cellK : ∀ {c : Addr} {v : Option Value}, H c = none → s.heap.IsCell c v → h₁.IsCell c v := fun {c v} n ⟨o, ho, hd⟩ => by
    obtain ⟨sl, q⟩ := un.any ho n (by simp)
    exact ⟨_, kp _ _ q, hd⟩
  have nocell : ∀ y, scope.names.lookup y ≠ some .cell := fun y q => L.own _ (PySem.mem_of_lookup q) rfl
  have pl : p < σ.length := by rw [I.len]; exact (List.getElem?_eq_some_iff.mp atp).1
  have noex : ∀ b : Addr, b ∉ (LamX.lamCx X A outer s1 HZ E scope f c').ex := fun b => List.not_mem_nil
  have Ok1 : (LamX.lamCx X A outer s1 HZ E scope f c').Ok :=
    { mod := e0.mod, kind := L.kind, glob := rfl, blt := rfl, above := Nat.le_refl _, inj := fun y z c e1 e2 => I.ok.inj y z c (back e1) (back e2)
      has := fun y hy => hy.elim (fun z => absurd z (nocell y)) fun z => fwd z
      cab := fun y c z _ => absurd (show false = true from z) (by decide)
      hd := fun _ => nohd, frames := Around.frames_deeper e0.frames, stk := .inr ⟨rfl, rfl⟩, exf := fun b z => absurd z (noex b), bs := e0.bs, bsz := e0.bsz, noex := fun b _ _ => noex b, exfs := fun b z => absurd z (noex b), funs := e0.funs, frf := e0.frf }
  refine { ok := Ok1, os := rfl, bare := e0.bare, base := Un.kept kp, loc := ⟨_, ns, fun i y v' e1 e2 e3 => ?_⟩, cell := fun y c e => ?_, free := e0.hok.fresh (Nat.le_refl _), freeC := fun y c e => ?_, pin := fun q hq => absurd (show q ∈ ([] : List (Addr × Obj)) ++ [] from hq) (by simp), hok := e0.hok.kept kp, len := by rw [List.length_set]; exact I.len }
  · have e1 : X.N[i]? = some y := e1
    have e3 : Vis scope y := e3
    by_cases hi : p = i
    · subst hi
      rw [atp] at e1
      cases e1
      rw [List.getElem?_set_self pl] at e2
      cases e2
      exact ⟨u, rv, .inl ⟨L.par, by simp⟩⟩
    · rw [List.getElem?_set_ne hi] at e2
      have hyx : y ≠ x := fun z => hi (nodup_ix nd atp (by rw [← z]; exact e1))
      rcases e3 with q | q | q
      · exact absurd (L.loc _ (PySem.mem_of_lookup q) rfl) hyx
      · exact absurd q (nocell y)
      · obtain ⟨m, hn, hl⟩ := I.loc
        have cap := L.free _ (PySem.mem_of_lookup q) rfl
        obtain ⟨w', r, z⟩ := hl i y v' e1 e2 (.inr cap)
        obtain ⟨c2, h2⟩ := fwd q
        refine ⟨w', r, .inr ⟨.inr q, c2, h2, ?_⟩⟩
        have h1 := back h2
        rcases z with ⟨z, _⟩ | ⟨_, c3, e', z⟩
        · have z : X.env.scope.names.lookup y = some .local := z
          rcases cap with cap | cap
          · rw [show X.env.scope.names.lookup y = some .cell from cap] at z; cases z
          · rw [show X.env.scope.names.lookup y = some .free from cap] at z; cases z
        · rw [h1] at e'
          cases e'
          exact cellK (I.freeC y _ h1) z
  · obtain ⟨w', z⟩ := I.cell y c (back e)
    exact ⟨w', cellK (I.freeC y c (back e)) z⟩
  · obtain ⟨w', o, ho, hd⟩ := I.cell y c (back e)
    exact un.free c o ho (I.freeC y c (back e)) (by simp)
end
end FL

/-! FL11: min(x, key=lambda y: ..): the walk -/
namespace FL
open PySem PySem.Spec PyProof.Rows L2

def ltP (a b : Int × Int) : Bool := decide (a.1 < b.1) || (a.1 == b.1 && decide (a.2 < b.2))
/-! ### readings that lay nothing -/
def tQ (k : Kx) (m : Ev → Option D) : TE := fun σ H Q => ∃ F Γ st, Ok k F H σ Γ st ∧ ∃ d, m Γ = some d ∧ ∀ v, Rep k F v d → Q v H
def tQs (k : Kx) (m : Ev → Option (List D)) : TA := fun σ H Q => ∃ F Γ st, Ok k F H σ Γ st ∧ ∃ ds, m Γ = some ds ∧ ∀ vs, Reps k F vs ds → Q vs H
section
variable {X : Cx} {k : Kx} {a b e : Expr} {es : List Expr} {ma mb : Ev → Option D} {mr : Ev → Option (List D)} {pos p : Pos} {x : Str}
def nVar (i : Nat) : Ev → Option D := fun Γ => match Γ[i]? with
  | some (some (.dat d)) => some d
  | _ => none
theorem q_var (i : Nat) {x : Str} (hN : X.N[i]? = some x := by rfl) (hv : Vis X.env.scope x := by first | exact Or.inl rfl | exact Or.inr (Or.inl rfl) | exact Or.inr (Or.inr rfl)) (hd : (x == ("__debug__" : Str)) = false := by decide)
    (hcd : (x == ("__classdict__" : Str)) = false := by decide) : PE X (.Name x pos) (tQ k (nVar i)) :=
  PE.weak (pv i hN hv hd hcd) fun σ H Q ⟨F, Γ, st, ok, d, e, w⟩ => by
    unfold nVar at e
    split at e
    · rename_i d' e'
      cases e
      obtain ⟨v, e2, r⟩ := ok.slot i _ e'
      exact ⟨v, e2, w v r⟩
    · cases e
def nIx (ma mb : Ev → Option D) : Ev → Option D := fun Γ => match ma Γ, mb Γ with
  | some (.tup xs), some (.int i) => atI xs i
  | some (.lst xs), some (.int i) => atI xs i
  | _, _ => none
theorem q_ix (ha : PE X a (tQ k ma)) (hb : PE X b (tQ k mb)) (hs : PlainIx b := by exact fun _ _ => rfl) (hk : k.K = X.K := by rfl) : PE X (.Subscript a b pos) (tQ k (nIx ma mb)) :=
  PE.weak (pe_ix ix_seq ha hb hs) fun σ H Q ⟨F, Γ, st, ok, d, e, w⟩ => by
    unfold nIx at e
    split at e
    · rename_i xs i ea eb
      refine ⟨F, Γ, st, ok, _, ea, fun v rv => ⟨F, Γ, st, ok, _, eb, fun u ru => ?_⟩⟩
      cases ru
      cases rv with
      | tup h r =>
        obtain ⟨y, e1, e2⟩ := r.atI e
        rw [hk] at h
        exact .inr (.inl ⟨_, _, _, _, rfl, rfl, sqt_mono ok.sub h, e1, w y e2⟩)
    · rename_i xs i ea eb
      refine ⟨F, Γ, st, ok, _, ea, fun v rv => ⟨F, Γ, st, ok, _, eb, fun u ru => ?_⟩⟩
      cases ru
      cases rv with
      | lst h r =>
        obtain ⟨y, e1, e2⟩ := r.atI e
        exact .inl ⟨_, _, _, _, rfl, rfl, SqL.of (ok.sub _ _ h), e1, w y e2⟩
    · cases e
def nNil : Ev → Option (List D) := fun _ => some []
def nCons (ma : Ev → Option D) (mr : Ev → Option (List D)) : Ev → Option (List D) := fun Γ => match ma Γ, mr Γ with
  | some d, some ds => some (d :: ds)
  | _, _ => none
theorem q_nil : PA X [] (tQs k nNil) := PA.weak pa_nil fun σ H Q ⟨F, Γ, st, ok, ds, e, w⟩ => by
  cases e
  exact w [] .nil
theorem q_cons (ha : PE X a (tQ k ma)) (hr : PA X es (tQs k mr)) (hs : starEach (a :: es) X.env = (false, eval a X.env) :: starEach es X.env := by rfl) : PA X (a :: es) (tQs k (nCons ma mr)) :=
  PA.weak (pa_cons ha hr hs) fun σ H Q ⟨F, Γ, st, ok, ds, e, w⟩ => by
    unfold nCons at e
    split at e
    · rename_i d ds' ea er
      cases e
      exact ⟨F, Γ, st, ok, d, ea, fun v rv => ⟨F, Γ, st, ok, ds', er, fun vs rs => w _ (.cons rv rs)⟩⟩
    · cases e
end
/-! ### the least by keys that are pairs of ints -/
abbrev KM := Ev → Option (List D)
def keysM (mk : KM) (p : Nat) (Γ : Ev) : List D → Option (List (Int × Int))
  | [] => some []
  | d :: r => match mk (Γ.set p (some (.dat d))) with
    | some [.int a, .int b] => (keysM mk p Γ r).map ((a, b) :: ·)
    | _ => none
def btK (ks : List (Int × Int)) (i j : Nat) : Bool := ltP (ks.getD i (0, 0)) (ks.getD j (0, 0))
def gMinKey (mk : KM) (p : Nat) (Γ : Ev) : List D → M D := fun ds st => match ds with
  | [.tup xs] => (match keysM mk p Γ xs with
    | some ks => if xs = [] then .stuck else (match xs[argBest (btK ks) (xs.length - 1)]? with
      | some d => .ok d st
      | none => .stuck)
    | none => .stuck)
  | _ => .stuck
def mMinKey (mr : Ev → M (List D)) (p : Nat) (mk : KM) : EM := fun Γ => do
  let ds ← mr Γ
  gMinKey mk p Γ ds
theorem keysM_get {mk : KM} {p : Nat} {Γ : Ev} : ∀ {xs : List D} {ks : List (Int × Int)}, keysM mk p Γ xs = some ks → ∀ {i : Nat} {d : D}, xs[i]? = some d → mk (Γ.set p (some (.dat d))) = some [.int (ks.getD i (0, 0)).1, .int (ks.getD i (0, 0)).2]
  | [], _, _, i, d, e => by simp at e
  | x :: xs, ks, h, i, d, e => by
    unfold keysM at h
    split at h
    · rename_i a b em
      cases er : keysM mk p Γ xs with
      | none => rw [er] at h; cases h
      | some ks' =>
        rw [er] at h
        cases h
        cases i with
        | zero =>
          simp at e
          subst e
          simpa using em
        | succ i =>
          have q := keysM_get er (i := i) (d := d) (by simpa using e)
          simpa using q
    · cases h

section
variable {X : Cx} {pins : List (Addr × Obj)} {σ : L2.St} {H : Hp} {s : Shared}
/-- the lambda is called with u, from within a built-in: the pair that it lays is not tracked -/
theorem lam_call {scope : Scope} {x : Str} {f c' : Addr} {p j : Nat} {v : V} {u : Value} {params : Arguments} {es : List Expr} {tn : Nat} {tpos : Pos} {pm ctv : Value} {k1 : Int × Int} {Er : Value → Shared → Prop} {tb : TA} (I : Inv X pins σ H s) (L : LamP X.env.scope scope x) (nd : X.N.Nodup) (atp : X.N[p]? = some x) (rv : L2.RelV v u) (room : Room (j + 2) X.A)
    (obj : s.heap.get? f = some (PySem.W.kla_obj "<lambda>" (X.env.qual ++ "<lambda>") params (.Tuple es tn tpos) scope (cloFrom X.env.cells scope.names []) pm c' ctv)) (code : H c' = some (LamX.CodeO c' (X.env.qual ++ "<lambda>")))
    (binds : bindArgs (PySem.W.kla_fn "<lambda>" (X.env.qual ++ "<lambda>") params (.Tuple es tn tpos) scope (cloFrom X.env.cells scope.names []) pm (.ref c') ctv) ⟨[u], []⟩ = pure [(x, u)])
    (bd : PA (LamX.lamCx X X.A.in1 X.stack s H (fun _ _ _ => False) scope f c') es tb) (ht : tb (σ.set p (some v)) H fun vs H1 => vs = [.int k1.1, .int k1.2] ∧ H1 = H) :
    wpAny (model X.prog X.w) X.A.in1 (call (.ref f) [u]) (fun r s' => s'.os = s.os ∧ AllBare s'.gens ∧ Un (frs X.stack) [] H H s.heap s'.heap ∧ HOk X.prog X.w H s'.heap ∧ ∃ ka t1 t2, r = .ref ka ∧ s'.heap.IsTuple ka #[.int k1.1 t1, .int k1.2 t2] ∧ H ka = none ∧ s.heap.objs.size ≤ ka) Er s := by
  obtain ⟨⟨oc, us, t, hoc, hdc, hvc⟩, _, _⟩ := I.hok c' _ code
  have room1 : Room (j + 1) X.A.in1 := Room.in1 room
  have e0 : Env0 X.prog X.w X.K X.mg X.base X.A.in1 X.stack s H := let e := I.env0; ⟨e.frames, e.mod, e.bs, e.bsz, e.funs, e.frf, e.hok, e.bare⟩
  refine wpAny_call ?_
  refine PySem.W.kla_callFunE room1.depth obj rfl L.co L.gen rfl ⟨c', oc, us, t, rfl, hoc, hdc, hvc⟩ ?_
  rw [binds]
  refine wpAny_pure (wpAny_newFunctionEnv (fun y hy => L.own y hy) (fun y hy => by rw [List.mem_singleton.mp hy]; exact L.par) (fun h₁ ns same => ⟨I.nolimit.fresh _ same, ?_⟩) L.kind)
  show codeAny _ _ (.expr (.Tuple es tn tpos) (LamX.lamEnv X scope s.heap.objs.size f c')) _ _
  have kp : ∀ b o, s.heap.get? b = some o → h₁.get? b = some o := fun b o e => same.extBut b o (Nat.ne_of_lt (Heap.lt_size e)) (Heap.get?_push_of_some _ e)
  have J : Inv (LamX.lamCx X X.A.in1 X.stack s H (fun _ _ _ => False) scope f c') [] (σ.set p (some v)) H { s with heap := h₁, toks := s.toks + [(x, u)].length } := lam_in I L nd atp rv e0 room1.hd Un.refl ns kp
  refine PySem.W.kla_codeExpr (wpAny_mono (Q := fun r s' => s'.os = s.os ∧ AllBare s'.gens ∧ Un (frs X.stack) [] H H s.heap s'.heap ∧ HOk X.prog X.w H s'.heap ∧ ∃ ka t1 t2, r = .ref ka ∧ s'.heap.IsTuple ka #[.int k1.1 t1, .int k1.2 t2] ∧ H ka = none ∧ s.heap.objs.size ≤ ka) (E := (LamX.lamCx X X.A.in1 X.stack s H (fun _ _ _ => False) scope f c').xe) ?_ (fun r s' hq => hq) (fun e s' hq => ?_))
  · refine wpAny_Tuple_spliced (thn (bd.run tpos [] _ _ H _ J ht) fun ws s1 ⟨vs, H1, I1, r, q⟩ => ?_)
    obtain ⟨q1, q2⟩ := q
    rw [q1] at r
    rw [q2] at I1
    obtain ⟨u1, u2, ew, ⟨t1, z1⟩, ⟨t2, z2⟩⟩ := vals2 r
    rw [ew, z1, z2]
    have un : Un (frs X.stack) [] H H s.heap s1.heap := I1.base
    have kp2 : ∀ o : Obj, ∀ b ob, s1.heap.get? b = some ob → (s1.heap.push o).get? b = some ob := fun o b ob e => Heap.get?_push_of_some _ e
    refine ⟨(by show 2 ≤ sizeLine; unfold sizeLine; omega), I1.os, I1.bare, un.trans (Un.kept (kp2 _)), I1.hok.kept (kp2 _), _, t1, t2, rfl, ⟨_, Heap.get?_push_size _ rfl, rfl, _, rfl⟩, I1.hok.fresh (Nat.le_refl _), ?_⟩
    exact I1.sz
  · refine wpAny_mono hq (fun _ _ z => ?_) (fun _ _ z => ?_)
    · obtain ⟨_, _, _, _, _, _, _, _, _, _, _, _, z⟩ := z
      exact z.elim
    · obtain ⟨_, _, _, _, _, _, _, _, _, _, _, _, z⟩ := z
      exact z.elim
end
/-- a tuple is walked, its items known up to their marks -/
theorem walks_vals {prog : Program} {w : World} {A : Around} (hh : A.handled = none) (it a : Addr) (hne : a ≠ it) (vs : List V) : WalksS prog w A it [it, a] [it] (fun g g' => g' = g) vs.length (fun i v => ∃ x, vs[i]? = some x ∧ L2.RelV x v)
    (fun i s => s.heap.IsTupleIter it a i ∧ ∃ its : List Value, s.heap.IsTuple a its.toArray ∧ Vals vs its) where
  sub := fun b hb => List.mem_cons.mpr (.inl (List.mem_singleton.mp hb))
  grefl := fun _ => rfl
  gtrans := fun _ _ _ e1 e2 => e2.trans e1
  frame := fun i s h' tk st _ kp => by
    obtain ⟨s1, its, s2, r⟩ := st
    exact ⟨s1.at fun o e => kp it (by simp) o e, its, s2.at fun o e => kp a (by simp) o e, r⟩
  item := fun i s Q E hi st hQ => by
    obtain ⟨s1, its, s2, r⟩ := st
    have sz : its.toArray.size = vs.length := by rw [List.size_toArray, r.length]
    refine (Walks.tuple hh it a hne its.toArray).toS.item i s Q E (by rw [sz]; exact hi) ⟨s1, s2⟩ fun v s' hv st' m => ?_
    have hv : its.toArray[i]? = some v := hv
    obtain ⟨u, e1, e2⟩ := r.get (List.getElem?_eq_getElem hi)
    have ev : v = u := by
      rw [List.getElem?_toArray, e1] at hv
      exact (Option.some.inj hv).symm
    exact hQ v s' ⟨_, List.getElem?_eq_getElem hi, ev ▸ e2⟩ ⟨st'.1, its, st'.2, r⟩ m
  done := fun s Q E st hQ => by
    obtain ⟨s1, its, s2, r⟩ := st
    have sz : its.toArray.size = vs.length := by rw [List.size_toArray, r.length]
    exact (Walks.tuple hh it a hne its.toArray).toS.done s Q E (by rw [sz]; exact ⟨s1, s2⟩) hQ
  self := fun i s Q E st hQ => by
    obtain ⟨s1, its, s2, r⟩ := st
    exact (Walks.tuple hh it a hne its.toArray).toS.self i s Q E ⟨s1, s2⟩ hQ

section
variable {X : Cx} {pins : List (Addr × Obj)} {σ : L2.St} {H : Hp} {s s' : Shared}
theorem inv_moved {S it : Addr} (I : Inv X pins σ H s) (m : Moved [S, it] (fun g g' => g' = g) s s') (nS : H S = none) (nI : H it = none)
    (far : ∀ b ∈ [S, it], X.s_0.heap.objs.size ≤ b ∧ b ≠ X.env.locals ∧ (∀ x c, X.env.cells.lookup x = some c → c ≠ b) ∧ ∀ p ∈ X.pn ++ pins, p.1 ≠ b) : Inv X pins σ H s' := by
  obtain ⟨h', g', d', t', o'⟩ := s'
  have eo : o' = s.os := m.os
  have eg : g' = s.gens := m.gens
  subst eo eg
  have off : ∀ b u, H b = some u → b ∉ [S, it] := fun b u e z => by
    rcases List.mem_cons.mp z with z | z
    · rw [z, nS] at e; cases e
    · rw [List.mem_singleton.mp z, nI] at e; cases e
  refine I.step (ch := [S, it]) (fun b hb => ⟨.inr (far b hb).1, (far b hb).2⟩) (fun b o _ _ nc e _ => m.heap b o nc e) (fun b o _ _ nc e _ => ⟨o.slots, m.heap b o nc e⟩) (fun _ _ _ _ n => n) (fun b o nc e => ⟨o, m.heap b o nc e⟩) (fun _ _ e => e) (fun _ _ _ e => e) (fun b ps e => ⟨#[], by rw [e]; simp⟩) (fun μ hm => ?_) (fun b u e => ?_) I.bare
  · obtain ⟨o, es, ep, ho, r⟩ := hm
    exact ⟨o, es, ep, m.heap _ o (fun z => (far _ z).2.1 rfl) ho, r⟩
  · refine (I.hok b u e).stay (fun c v hc q => m.heap c v ?_ q) (fun _ q => q) fun _ _ q => q
    rcases hc with z | z
    · rw [z]; exact off b u e
    · exact off c _ z
theorem lexPair (a b c d : Int) : Ob.lexAt (fun j => if j = 0 then a == c else b == d) (fun j => if j = 0 then decide (a < c) else decide (b < d)) (decide ((2 : Nat) < 2)) 0 2 = ltP (a, b) (c, d) := by
  unfold ltP
  by_cases h : a = c
  · subst h
    by_cases h2 : b = d
    · subst h2
      simp [Ob.lexAt]
    · simp [Ob.lexAt, h2]
  · by_cases h3 : a < c
    · simp [Ob.lexAt, h, h3]
    · simp [Ob.lexAt, h, h3]
theorem cmp_pair {A : Around} {l b : Addr} {k1 k2 : Int × Int} {t1 t2 t3 t4 : Tok} (hu : A.units < cLine) (h1 : s.heap.IsTuple l #[.int k1.1 t1, .int k1.2 t2]) (h2 : s.heap.IsTuple b #[.int k2.1 t3, .int k2.2 t4]) : Ob.RcOp .Lt A s (.ref l) (.ref b) (ltP k1 k2) := by
  have q := Ob.RcOp.tuples_lt (e := fun j => if j = 0 then k1.1 == k2.1 else k1.2 == k2.2) (r := fun j => if j = 0 then decide (k1.1 < k2.1) else decide (k1.2 < k2.2)) h1 h2 hu (fun j g1 g2 => ?_) (fun j g1 g2 _ => ?_)
  · have e := lexPair k1.1 k1.2 k2.1 k2.2
    rw [← e]
    exact q
  · match j, g1, g2 with
    | 0, _, _ => exact SeqAt.EqAt.int_int _ _ _ _
    | 1, _, _ => exact SeqAt.EqAt.int_int _ _ _ _
    | j + 2, g1, _ => exact absurd g1 (by simp)
  · match j, g1, g2 with
    | 0, _, _ => exact Ob.RcOp.lt_int _ _ _ _
    | 1, _, _ => exact Ob.RcOp.lt_int _ _ _ _
    | j + 2, g1, _ => exact absurd g1 (by simp)
end
section
variable {X : Cx} {k : Kx} {E : XE} {a : Expr} {mr : Ev → M (List D)} {mk : EM} {pos pf kpos lpos : Pos} {x : Str} {p j : Nat} {c P : Addr} {params : Arguments} {body : Expr} {scope : Scope}
theorem step_lam {F H H1 : Hp} {σ : L2.St} {Γ : Ev} {st : DS} (ok : Ok k F H σ Γ st) (eN : LamX.ExtN H H1) (tabs : LamX.Tabs k.T H1) (kept : ∀ b o, H b = some o → ∃ o', H1 b = some o') : Step k F H F H1 st where
  ext := fun _ _ e => e
  stay := fun b o e _ n => eN b o e n
  kept := kept
  nof := fun _ _ _ f => f
  tabs := tabs
  ftbl := ok.ftbl
  sub := fun b o e => eN b o (ok.sub b o e) (ok.ftbl b o e)
  at_ := fun h => ⟨(ok.at_ h).few, eN _ _ (ok.at_ h).dl ltbl, eN _ _ (ok.at_ h).cl ltbl⟩
end
end FL

/-! FL12: min(x, key=lambda y: ..): the rule -/
namespace FL
open PySem PySem.Spec PyProof.Rows L2
section
variable {X : Cx} {k : Kx} {E : XE} {a : Expr} {mr : Ev → M (List D)} {mk : KM} {pos pf kpos lpos tpos : Pos} {x : Str} {p j tn : Nat} {c P : Addr} {params : Arguments} {es : List Expr} {scope : Scope}
theorem bmin : bootBuiltins "min" = some (.builtin "min") := by decide +kernel
theorem e_minKey (hK : k.K = X.K) (nd : X.N.Nodup) (atp : X.N[p]? = some x) (room : Room (j + 2) X.A) (calm : X.calm = true) (hg : Gl X "min") (hm : X.mg "min" = none) (ha : PA X [a] (tA k E mr))
    (TB : LamX.TabB X.base X.mg c P) (here : X.env.code = .ref c) (inT : (P, X.env.qual ++ "<lambda>") ∈ k.T) (oneN : ∀ q ∈ k.T, q.1 = P → q.2 = X.env.qual ++ "<lambda>") (L : LamP X.env.scope scope x) (nodef : defaultsOf params X.env = ([], []))
    (binds : ∀ (q : Str) (cl : List (Str × Addr)) (pm cv ctv u : Value), bindArgs (PySem.W.kla_fn "<lambda>" q params (.Tuple es tn tpos) scope cl pm cv ctv) ⟨[u], []⟩ = pure [(x, u)])
    (he : backTo pos (starEach [a] X.env) = (false, eval a X.env) :: backTo pos (starEach [] X.env)) (hpl : (backTo pos (starEach [a] X.env)).any (·.1) = false)
    (bd : ∀ (A : Around) (outer : List Env) (s : Shared) (H : Hp) (E' : XK) (f c' : Addr), PA (LamX.lamCx X A outer s H E' scope f c') es (tQs k mk)) :
    PE X (.Call (.Name "min" pf) [a] [⟨some "key", .Lambda params (.Tuple es tn tpos) scope lpos, kpos⟩] pos) (tM k E (mMinKey mr p mk)) := by
  refine ⟨fun pins s σ H Q I ⟨F, Γ, st, ok, w⟩ => ?_⟩
  refine wpAny_Call_Name_kw (ld_blt I hg hm bmin ?_ (by decide) (by decide))
  refine PyProof.Rows.callWith_kw (thn (ha.run pos pins s σ H (fun vs H1 => ∃ F1 st1 ds, Ok k F1 H1 σ Γ st1 ∧ Reps k F1 vs ds ∧ Wp k E σ F1 H1 (gMinKey mk p Γ ds st1) (qD k Q)) I (tA.then_ ok w fun vs ds F1 H1 st1 s1 ok1 r1 w1 => ⟨F1, st1, ds, ok1, r1, w1⟩)) fun us s1 ⟨vs, H1, I1, r1, F1, st1, ds, ok1, rr, w1⟩ => ?_) he hpl (by rfl) (by rfl)
  unfold gMinKey at w1
  split at w1
  case h_2 => exact w1.elim
  rename_i xs
  cases ek : keysM mk p Γ xs with
  | none => rw [ek] at w1; exact w1.elim
  | some ks =>
    rw [ek] at w1
    by_cases hx : xs = []
    · simp only [hx, if_true] at w1
      exact w1.elim
    · simp only [hx, if_false] at w1
      cases ed : xs[argBest (btK ks) (xs.length - 1)]? with
      | none => rw [ed] at w1; exact w1.elim
      | some best =>
        rw [ed] at w1
        cases rr with
        | cons rh rt =>
        cases rt
        cases rh with
        | tup ht rw_ =>
          rename_i ad ws
          refine PyProof.Rows.kws_cons (lam_mk I1 TB here inT oneN ok1.tabs nodef (L.has I1.ok) fun f c' pm ctv H2 s2 I2 eN tabs kept obj nf nfr cobj above nloc => PyProof.Rows.kws_nil ?_)
          have st2 := step_lam ok1 eN tabs kept
          have ok2 := ok1.step st2
          have eu : us = [Value.ref ad] := vals_ref1 r1
          subst eu
          rw [hK] at ht
          obtain ⟨its, rv, it0, _⟩ := I2.tuple (sqt_mono ok2.sub ht)
          refine call_min_walkK (wpAny_pyIter_tuple it0 ?_)
          have ge : ∀ b ∈ [s2.heap.objs.size + 1, s2.heap.objs.size], s2.heap.objs.size ≤ b := fun b hb => by
            rcases List.mem_cons.mp hb with z | z
            · exact Nat.le_of_lt (Nat.lt_of_lt_of_eq (Nat.lt_succ_self _) z.symm)
            · exact Nat.le_of_eq (List.mem_singleton.mp z).symm
          have far : ∀ b ∈ [s2.heap.objs.size + 1, s2.heap.objs.size], X.s_0.heap.objs.size ≤ b ∧ b ≠ X.env.locals ∧ (∀ x c, X.env.cells.lookup x = some c → c ≠ b) ∧ ∀ p ∈ X.pn ++ pins, p.1 ≠ b := by
            intro b hb
            have hb := ge b hb
            refine ⟨Nat.le_trans I2.sz hb, fun z => ?_, fun y c e z => ?_, fun q hq z => ?_⟩
            · exact Nat.lt_irrefl _ (Nat.lt_of_lt_of_le I2.lt (by rw [← z]; exact hb))
            · obtain ⟨v, o, ho, _⟩ := I2.cell y c e
              exact Nat.lt_irrefl _ (Nat.lt_of_lt_of_le (Heap.lt_size ho) (by rw [z]; exact hb))
            · exact Nat.lt_irrefl _ (Nat.lt_of_lt_of_le (Heap.lt_size (I2.pin q hq).1) (by rw [z]; exact hb))
          have nfs : ∀ b, s2.heap.objs.size ≤ b → b ∉ frs X.stack := fun b hb z => by
            rcases List.mem_cons.mp (I2.stkSub _ z) with e | e
            · exact Nat.lt_irrefl _ (Nat.lt_of_lt_of_le I2.lt (by rw [← e]; exact hb))
            · exact I2.nofs hb e
          have ada : ad < s2.heap.objs.size := by obtain ⟨o, ho, _⟩ := it0; exact Heap.lt_size ho
          have szS : (s2.heap.push { cls := .type "tuple_iterator", data := .fields #[.ref ad, .int 0 0] }).objs.size = s2.heap.objs.size + 1 := Heap.size_push _ _
          have freshS : H2 (s2.heap.objs.size + 1) = none := I2.hok.fresh (Nat.le_succ _)
          have freshI : H2 s2.heap.objs.size = none := I2.hok.fresh (Nat.le_refl _)
          refine ⟨s2.heap.objs.size, [s2.heap.objs.size, ad], [s2.heap.objs.size], (fun g g' => g' = g), ws.length, (fun i v => ∃ x, ws[i]? = some x ∧ L2.RelV x v),
            (fun i s => s.heap.IsTupleIter s2.heap.objs.size ad i ∧ ∃ its : List Value, s.heap.IsTuple ad its.toArray ∧ Vals ws its),
            (fun t => Inv X pins σ H2 t ∧ t.heap.get? f = some (PySem.W.kla_obj "<lambda>" (X.env.qual ++ "<lambda>") params (.Tuple es tn tpos) scope (cloFrom X.env.cells scope.names []) pm c' ctv)),
            (fun i kx t => ∃ ka t1 t2, kx = .ref ka ∧ t.heap.IsTuple ka #[.int (ks.getD i (0, 0)).1 t1, .int (ks.getD i (0, 0)).2 t2] ∧ H2 ka = none ∧ s2.heap.objs.size + 1 < ka), btK ks, rfl, walks_vals (A := X.A.in1) (I2.ok.hd calm) _ ad (Nat.ne_of_lt ada) ws, ?_, ?_, ?_, ?_, ?_, ?_⟩
          · exact ⟨⟨_, Heap.get?_push_size _ rfl, rfl, rfl⟩, its, let ⟨o, ho, r⟩ := it0; ⟨o, Heap.get?_push_of_some _ ho, r⟩, rv⟩
          · intro b hb
            show b < (s2.heap.push _).objs.size
            rw [szS]
            rcases List.mem_cons.mp hb with z | z
            · rw [z]; exact Nat.lt_succ_self _
            · rw [List.mem_singleton.mp z]; exact Nat.lt_succ_of_lt ada
          · rw [rw_.length]
            exact List.length_pos_iff.mpr hx
          · show KeyRun X.prog X.w X.A.in1 (.ref f) .Lt (s2.heap.push _).objs.size _ _ _ _ _ _ _ _
            rw [szS]
            have nin : f ∉ [s2.heap.objs.size + 1, s2.heap.objs.size] := fun z => by
              have h1 := Heap.lt_size obj
              exact Nat.lt_irrefl _ (Nat.lt_of_lt_of_le h1 (ge f z))
            refine ⟨fun t t' ⟨q2, q5⟩ m => ?_, fun i kx t t' ⟨ka, t1, t2, e1, e2, e3, e4⟩ m => ?_, fun i v t o Q' E' hi hP ⟨q2, q5⟩ hst hS hQ => ?_, fun i jj ki kj t Q' E' hJ ⟨ka, t1, t2, e1, e2, e3, e4⟩ ⟨kb, t3, t4, g1, g2, g3, g4⟩ hQ => ?_⟩
            · exact ⟨inv_moved q2 m freshS freshI far, m.heap f _ nin q5⟩
            · refine ⟨ka, t1, t2, e1, let ⟨o, ho, r⟩ := e2; ⟨o, m.heap ka o (fun z => ?_) ho, r⟩, e3, e4⟩
              have z : ka ∈ [s2.heap.objs.size + 1, s2.heap.objs.size] := z
              rcases List.mem_cons.mp z with z | z
              · exact Nat.lt_irrefl _ (Nat.lt_of_lt_of_eq e4 z)
              · exact Nat.lt_irrefl _ (Nat.lt_trans (Nat.lt_succ_self _) (Nat.lt_of_lt_of_eq e4 (List.mem_singleton.mp z)))
            · obtain ⟨y, e1, e2⟩ := hP
              obtain ⟨d, d1, d2⟩ := rw_.get e1
              have hk := keysM_get ek d1
              have ltS : s2.heap.objs.size + 1 < t.heap.objs.size := Heap.lt_size hS
              refine wpAny_mono (lam_call (k1 := ks.getD i (0, 0)) q2 L nd atp e2 room q5 cobj (binds _ _ _ _ _ _) (bd _ _ _ _ _ _ _) ⟨F1, Γ.set p (some (.dat d)), st1, ok2.upd (Upd.set ok2.len d2), _, hk, fun vs rs => ?_⟩) (fun r t' hr => ?_) fun _ _ z => z
              · cases rs with
                | cons r1 rs =>
                  cases r1
                  cases rs with
                  | cons r2 rs =>
                    cases r2
                    cases rs
                    exact ⟨rfl, rfl⟩
              · obtain ⟨os, bare, un, hok, ka, t1, t2, er, ik, nk, gk⟩ := hr
                subst er
                have I' : Inv X pins σ H2 t' := q2.call' (ch := []) os un hok bare (fun b z => absurd z List.not_mem_nil)
                have atS := un.keep _ o hS freshS (nfs _ (Nat.le_succ _)) List.not_mem_nil
                obtain ⟨⟨oi, oi1, oi2⟩, _, _, _⟩ := hst
                have atI := un.keep _ oi oi1 freshI (nfs _ (Nat.le_refl _)) List.not_mem_nil
                have atf := un.keep f _ q5 nf nfr List.not_mem_nil
                obtain ⟨its2, rv2, it2, _⟩ := I'.tuple (sqt_mono ok2.sub ht)
                refine hQ _ t' ⟨I', atf⟩ ⟨⟨oi, atI, oi2⟩, its2, it2, rv2⟩ atS ⟨ka, t1, t2, rfl, ik, nk, by omega⟩ fun i' k' ⟨kc, t3, t4, w1, ⟨o3, w2, w2'⟩, w3, w4⟩ => ?_
                exact ⟨kc, t3, t4, w1, ⟨o3, un.keep _ o3 w2 w3 (nfs _ (by omega)) List.not_mem_nil, w2'⟩, w3, w4⟩
            · subst e1 g1
              have hu : X.A.in1.units < cLine := by have := room.un; show X.A.units + 1 < _; omega
              exact cmp_pair hu e2 g2 _ _ _ _ hQ
          · exact ⟨I2.kept fun b o e => Heap.get?_push_of_some _ e, Heap.get?_push_of_some _ obj⟩
          · intro v t hP ⟨q2, _⟩
            obtain ⟨y, e1, e2⟩ := hP
            obtain ⟨d, d1, d2⟩ := rw_.get e1
            rw [rw_.length] at d1
            rw [d1] at ed
            cases ed
            exact ⟨y, H2, q2, e2, w1 F1 H2 st2 y d2⟩
end
end FL

/-! FL13: sorted(..) of data -/
namespace FL
open PySem PySem.Spec PyProof.Rows L2
section
variable {prog : Program} {w : World} {A : Around} {E : Value → Shared → Prop} {s : Shared}
theorem call_tup_lt {Q : Value → Shared → Prop} {l b : Addr} {xs ys : Array Value} {e r : Nat → Bool} (hl : s.heap.IsTuple l xs) (hb : s.heap.IsTuple b ys)
    (he : ∀ j (h1 : j < xs.size) (h2 : j < ys.size), SeqAt.EqAt A.in1 s xs[j] ys[j] (e j)) (hr : ∀ j (h1 : j < xs.size) (h2 : j < ys.size), e j = false → SeqAt.RcLt A.in1 s xs[j] ys[j] (r j))
    (h : Q (.bool (SeqAt.firstLt e r (decide (xs.size < ys.size)) (List.range (min xs.size ys.size)))) s) : wpAny (model prog w) A (call (.builtin "tuple.__lt__") [.ref l, .ref b]) Q E s := by
  obtain ⟨⟨c1, d1, t1, s1⟩, g1, q1, n1, z1⟩ := id hl
  obtain ⟨⟨c2, d2, t2, s2⟩, g2, q2, n2, z2⟩ := id hb
  simp only at q1 z1 q2 z2
  subst q1 z1 q2 z2
  exact call_meets F.slot_tuple_lt ⟨_, g1, rfl⟩ F.entry_tuple_lt (F.args_tuple_lt_2 _ _) (SeqAt.tuple_ltAt l b xs ys n1 n2 d1 d2 s1 s2 e r) ⟨g1, g2, he, hr, h⟩
theorem one_tups {xs ys : List PyData} {a b : Value} {as bs : List Addr} {Q : Bool → Shared → Prop} (ra : Reads s.heap a (.tuple xs) as) (rb : Reads s.heap b (.tuple ys) bs) (h : PySem.W.alikeAll xs ys = true)
    (hu : A.units + min (PyData.tuple xs).depth (PyData.tuple ys).depth < cLine) (hq : Q (PySem.W.dataLt (.tuple xs) (.tuple ys)) s) : wpAny (model prog w) A (oneLt' true a b) Q E s := by
  cases ra with
  | @tuple l o vs n _ a1 h1 h2 h3 h4 =>
    cases rb with
    | @tuple l' o' vs' n' _ b1 k1 k2 k3 k4 =>
      have z1 : vs.size = xs.length := by simpa using SeqAt.ReadsAll.length _ _ _ h4
      have z2 : vs'.size = ys.length := by simpa using SeqAt.ReadsAll.length _ _ _ k4
      rw [PySem.W.dataLt_tuple, ← PySem.W.firstLt_toks xs ys h, ← z1, ← z2] at hq
      rw [oneLt'_eq, if_pos rfl]
      refine wpAny_bind (wpAny_cRoomFor (SeqAt.room_here hu) ?_)
      refine wpAny_bind (wpAny_callSpecialIfBound?_slot (T := "tuple") ⟨_, h1, h2⟩ F.slot_tuple_lt (call_tup_lt (e := SeqAt.pairEq xs ys) (r := fun j => PySem.W.dataLt (xs.getD j .none) (ys.getD j .none)) ⟨_, h1, h2, _, h3⟩ ⟨_, k1, k2, _, k3⟩ (fun j j1 j2 => ?_) (fun j j1 j2 hj => ?_) (wpAny_truthy_bool hq)))
      · have q := PySem.W.eqAt_alikeAll xs ys A.in1 s vs.toList vs'.toList _ _ h4 k4 h (SeqAt.room_in hu) j (by simpa using j1) (by simpa using j2)
        simpa using q
      · have q := PySem.W.rcLt_alikeAll xs ys A.in1 s vs.toList vs'.toList _ _ h4 k4 h (SeqAt.room_in hu) j (by simpa using j1) (by simpa using j2) hj
        simpa using q
end

section
variable {M : Model} {A : Around} {E : Value → Shared → Prop} {s : Shared}
open PySem.W (EachIs Looks)
theorem firsts_opt : ∀ {vs : List Value} {xss : List (Array Value)} {Q : List (Option Value) → Shared → Prop}, EachIs (fun v xs => ∃ a, v = Value.ref a ∧ s.heap.IsTuple a xs) vs xss → Q (xss.map fun xs => xs[0]?) s → wpAny M A (vs.mapM firstOfTuple') Q E s
  | [], [], _, _, h => by rw [List.mapM_nil]; exact wpAny_pure h
  | v :: vs, xs :: xss, Q, .cons hv t, h => by
    obtain ⟨a, e, ⟨c1, d1, t1, s1⟩, g1, q1, n1, z1⟩ := hv
    simp only at q1 z1
    subst e q1 z1
    rw [List.mapM_cons]
    refine wpAny_bind ?_
    rw [PySem.W.kas_first_eq]
    refine wpAny_bind (Looks.here (show Looks M s.heap (typeOf (.ref a)) (.type "tuple") from (Looks.ld g1).andThen .now) ?_)
    rw [if_neg (by first | decide | simp)]
    refine wpAny_bind (listItems_at g1 rfl (wpAny_pure ?_))
    exact wpAny_bind (firsts_opt (Q := fun r s' => wpAny M A (pure (xs[0]? :: r)) Q E s') t (wpAny_pure h))
/-- tuples, the first of them empty -/
theorem kind_mixed {vs : List Value} {xss : List (Array Value)} {Q : SortKind → Shared → Prop} (t : EachIs (fun v xs => ∃ a, v = Value.ref a ∧ s.heap.IsTuple a xs) vs (#[] :: xss)) (h : Q oneType' s) : wpAny M A (keyKind' vs.toArray) Q E s := by
  rw [kat_kind_eq, List.mapM_toArray, map_eq_pure_bind]
  refine wpAny_bind (wpAny_bind (firsts_opt t (wpAny_pure ?_)))
  have n1 : ((((#[] :: xss).map fun xs : Array Value => xs[0]?)).toArray.all fun x => x.isSome) = false := by simp
  rw [n1]
  simp only [Bool.false_eq_true, if_false]
  have n2 : (((((#[] :: xss).map fun xs : Array Value => xs[0]?)).toArray[0]?.bind id).isSome) = false := by simp
  rw [n2]
  simp only [Bool.false_eq_true, if_false]
  rw [oneTypeOnly'_eq, List.mapM_toArray, map_eq_pure_bind]
  have ty : ∀ v ∈ vs, ∀ (Q' : Value → Shared → Prop), Q' (.type "tuple") s → wpAny M A (typeOf v) Q' E s := fun v hv Q' hq => by
    obtain ⟨xs, _, a, e, o, g1, q1, _⟩ := t.left v hv
    subst e
    exact Looks.here (show Looks M s.heap (typeOf (.ref a)) o.cls from (Looks.ld g1).andThen .now) (by rw [q1]; exact hq)
  refine wpAny_bind (wpAny_bind (wpAny_bind (PySem.W.kas_mapM (r := .type "tuple") _ (fun v hv Q' hq => ty v hv Q' hq) (wpAny_pure ?_))))
  cases t with
  | cons h1 t =>
    rename_i v vs
    have all : ((List.map (fun _ => Value.type "tuple") (v :: vs)).toArray.all fun x => x == Value.type "tuple") = true := by
      simp only [List.all_toArray, List.all_map, List.all_eq_true]
      intro _ _
      exact beq_self_eq_true _
    have h0 : (List.map (fun _ => Value.type "tuple") (v :: vs)).toArray[0]? = some (Value.type "tuple") := by simp
    rw [h0]
    simp only [all, if_true]
    exact wpAny_pure (wpAny_pure h)
end

section
variable {prog : Program} {w : World} {A : Around} {s : Shared}
open PySem.W (EachIs SortsAt AllAlike)
theorem sorts_mixed {vs : List Value} {ds : List PyData} (e : EachIs (fun v d => ∃ as, Reads s.heap v d as) vs (.tuple [] :: ds)) (al : AllAlike (.tuple [] :: ds)) (ht : ∀ d ∈ PyData.tuple [] :: ds, ∃ xs, d = .tuple xs) (hu : ∀ d ∈ PyData.tuple [] :: ds, A.units + d.depth < cLine) :
    SortsAt prog w A s (PySem.W.dataKind s.heap (.tuple [] :: ds)) vs := by
  refine ⟨fun v hv => ?_, oneType', fun E x y a b Q ha hb hq => ?_, fun _ E Q hq => ?_⟩
  · obtain ⟨d, hd, as, r⟩ := e.left v hv
    exact ⟨_, PySem.W.dataKind_some al hd r⟩
  · obtain ⟨d, as, hd, ra, rfl⟩ := PySem.W.dataKind_inv ha
    obtain ⟨d', as', hd', rb, rfl⟩ := PySem.W.dataKind_inv hb
    obtain ⟨xs, rfl⟩ := ht d hd
    obtain ⟨ys, rfl⟩ := ht d' hd'
    rw [keyLt'_oneType]
    exact one_tups ra rb (by simpa [PySem.W.alike] using al _ hd _ hd') (Nat.lt_of_le_of_lt (Nat.add_le_add_left (Nat.min_le_left _ _) _) (hu _ hd)) hq
  · have tups : ∀ {vs : List Value} {ds : List PyData}, EachIs (fun v d => ∃ as, Reads s.heap v d as) vs ds → (∀ d ∈ ds, ∃ xs, d = .tuple xs) → ∃ xss, EachIs (fun v xs => ∃ a, v = Value.ref a ∧ s.heap.IsTuple a xs) vs xss ∧ (∀ r, ds = .tuple [] :: r → ∃ r', xss = #[] :: r') := by
      intro vs ds e
      induction e with
      | nil => exact fun _ => ⟨[], .nil, fun r z => by cases z⟩
      | @cons v d vs ds h t ih =>
        intro ht
        obtain ⟨xss, h1, _⟩ := ih fun d hd => ht d (List.mem_cons_of_mem _ hd)
        obtain ⟨xs, rfl⟩ := ht d List.mem_cons_self
        obtain ⟨as, r⟩ := h
        cases r with
        | @tuple l o us n _ a1 q1 q2 q3 q4 =>
          refine ⟨us :: xss, .cons ⟨l, rfl, o, q1, q2, n, q3⟩ h1, fun r z => ?_⟩
          have z1 : xs = [] := by
            have := (List.cons.inj z).1
            simpa using this
          subst z1
          have z2 : us.size = 0 := by simpa using SeqAt.ReadsAll.length _ _ _ q4
          have z3 : us = #[] := Array.size_eq_zero_iff.mp z2
          exact ⟨xss, by rw [z3]⟩
    obtain ⟨xss, h1, h2⟩ := tups e ht
    obtain ⟨r', e2⟩ := h2 ds rfl
    subst e2
    exact kind_mixed h1 hq
end
/-! ### the rule -/
def isTupD : D → Bool
  | .tup _ => true
  | _ => false
def fullTupD : D → Bool
  | .tup (_ :: _) => true
  | _ => false
def headNil : List D → Bool
  | .tup [] :: _ => true
  | _ => false
def othersD : D → Bool
  | .non => false
  | .tup _ => false
  | _ => true
def sortOk (xs : List D) : Bool := D.plains xs && (xs.all fun a => xs.all fun b => PySem.W.alike a.py b.py) && (xs.all fullTupD || xs.all othersD || (headNil xs && xs.all isTupD)) && (xs.all fun a => decide (a.py.depth ≤ 60)) && decide (xs.length ≤ sizeLine)
def sortD (xs : List D) : List D := xs.mergeSort (PySem.W.dataLe false D.py)
section
variable {X : Cx} {k : Kx}
open PySem.W (EachIs)
def rSortD (X : Cx) : List V → Hp → VK → Prop := fun vs H Q => ∃ (k : Kx) (F : Hp) (a : Addr) (xs : List V) (bs : List D), k.K = X.K ∧ Same F H ∧ Same k.B H ∧ vs = [.ref a] ∧ SqL X.K H a xs ∧ Reps k F xs bs ∧ sortOk bs = true ∧ ∀ ys p, Reps k F ys (sortD bs) → H p = none → Q (.ref p) (L2.upd H p (.lst ys))
theorem each_out {F : Hp} : ∀ {out : List Value} {bs : List D}, EachIs (fun v b => ∃ x, L2.RelV x v ∧ Rep k F x b) out bs → ∃ ws, Vals ws out ∧ Reps k F ws bs
  | [], [], .nil => ⟨[], .nil, .nil⟩
  | _ :: _, _ :: _, .cons ⟨x, h1, h2⟩ t => let ⟨ws, q1, q2⟩ := each_out t; ⟨x :: ws, .cons h1 q1, .cons h2 q2⟩
theorem each_in {F : Hp} : ∀ {its : List Value} {xs : List V} {bs : List D}, Vals xs its → Reps k F xs bs → EachIs (fun v b => ∃ x, L2.RelV x v ∧ Rep k F x b) its bs
  | _, _, _, .nil, .nil => .nil
  | _, _, _, .cons h t, .cons r rs => .cons ⟨_, h, r⟩ (each_in t rs)
theorem cr_sortD (hu : X.A.units + 80 < cLine) : CallR X (.builtin "sorted") (rSortD X) := by
  intro pins s σ H vs us Q I r ⟨k, F, a, xs, bs, hk, sF, sB, e, hs, rr, ok, q⟩
  subst e
  obtain ⟨its, rv, hl, hz⟩ := I.list hs
  rw [vals_ref1 r]
  unfold sortOk at ok
  simp only [Bool.and_eq_true, Bool.or_eq_true, List.all_eq_true, decide_eq_true_eq] at ok
  obtain ⟨⟨⟨⟨pl, al⟩, kind⟩, dp⟩, len⟩ := ok
  have pl : ∀ b ∈ bs, b.plain = true := by rw [D.plains_all, List.all_eq_true] at pl; exact pl
  have ei := each_in rv rr
  have er : EachIs (fun v b => ∃ as, Reads s.heap v (D.py b) as) its bs := (PySem.W.each_mem ei).mono fun v b ⟨⟨x, h1, h2⟩, hb⟩ => by
    exact Dp.reads I _ _ _ (hk ▸ h2.dp sF sB (pl b hb)) h1
  have all : PySem.W.AllAlike (bs.map D.py) := fun d hd d' hd' => by
    obtain ⟨b, hb, e⟩ := List.mem_map.mp hd
    obtain ⟨b', hb', e'⟩ := List.mem_map.mp hd'
    subst e e'
    exact al b hb b' hb'
  have fin : ∀ out : List Value, out.length = bs.length → EachIs (fun v b => ∃ x, L2.RelV x v ∧ Rep k F x b) out (sortD bs) → EP X pins σ Q (.ref (s.heap.objs.size + 1)) { s with heap := sortedAll s.heap its (List.toArray out) } := fun out lo eo => by
    obtain ⟨ws, q1, q2⟩ := each_out eo
    obtain ⟨ep, he⟩ := sortedAll_at s.heap its (List.toArray out)
    refine ⟨.ref _, L2.upd H (s.heap.objs.size + 1) (.lst ws), I.laid (t' := s.toks) (fun _ _ => sortedAll_old) (Nat.le_succ _) ⟨?_, out, ep, q1, he⟩, rfl, q ws _ q2 (I.hok.fresh (Nat.le_succ _))⟩
    rw [q1.length, lo]
    exact len
  have hu' : ∀ b, b ∈ bs → X.A.units + 2 + (D.py b).depth < cLine := fun b hb => by have := dp b hb; omega
  have er' : EachIs (fun v b => ∃ as, Reads (PySem.W.sortingHeap (PySem.W.copyHeap s.heap its) (s.heap.objs.size + 1) its) v (D.py b) as) its bs := er.mono fun _ _ ⟨as, r⟩ => ⟨as, PyProof.Rows.Reads.keeps (fun _ _ => PySem.W.sorting_copy_old) r⟩
  rcases kind with (hk1 | hk2) | ⟨h0, h1⟩
  · refine PySem.W.sorted_data (enc := D.py) hl.isList ei er all (.inl fun d hd => ?_) len hu' fin
    obtain ⟨b, hb, e⟩ := List.mem_map.mp hd
    subst e
    have z := hk1 b hb
    unfold fullTupD at z
    split at z
    · rw [D.py, D.pys]; exact ⟨_, _, rfl⟩
    · cases z
  · refine PySem.W.sorted_data (enc := D.py) hl.isList ei er all (.inr fun d hd => ?_) len hu' fin
    obtain ⟨b, hb, e⟩ := List.mem_map.mp hd
    subst e
    have z := hk2 b hb
    have p := pl b hb
    cases b with
    | non => cases z
    | tup _ => cases z
    | deal => simp [D.plain] at p
    | ins _ _ _ => simp [D.plain] at p
    | _ => rw [D.py]; exact ⟨by simp, fun _ q => by cases q⟩
  · have hd0 : ∃ r, bs.map D.py = .tuple [] :: r := by
      unfold headNil at h0
      split at h0
      · exact ⟨_, by rw [List.map_cons, D.py, D.pys]⟩
      · cases h0
    obtain ⟨r0, e0⟩ := hd0
    have tups : ∀ d ∈ bs.map D.py, ∃ xs, d = .tuple xs := fun d hd => by
      obtain ⟨b, hb, e⟩ := List.mem_map.mp hd
      subst e
      have z := h1 b hb
      unfold isTupD at z
      split at z
      · rw [D.py]; exact ⟨_, rfl⟩
      · cases z
    have em := PySem.W.each_map (R := fun v d => ∃ as, Reads (PySem.W.sortingHeap (PySem.W.copyHeap s.heap its) (s.heap.objs.size + 1) its) v d as) D.py er'
    have sa : PySem.W.SortsAt X.prog X.w X.A.in1.in1 { s with heap := PySem.W.sortingHeap (PySem.W.copyHeap s.heap its) (s.heap.objs.size + 1) its } (PySem.W.dataKind (PySem.W.sortingHeap (PySem.W.copyHeap s.heap its) (s.heap.objs.size + 1) its) (bs.map D.py)) its := by
      have bd : ∀ d ∈ bs.map D.py, X.A.in1.in1.units + d.depth < cLine := fun d hd => by
        obtain ⟨b, hb, e⟩ := List.mem_map.mp hd
        subst e
        exact hu' b hb
      rw [e0] at em all tups bd ⊢
      exact sorts_mixed (s := { s with heap := PySem.W.sortingHeap (PySem.W.copyHeap s.heap its) (s.heap.objs.size + 1) its }) em all tups bd
    exact PySem.W.sorted_vals hl.isList sa (by rw [← rv.length]; exact hz) (fin _ (by rw [PySem.W.sortVals_length false rfl]; exact ei.length) (PySem.W.sortVals_data false ei er' all))
def gSorted : List D → M (List D) := fun ds st => match ds with
  | [d] => (match asL d with
    | some xs => if sortOk xs then .ok (sortD xs) st else .stuck
    | none => .stuck)
  | _ => .stuck
theorem c_sorted (hu : X.A.units + 80 < cLine) (hk : k.K = X.K := by rfl) : CallO X k (.builtin "sorted") gSorted :=
  ⟨_, cr_sortD hu, fun {E σ F H Γ st vs ds Q} ok r w => by
    unfold gSorted at w
    split at w
    · split at w
      · rename_i d xs ex
        split at w
        · rename_i hs
          match vs, r with
          | [_], .cons rh .nil =>
            obtain ⟨a, ws, e, rs, sd⟩ := asL_use rh ex
            subst e
            exact ⟨k, F, a, ws, xs, hk, ok.sub, ok.bsub, rfl, SqL.of (sd.now ok), rs, hs, fun ys p ry np => w _ _ (ok.new' np) p _ upd_same (ok.fnone np) np ry⟩
        · exact w.elim
      · exact w.elim
    · exact w.elim⟩
end
end FL

/-! FL14: enumerate of a tuple, x[::-1], sorted(set(..)) of ints, [..] * n as one's own -/
namespace PySem
open Sem (wp)
open AutoSeq1 (wpAny_loadPart')
theorem fl_enum_tup (t : Addr) (items : Array Value) (n : Nat) (dct : Option Addr) (sl : Array (Option Value)) :
    Meets (Builtin.«enumerate.__new__» ⟨[.type "enumerate", .ref t], []⟩) (fun _ R s => s.heap.get? t = some { cls := .type "tuple", dict := dct, data := .seq items n, slots := sl } ∧
      R (.ok (.ret (.ref (s.heap.push { cls := .type "tuple_iterator", data := .fields #[.ref t, .int 0 0] }).objs.size)))
        { s with heap := (s.heap.push { cls := .type "tuple_iterator", data := .fields #[.ref t, .int 0 0] }).push { cls := .type "enumerate", data := .fields #[.none, .bool false, .ref s.heap.objs.size, rawInt 0, .none, .none] } }) :=
  .of_wp fun prog w A R s ⟨at_, fin⟩ => by
    obtain ⟨hp, gs, dr, tk, os⟩ := s
    have sube := sub_enumerate
    have tup : Heap.IsTuple (Shared.heap ⟨hp, gs, dr, tk, os⟩) t items := ⟨_, at_, rfl, n, rfl⟩
    wp_walk using wpAny_loadPart' at_
    refine wpAny_stack_any fun stk => (wpAny_pure ?_)
    split
    · rename_i c _ _ _ _ _
      cases (c == Value.type "enumerate") <;> (wp_walk using wpAny_loadPart' at_, wpAny_pyIter_tuple tup) <;> exact ⟨_, rfl, fin⟩
    · wp_walk using wpAny_loadPart' at_, wpAny_pyIter_tuple tup
      exact ⟨_, rfl, fin⟩
section
variable {prog : Program} {w : World} {A : Around} {E : Value → Shared → Prop} {s : Shared}
theorem fl_call_enum_tup {t : Addr} {items : Array Value} {Q : Value → Shared → Prop} (tup : s.heap.IsTuple t items)
    (go : ∀ h', IsEnum h' (s.heap.objs.size + 1) s.heap.objs.size 0 .none → h'.IsTupleIter s.heap.objs.size t 0 → (∀ b o, s.heap.get? b = some o → h'.get? b = some o) → Q (.ref (s.heap.objs.size + 1)) { s with heap := h' }) :
    wpAny (model prog w) A (call (.type "enumerate") [.ref t]) Q E s := by
  obtain ⟨⟨c, dct, dt, sl⟩, at_, e1, n, e2⟩ := tup
  simp only at e1 e2
  subst e1 e2
  refine callType_new F.called_enumerate (by decide) (F.typeCall_enumerate_1 _) (F.newCall_enumerate_1 _) (fun ob => F.args_object_init_2 ob _) F.entry_enumerate_new (fl_enum_tup t items n dct sl) ⟨at_, ?_⟩
  have z : (s.heap.push { cls := .type "tuple_iterator", data := .fields #[.ref t, .int 0 0] }).objs.size = s.heap.objs.size + 1 := Heap.size_push ..
  show _ ∧ _
  rw [z]
  have en : IsEnum ((s.heap.push { cls := .type "tuple_iterator", data := .fields #[.ref t, .int 0 0] }).push { cls := .type "enumerate", data := .fields #[.none, .bool false, .ref s.heap.objs.size, rawInt 0, .none, .none] }) (s.heap.objs.size + 1) s.heap.objs.size 0 .none := by
    have q := Heap.get?_push_size (s.heap.push { cls := .type "tuple_iterator", data := .fields #[.ref t, .int 0 0] }) (o := { cls := .type "enumerate", data := .fields #[.none, .bool false, .ref s.heap.objs.size, rawInt 0, .none, .none] }) rfl
    rw [z] at q
    exact q
  exact ⟨⟨_, en, rfl⟩, go _ en ⟨_, Heap.get?_push_of_some _ (Heap.get?_push_size _ rfl), rfl, rfl⟩ fun b o x => Heap.get?_push_of_some _ (Heap.get?_push_of_some _ x)⟩
end
end PySem
namespace FL
open PySem PySem.Spec PyProof.Rows L2 RZ
/-! ### for i, x in enumerate(t) -/
def IteT (K : PySem.W.Frag) (a : Addr) : It :=
  ⟨fun i H => ∃ (xs : List V) (x : V), SqT K H a xs ∧ xs[i]? = some x, fun i H v H' => ∃ T x, v = .ref T ∧ H T = none ∧ H' = L2.upd H T (.tup [.int (i : Nat), x]) ∧ ∀ xs, SqT K H a xs → xs[i]? = some x, fun i H => ∃ xs : List V, SqT K H a xs ∧ xs.length ≤ i⟩
theorem turn_enumT {P : Program} {w : World} {K : PySem.W.Frag} {elts : List Expr} {kk : Nat} {tpos : Pos} (a e it : Addr) :
    Turn P w K (.Tuple elts kk tpos) (IteT K a) [e, it] e (fun i h => (∃ old, IsEnum h e it ((i : Nat) : Int) old) ∧ h.IsTupleIter it a i ∧ e ≠ it) where
  mem := by simp
  obj := fun i h st b hb => by
    obtain ⟨⟨old, he⟩, ⟨o, ho, hc, hd⟩, _⟩ := st
    rcases List.mem_cons.mp hb with z | z
    · rw [z]; exact ⟨_, he, fun v q => nomatch q⟩
    · rw [List.mem_singleton.mp z]; exact ⟨o, ho, fun v q => by rw [hd] at q; cases q⟩
  keep := fun i h h' st kp => let ⟨⟨old, he⟩, hi, hne⟩ := st; ⟨⟨old, kp e (by simp) _ he⟩, hi.at fun o q => kp it (by simp) o q, hne⟩
  item := by
    intro X hP hw hK calm i pins s σ H E I hf st hg
    subst hP hw hK
    obtain ⟨⟨old, en⟩, hit, ne⟩ := st
    obtain ⟨xs, x, hq, hx⟩ := hg
    obtain ⟨its, rv, p, hz⟩ := I.tuple hq
    obtain ⟨u, hu, ru⟩ := rv.get hx
    have lt1 : e < s.heap.objs.size := Heap.lt_size en
    have lt2 : it < s.heap.objs.size := by obtain ⟨_, q, _⟩ := hit; exact Heap.lt_size q
    have ea : e ≠ a := fun z => by
      obtain ⟨o, ho, c, _⟩ := p
      rw [← z, en] at ho
      cases ho
      exact absurd (Value.type.inj c) (by decide)
    have ita : a ≠ it := fun z => by
      obtain ⟨o, ho, c, _⟩ := p
      obtain ⟨o', ho', c', _⟩ := hit
      rw [z, ho'] at ho
      cases ho
      rw [c] at c'
      exact absurd (Value.type.inj c') (by decide)
    have D := Draws.tuple (prog := X.prog) (w := X.w) (A := X.A.in1) (I.ok.hd calm) it a ita its.toArray
    have iz : i < its.toArray.size := by
      rw [List.size_toArray]
      exact (List.getElem?_eq_some_iff.mp hu).1
    refine wpAny_pyNext_enum_itemD D en ⟨hit, p⟩ iz ne (by simp [ne, ea]) fun y h' tk py ho st' hT hsz hk => ?_
    have ey : y = u := by
      have py : its.toArray[i]? = some y := py
      rw [List.getElem?_toArray, hu] at py
      exact (Option.some.inj py).symm
    subst ey
    refine ⟨_, rfl, wpAny_letOwnedTupleGo_enum (s := { s with heap := h', toks := tk + 1 }) ho fun h'' he' sb => ?_⟩
    have hT2 : h''.get? s.heap.objs.size = some { cls := .type "tuple", data := .seq #[.int i tk, y] } := (sb.2 _ (Nat.ne_of_gt lt1)).trans hT
    have new : ObjOk X.prog X.w (L2.upd H s.heap.objs.size (.tup [.int (i : Nat), x])) h'' s.heap.objs.size (.tup [.int (i : Nat), x]) :=
      ⟨by show 2 ≤ sizeLine; decide, [.int i tk, y], .cons ⟨_, rfl⟩ (.cons ru .nil), ⟨_, hT2, rfl, _, rfl⟩⟩
    have I1 : Inv X pins σ (L2.upd H s.heap.objs.size (.tup [.int (i : Nat), x])) { s with heap := h'', toks := tk + 1 } :=
      I.turnedNew (ch := [e, it]) (fun b ob hb q => (sb.2 b (fun z => hb (by simp [z]))).trans (hk b ob (fun z => hb (by simp [z])) (fun z => hb (by simp [z])) q)) hf (Nat.le_refl _) new
    refine ⟨.ref s.heap.objs.size, _, I1, rfl, ⟨_, x, rfl, I.hok.fresh (Nat.le_refl _), rfl, fun ys hy => by rw [I.tuple_inj hy hq]; exact hx⟩, ⟨⟨y, ?_⟩, st'.1.at fun o q => (sb.2 it (Ne.symm ne)).trans q, ne⟩, fun b hb => ?_⟩
    · have e1 : ((i + 1 : Nat) : Int) = (i : Int) + 1 := by omega
      rw [e1]
      exact he'
    · have hb' : b < s.heap.objs.size := by
        rcases List.mem_cons.mp hb with z | z
        · rw [z]; exact lt1
        · rw [List.mem_singleton.mp z]; exact lt2
      rw [upd_ne (Nat.ne_of_lt hb')]
      exact (hf b hb).1
  done := by
    intro X hP hw hK calm i pins s σ H E I hf st hg
    subst hP hw hK
    obtain ⟨⟨old, en⟩, hit, ne⟩ := st
    obtain ⟨xs, hq, hx⟩ := hg
    obtain ⟨its, rv, p, hz⟩ := I.tuple hq
    obtain ⟨f0, f1, f2, f3, f4, f5⟩ := hf it (by simp)
    have ita : a ≠ it := fun z => by
      obtain ⟨o, ho, c, _⟩ := p
      obtain ⟨o', ho', c', _⟩ := hit
      rw [z, ho'] at ho
      cases ho
      rw [c] at c'
      exact absurd (Value.type.inj c') (by decide)
    have hl := rv.length
    unfold pyNext
    have hT : s.TypeIs (.ref e) "enumerate" := ⟨_, en, rfl⟩
    refine wpAny_bind (wpAny_attempt (wpAny_callSpecial?_slot (name := Str.ofString "__next__") hT F.slot_enumerate_next (wpAny_call_entry F.slot_enumerate_next hT F.entry_enumerate_next ?_ (F.args_enumerate_next_1 _))))
    show wpAny _ _ (field (.ref e) 2 >>= _) _ _ _
    refine wpAny_bind (wpAny_field en rfl (x := .ref it) rfl ?_)
    refine wpAny_bind (wpAny_nextOf_tuple_end (I.ok.hd calm) hit p (by simp; omega) fun h' x he' hx' => ?_)
    obtain ⟨o, ho, hc⟩ := hx'
    refine wpAny_bind (wpAny_isInstance (T := "StopIteration") (b := true) ⟨o, ho, hc⟩ isSubtype_stop (wpAny_pure ⟨rfl, I.turned (t' := s.toks) (fun b o hb e => he' b o hb e) f0 f1 f3 f4 f5⟩))
  self := fun A i s Q E st h => let ⟨⟨_, he⟩, _⟩ := st; wpAny_pyIter_enum he h
def iEnumT (K : PySem.W.Frag) (ta : TA) : TI := fun σ H R => ta σ H fun vs H1 => ∃ a xs, vs = [.ref a] ∧ ((SqL K H1 a xs ∧ R (Ite K a) H1) ∨ (SqT K H1 a xs ∧ R (IteT K a) H1))
theorem pi_enumT {X : Cx} {e : Expr} {ta : TA} {p pos tpos : Pos} {elts : List Expr} {kk : Nat} (hg : Gl X "enumerate") (hm : X.mg "enumerate" = none) (ha : PA X [e] ta) (hs : starEach [e] X.env = [(false, eval e X.env)] := by rfl) :
    PI X (.Tuple elts kk tpos) (.Call (.Name "enumerate" p) [e] [] pos) (iEnumT X.K ta) := by
  refine ⟨fun pins s σ H R I h => ?_⟩
  refine Call_ (ld_blt I hg hm boot_enumerate (PyProof.Rows.callWith_type1 (thn (ha.run pos pins s σ H _ I h) fun us s1 ⟨vs, H1, I1, r1, a, xs, ex, q⟩ => ?_) hs rfl))
  subst ex
  obtain rfl := vals_ref1 r1
  have far : ∀ b ∈ [s1.heap.objs.size + 1, s1.heap.objs.size], s1.heap.objs.size ≤ b := fun b hb => by
    rcases List.mem_cons.mp hb with z | z
    · rw [z]; exact Nat.le_add_right _ _
    · rw [List.mem_singleton.mp z]; exact Nat.le_refl _
  rcases q with ⟨hq, q⟩ | ⟨hq, q⟩
  · obtain ⟨its, rv, p', hz⟩ := I1.list hq
    refine call_enumerate_list p'.isList fun h' en hit _ kp => wpAny_pyIter_enum en ?_
    exact ⟨s1.heap.objs.size + 1, [s1.heap.objs.size + 1, s1.heap.objs.size], _, _, H1, rfl, I1.kept (t' := s1.toks) kp, turn_enum a (s1.heap.objs.size + 1) s1.heap.objs.size, ⟨⟨.none, en⟩, hit, Nat.succ_ne_self _⟩, fun b hb => I1.fpOk (far b hb) (I1.hok.fresh (far b hb)), q⟩
  · obtain ⟨its, rv, p', hz⟩ := I1.tuple hq
    refine fl_call_enum_tup p' fun h' en hit kp => wpAny_pyIter_enum en ?_
    exact ⟨s1.heap.objs.size + 1, [s1.heap.objs.size + 1, s1.heap.objs.size], _, _, H1, rfl, I1.kept (t' := s1.toks) kp, turn_enumT a (s1.heap.objs.size + 1) s1.heap.objs.size, ⟨⟨.none, en⟩, hit, Nat.succ_ne_self _⟩, fun b hb => I1.fpOk (far b hb) (I1.hok.fresh (far b hb)), q⟩
end FL

/-! FL15: t[::-1], sources and sets as rules over trees -/
namespace HT
open PySem PySem.Calls PyProof.Rows
section
variable {prog : Program} {w : World} {A : Around} {E : Value → Shared → Prop} {s : Shared}
theorem fl_applied_rev {sl : Addr} {va vb vc : Value} {n : Nat} {Q : Int × Int × Nat → Shared → Prop} (hs : s.heap.IsSliceOf sl va vb vc) (pa : IsPart va none) (pb : IsPart vb none) (pc : IsPart vc (some (-1)))
    (h : Q ((n : Int) - 1, -1, n) s) : wpAny (model prog w) A (Builtin.Slice.sliceApplied (.ref sl) (pure (n : Int))) Q E s := by
  obtain ⟨so, at_, cls, flds⟩ := id hs
  unfold Builtin.Slice.sliceApplied Builtin.Slice.sliceFields
  refine wpAny_bind (wpAny_bind (wpAny_field at_ flds (x := va) rfl (wpAny_bind (wpAny_field at_ flds (x := vb) rfl (wpAny_bind (wpAny_field at_ flds (x := vc) rfl (wpAny_pure ?_)))))))
  refine wpAny_bind (slicePart_ pc ?_)
  show wpAny _ _ (if ((-1 : Int) == 0) = true then _ else _) _ _ s
  rw [if_neg (by decide)]
  refine wpAny_bind (slicePart_ pa (wpAny_bind (slicePart_ pb (wpAny_bind (wpAny_pure ?_)))))
  show wpAny _ _ (pure (((n : Int) - 1), (-1 : Int), Builtin.Slice.slicePlaces ((n : Int) - 1) (-1) (-1))) _ _ s
  have e : Builtin.Slice.slicePlaces ((n : Int) - 1) (-1) (-1) = n := by
    unfold Builtin.Slice.slicePlaces
    rw [if_neg (by decide)]
    by_cases hn : 0 < n
    · rw [if_pos (by omega)]
      have : (-(-1 : Int)) = 1 := by decide
      rw [this, Int.ediv_one]
      omega
    · rw [if_neg (by omega)]
      omega
  rw [e]
  exact wpAny_pure h
theorem fm_map {α β : Type} {f : α → Option β} {g : α → β} : ∀ {l : List α}, (∀ m ∈ l, f m = some (g m)) → l.filterMap f = l.map g
  | [], _ => rfl
  | m :: l, h => by rw [List.filterMap_cons, h m List.mem_cons_self, List.map_cons, fm_map fun x hx => h x (List.mem_cons_of_mem _ hx)]
theorem fl_pick_rev (xs : Array Value) : ((List.range xs.size).filterMap fun (m : Nat) => xs[((xs.size : Int) - 1 + (m : Int) * (-1)).toNat]?) = xs.toList.reverse := by
  apply List.ext_getElem?
  intro i
  by_cases hi : i < xs.size
  · have e : ((List.range xs.size).filterMap fun (m : Nat) => xs[((xs.size : Int) - 1 + (m : Int) * (-1)).toNat]?) = (List.range xs.size).map fun m => xs[xs.size - 1 - m]?.getD .none := by
      refine fm_map fun m hm => ?_
      have hm := List.mem_range.mp hm
      have q : ((xs.size : Int) - 1 + (m : Int) * (-1)).toNat = xs.size - 1 - m := by omega
      rw [q, Array.getElem?_eq_getElem (by omega)]
      rfl
    rw [e, List.getElem?_map, List.getElem?_range hi, List.getElem?_reverse (by simpa using hi)]
    simp [Array.getElem?_eq_getElem (show xs.size - 1 - i < xs.size by omega)]
  · have hl : ((List.range xs.size).filterMap fun (m : Nat) => xs[((xs.size : Int) - 1 + (m : Int) * (-1)).toNat]?).length ≤ i := by
      refine Nat.le_trans (List.length_filterMap_le _ _) ?_
      simpa using hi
    rw [List.getElem?_eq_none hl, List.getElem?_eq_none (by simpa using hi)]
theorem fl_rev_tup {t sl : Addr} {items : Array Value} {va vb vc : Value} {Q : Value → Shared → Prop} (ht : IsTup s.heap t items) (hs : s.heap.IsSliceOf sl va vb vc) (pa : IsPart va none) (pb : IsPart vb none) (pc : IsPart vc (some (-1)))
    (h : Q (.ref s.heap.objs.size) { s with heap := s.heap.push { cls := .type "tuple", data := .seq items.toList.reverse.toArray } }) (hsz : items.size ≤ sizeLine) : wpAny (model prog w) A (getItem (.ref t) (.ref sl)) Q E s := by
  have fits : sizeOk (.seq items.toList.reverse.toArray) := by
    show items.toList.reverse.toArray.size ≤ sizeLine
    simpa using hsz
  obtain ⟨so, at_, cls, flds⟩ := id hs
  have ty : s.TypeIs (.ref sl) "slice" := ⟨so, at_, cls⟩
  unfold getItem
  try with_reducible refine wpAny_holding ?_
  first | refine wpAny_bind (wpAny_pure ?_) | skip
  refine wpAny_bind (wpAny_sequenceKey ht.typeIs (by decide) ?_)
  refine wpAny_bind (wpAny_callSpecial?_slot (name := Str.ofString "__getitem__") ht.typeIs PyProof.Rows.slot_tuple_getitem (wpAny_call_entry PyProof.Rows.slot_tuple_getitem ht.typeIs entry_tuple_getitem ?_ (args_tuple_getitem _ _)))
  show wpAny _ _ (Builtin.Tuple.tupleItemsOf (.ref t) >>= _) _ _ s
  refine wpAny_bind (tupleItemsOf_ ht (wpAny_bind (wpAny_typeOf ty ?_)))
  rw [if_pos (by decide)]
  refine wpAny_bind (fl_applied_rev hs pa pb pc ?_)
  show wpAny _ _ (if (((items.size : Int) - 1 == 0 && (-1 : Int) == 1 && items.size == items.size)) = true then _ else _) _ _ s
  rw [if_neg (by simp), fl_pick_rev]
  first
    | exact wpAny_bind (m := Builtin.Tuple.tupleExact _) (wpAny_newObj_type (wpAny_pure ⟨_, rfl, wpAny_pure h⟩) fits)
    | exact wpAny_bind (m := Builtin.Tuple.tupleExact _) (wpAny_newObj_type (wpAny_bind (wpAny_pure (wpAny_pure ⟨_, rfl, wpAny_pure h⟩))) fits)
    | exact wpAny_bind (wpAny_bind (m := Builtin.Tuple.tupleExact _) (wpAny_newObj_type (wpAny_pure (wpAny_pure ⟨_, rfl, wpAny_pure h⟩)) fits))
    | exact wpAny_bind (wpAny_bind (m := Builtin.Tuple.tupleExact _) (wpAny_newObj_type (wpAny_pure ⟨_, rfl, wpAny_pure h⟩) fits))
end
end HT
namespace FL
open PySem PySem.Spec PyProof.Rows L2 RZ
section
variable {X : Cx} {k : Kx} {E : XE} {e : Expr} {me : EM} {mr : Ev → M (List D)} {pos p : Pos}
/-! ### x[::-1] of a list, a tuple -/
def tRevA (K : PySem.W.Frag) (te : TE) : TE := fun σ H Q => te σ H fun x H1 => ∃ a xs, x = .ref a ∧ ((SqL K H1 a xs ∧ ∀ p, H1 p = none → Q (.ref p) (L2.upd H1 p (.lst xs.reverse))) ∨ (SqT K H1 a xs ∧ ∀ p, H1 p = none → Q (.ref p) (L2.upd H1 p (.tup xs.reverse))))
theorem pe_revA {te : TE} {j : Nat} {p1 p2 p3 : Pos} (he : PE X e te) : PE X (.Subscript e (.Slice none none (some (.UnaryOp .USub (.Constant (.int 1) j p1) p2)) p3) pos) (tRevA X.K te) := by
  refine ⟨fun pins s σ H Q I h => ?_⟩
  refine Subscript_ (thn (he.run pins s σ H _ I h) fun v s1 ⟨x, H1, I1, r1, a, xs, ex, q1⟩ => ?_)
  subst ex
  obtain rfl : v = Value.ref a := r1
  have stp : PO X (some (.UnaryOp .USub (.Constant (.int 1) j p1) p2)) (tPart (tUn (rU fun i => .int (-i)) (tC (.int 1)))) := po_some (pe_un un_neg pe_int)
  refine wpAny_Slice (thn (po_none.run pins s1 σ H1 (fun o H2 => o = none ∧ H2 = H1) I1 ⟨rfl, rfl⟩) fun vl s2 ⟨l, H2, I2, pl, el, e2⟩ => ?_)
  subst el e2
  refine thn (po_none.run pins s2 σ H2 (fun o H3 => o = none ∧ H3 = H2) I2 ⟨rfl, rfl⟩) fun vu s3 ⟨u, H3, I3, pu, eu, e3⟩ => ?_
  subst eu e3
  refine thn (stp.run pins s3 σ H3 (fun o H4 => o = some (-1) ∧ H4 = H3) I3 ⟨1, rfl, -1, rfl, rfl, rfl⟩) fun vs s4 ⟨o, H4, I4, ps, eo, e4⟩ => ?_
  subst eo e4
  have I5 : Inv X pins σ H4 { s4 with heap := s4.heap.push { cls := .type "slice", data := .fields #[vl, vu, vs] } } := I4.kept (t' := s4.toks) fun b ob q => Heap.get?_push_of_some _ q
  show wpAny (model X.prog X.w) X.A (subscriptTail e (.Slice none none (some (.UnaryOp .USub (.Constant (.int 1) j p1) p2)) p3) (.ref a) (.ref s4.heap.objs.size)) (EP X pins σ Q) X.xe _
  rcases q1 with ⟨hx, q⟩ | ⟨hx, q⟩
  · obtain ⟨its, r, ht, hz⟩ := I5.list hx
    have hlen := r.length
    refine tail_any (ops := [.ref a, .ref s4.heap.objs.size]) ht.isList.typeIs (PySem.slot_list_getitem.lookup) (wpAny_getItem_list_slice ht.isList (Heap.IsSliceOf.new _ vl vu vs) pl pu ps (by decide) ?_ (by rw [List.size_toArray]; omega)) (by with_unfolding_all rfl)
    rw [PySem.W.krv_pick]
    refine ⟨.ref _, _, I5.laid (t' := s4.toks) (o := .lst xs.reverse) (fun b ob q => Heap.get?_push_of_some _ q) (Nat.le_refl _) ⟨by rw [List.length_reverse]; exact hz, _, 0, r.reverse, Heap.get?_push_size _ rfl⟩, rfl, q _ (I5.hok.fresh (Nat.le_refl _))⟩
  · obtain ⟨its, r, ht, hz⟩ := I5.tuple hx
    have hlen := r.length
    refine tail_any (ops := [.ref a, .ref s4.heap.objs.size]) ht.typeIs PyProof.Rows.slot_tuple_getitem.lookup (HT.fl_rev_tup ht (Heap.IsSliceOf.new _ vl vu vs) pl pu ps ?_ (by rw [List.size_toArray]; omega)) (by with_unfolding_all rfl)
    refine ⟨.ref _, _, I5.laid (t' := s4.toks) (o := .tup xs.reverse) (fun b ob q => Heap.get?_push_of_some _ q) (Nat.le_refl _) ⟨by rw [List.length_reverse]; exact hz, _, r.reverse, ⟨_, Heap.get?_push_size _ rfl, rfl, _, rfl⟩⟩, rfl, q _ (I5.hok.fresh (Nat.le_refl _))⟩
def gRev : D → M D := fun d st => match d with
  | .lst xs => .ok (.lst xs.reverse) st
  | .bor xs => .ok (.lst xs.reverse) st
  | .tup xs => .ok (.tup xs.reverse) st
  | _ => .stuck
theorem Reps.reverse {F : Hp} : ∀ {vs : List V} {ds : List D}, Reps k F vs ds → Reps k F vs.reverse ds.reverse
  | _, _, .nil => .nil
  | _, _, .cons h t => by rw [List.reverse_cons, List.reverse_cons]; exact (Reps.reverse t).append (.cons h .nil)
theorem e_rev {j : Nat} {p1 p2 p3 : Pos} (he : PE X e (tM k E me)) (hk : k.K = X.K := by rfl) : PE X (.Subscript e (.Slice none none (some (.UnaryOp .USub (.Constant (.int 1) j p1) p2)) p3) pos) (tM k E (mUn gRev me)) :=
  PE.weak (pe_revA he) fun σ H Q ⟨F, Γ, st, ok, w⟩ => tM.then_ ok w fun v d F1 H1 st1 s1 ok1 r1 w1 => by
    unfold gRev at w1
    split at w1
    · cases r1 with
      | lst h r => exact ⟨_, _, rfl, .inl ⟨SqL.of (ok1.sub _ _ h), fun p np => w1 _ _ (ok1.new np) _ (.lst upd_same (r.reverse.mono (ok1.new np).ext))⟩⟩
    · cases r1 with
      | bor h r => exact ⟨_, _, rfl, .inl ⟨SqL.of (ok1.bsub _ _ h), fun p np => w1 _ _ (ok1.new np) _ (.lst upd_same (r.reverse.mono (ok1.new np).ext))⟩⟩
    · cases r1 with
      | tup h r =>
        rw [hk] at h
        exact ⟨_, _, rfl, .inr ⟨sqt_mono ok1.sub h, fun p np => w1 _ _ (ok1.new np) _ (.tup (SqT.of upd_same) (r.reverse.mono (ok1.new np).ext))⟩⟩
    · exact w1.elim
/-! ### enumerate of a list, a tuple -/
theorem it_enumT {K : PySem.W.Frag} {F : Hp} {a : Addr} {vs : List V} {xs : List D} (h : SqT K F a vs) (r : Reps k F vs xs) : ItOk k (IteT K a) F (enumD xs) where
  go := fun i F1 H1 s1 s2 sb hi => by
    have hi' : i < xs.length := by simpa [enumD] using hi
    have h1 : i < vs.length := by rw [r.length]; exact hi'
    exact ⟨vs, vs[i], sqt_mono (s1.trans s2) h, List.getElem?_eq_getElem h1⟩
  stop := fun i F1 H1 s1 s2 sb hi => ⟨vs, sqt_mono (s1.trans s2) h, by rw [r.length]; simpa [enumD] using hi⟩
  yld := fun i x F1 H1 H2 σ Γ st s1 ok hi y => by
    obtain ⟨T, u, e1, nT, e2, f1⟩ := y
    subst e1 e2
    have hi' : i < xs.length := by simpa [enumD] using hi
    obtain ⟨d1, g1, q1⟩ := r.get (f1 vs (sqt_mono (s1.trans ok.sub) h))
    obtain ⟨F2, s2, q⟩ := new_pair ok nT (.int (i : Nat)) (q1.mono s1)
    have g2 : xs[i] = d1 := by rw [List.getElem?_eq_getElem hi'] at g1; exact Option.some.inj g1
    exact ⟨_, F2, by simp [enumD, List.getElem?_zipWith, g1, hi', List.getElem?_range, g2], s2, q⟩
def gEnumA : List D → M (List D) := fun ds st => match ds with
  | [.tup xs] => .ok (enumD xs) st
  | [d] => (match asL d with | some xs => .ok (enumD xs) st | none => .stuck)
  | _ => .stuck
theorem i_enumA {elts : List Expr} {kk : Nat} {tpos : Pos} (hg : Gl X "enumerate") (hm : X.mg "enumerate" = none) (ha : PA X [e] (tA k E mr)) (hk : k.K = X.K := by rfl) (hs : starEach [e] X.env = [(false, eval e X.env)] := by rfl) :
    PI X (.Tuple elts kk tpos) (.Call (.Name "enumerate" p) [e] [] pos) (tI k E (mSrc gEnumA mr)) :=
  PI.weak (pi_enumT hg hm ha hs) fun σ H R ⟨F, Γ, st, ok, w⟩ => tA.then_ ok w fun vs ds F1 H1 st1 s ok1 r w1 => by
    unfold gEnumA at w1
    split at w1
    · match vs, r with
      | [_], .cons (.tup h r1) .nil =>
        rw [hk] at h
        exact ⟨_, _, rfl, .inr ⟨sqt_mono ok1.sub h, w1 F1 H1 ok1.refl _ (it_enumT h r1)⟩⟩
    · split at w1
      · rename_i xs e1
        match vs, r with
        | [_], .cons q1 .nil =>
          obtain ⟨a, vs1, rfl, r1, h1⟩ := asL_use q1 e1
          exact ⟨_, _, rfl, .inl ⟨SqL.of (h1.now ok1), w1 F1 H1 ok1.refl _ (it_enum h1 r1)⟩⟩
      · exact w1.elim
    · exact w1.elim
end
end FL

/-! FL16: sorted(set(..)) of ints, [..] * n as one's own, the law's own def -/
namespace FL
open PySem PySem.Spec PyProof.Rows L2 RZ
def insI (x : Int) : List Int → List Int
  | [] => [x]
  | y :: r => if x < y then x :: y :: r else if x = y then y :: r else y :: insI x r
def sdI (ns : List Int) : List Int := ns.foldr insI []
theorem insI_mem {x : Int} : ∀ {l : List Int} {z : Int}, z ∈ insI x l ↔ z = x ∨ z ∈ l
  | [], z => by simp [insI]
  | y :: r, z => by
    unfold insI
    split
    · simp
    · split
      · rename_i _ e
        subst e
        simp
      · rw [List.mem_cons, insI_mem, List.mem_cons]
        constructor
        · rintro (h | h | h)
          · exact .inr (.inl h)
          · exact .inl h
          · exact .inr (.inr h)
        · rintro (h | h | h)
          · exact .inr (.inl h)
          · exact .inl h
          · exact .inr (.inr h)
theorem insI_up {x : Int} : ∀ {l : List Int}, l.Pairwise (· < ·) → (insI x l).Pairwise (· < ·)
  | [], _ => by simp [insI]
  | y :: r, h => by
    obtain ⟨h1, h2⟩ := List.pairwise_cons.mp h
    unfold insI
    split
    · rename_i hxy
      refine List.pairwise_cons.mpr ⟨fun z hz => ?_, h⟩
      rcases List.mem_cons.mp hz with e | hz
      · rw [e]; exact hxy
      · exact Int.lt_trans hxy (h1 z hz)
    · split
      · exact h
      · rename_i n1 n2
        refine List.pairwise_cons.mpr ⟨fun z hz => ?_, insI_up h2⟩
        rcases insI_mem.mp hz with e | hz
        · rw [e]; omega
        · exact h1 z hz
theorem sdI_mem : ∀ {ns : List Int} {z : Int}, z ∈ sdI ns ↔ z ∈ ns
  | [], z => by simp [sdI]
  | n :: ns, z => by
    show z ∈ insI n (sdI ns) ↔ _
    rw [insI_mem, sdI_mem, List.mem_cons]
theorem sdI_up : ∀ ns : List Int, (sdI ns).Pairwise (· < ·)
  | [] => List.Pairwise.nil
  | n :: ns => insI_up (sdI_up ns)
theorem up_uniq : ∀ {l m : List Int}, l.Pairwise (· < ·) → m.Pairwise (· < ·) → (∀ z, z ∈ l ↔ z ∈ m) → l = m
  | [], [], _, _, _ => rfl
  | [], y :: m, _, _, h => absurd ((h y).mpr List.mem_cons_self) (by simp)
  | x :: l, [], _, _, h => absurd ((h x).mp List.mem_cons_self) (by simp)
  | x :: l, y :: m, h1, h2, h => by
    obtain ⟨a1, a2⟩ := List.pairwise_cons.mp h1
    obtain ⟨b1, b2⟩ := List.pairwise_cons.mp h2
    have e : x = y := by
      rcases List.mem_cons.mp ((h x).mp List.mem_cons_self) with e | hx
      · exact e
      · rcases List.mem_cons.mp ((h y).mpr List.mem_cons_self) with e | hy
        · exact e.symm
        · have q1 := b1 x hx
          have q2 := a1 y hy
          omega
    subst e
    rw [up_uniq a2 b2 fun z => ⟨fun hz => ?_, fun hz => ?_⟩]
    · rcases List.mem_cons.mp ((h z).mp (List.mem_cons_of_mem _ hz)) with e | q
      · have := a1 z hz; omega
      · exact q
    · rcases List.mem_cons.mp ((h z).mpr (List.mem_cons_of_mem _ hz)) with e | q
      · have := b1 z hz; omega
      · exact q
section
variable {X : Cx}
theorem cr_setTI (hc : X.calm = true) : CallR X (.type "set") (fun vs H Q => ∃ (l : Addr) (ns : List Int), vs = [.ref l] ∧ SqT X.K H l (ns.map V.int) ∧ ns.length < 64 ∧ ∀ p c, H p = none → c < 64 → Q (.ref p) (L2.upd H p (SetO X.w p (fun j => decide (j ∈ ns)) c))) := by
  intro pins s σ H vs us Q I r ⟨l, ns, e, hs, h64, q⟩
  subst e
  obtain ⟨its, rv, tup, _⟩ := I.tuple hs
  rw [vals_ref1 r]
  refine call_set_tupI ns (I.ok.hd hc) tup (rv.ints) (by unfold scanBound; omega) fun h' tk c R cn kp => ?_
  exact ⟨.ref _, _, I.laid (t' := tk) kp (Nat.le_refl _) (setO_new R), rfl, q _ c (I.hok.fresh (Nat.le_refl _)) (by omega)⟩
variable {k : Kx} {E : XE} {e : Expr} {me : EM} {mr : Ev → M (List D)} {pos p p2 q : Pos}
def gSset : List D → M (List D) := fun ds st => match ds with
  | [.tup xs] => (match intsD xs with
    | some ns => if decide (ns.length < 64) then .ok ((sdI ns).map D.int) st else .stuck
    | none => .stuck)
  | _ => .stuck
theorem Reps.ofInts {F : Hp} : ∀ ns : List Int, Reps k F (ns.map V.int) (ns.map D.int)
  | [] => .nil
  | n :: ns => .cons (.int n) (Reps.ofInts ns)
theorem bset : bootBuiltins "set" = some (.type "set") := by decide +kernel
theorem bsorted : bootBuiltins "sorted" = some (.builtin "sorted") := by decide +kernel
/-- sorted(set(t)), t a tuple of ints -/
theorem o_sset (hc : X.calm = true) (hg : Gl X "sorted") (hm : X.mg "sorted" = none) (hg2 : Gl X "set") (hm2 : X.mg "set" = none) (ha : PA X [e] (tA k E mr)) (hk : k.K = X.K := by rfl)
    (he : starEach [e] X.env = (false, eval e X.env) :: starEach [] X.env := by rfl) (hpl : (backTo q (starEach [] X.env)).any (·.1) = false := by rfl)
    (he2 : starEach [.Call (.Name "set" p2) [e] [] q] X.env = (false, eval (.Call (.Name "set" p2) [e] [] q) X.env) :: starEach [] X.env := by rfl) (hpl2 : (backTo pos (starEach [] X.env)).any (·.1) = false := by rfl) :
    PE X (.Call (.Name "sorted" p) [.Call (.Name "set" p2) [e] [] q] [] pos) (tO k E (mCallO gSset mr)) :=
  PE.weak (pe_callB (cr_sortedSet hc) hg hm bsorted (pa_cons (pe_callTy (cr_setTI hc) hg2 hm2 bset ha (by decide) (by decide) he hpl) pa_nil he2) (by decide) (by decide) he2 hpl2) fun σ H Q ⟨F, Γ, st, ok, w⟩ => by
    refine tA.then_ ok w fun vs ds F1 H1 st1 s1 ok1 r1 w1 => ?_
    unfold gSset at w1
    split at w1
    · split at w1
      · rename_i xs ns en
        split at w1
        · rename_i h64
          match vs, r1 with
          | [_], .cons (.tup ht rr) .nil =>
            rw [hk] at ht
            have ev := rr.ints en
            subst ev
            refine ⟨_, ns, rfl, sqt_mono ok1.sub ht, of_decide_eq_true h64, fun p c np hc64 => ?_⟩
            have sA := ok1.new' (ob := SetO X.w p (fun j => decide (j ∈ ns)) c) np
            have okA := ok1.step sA
            refine ⟨p, _, c, rfl, upd_same, hc64, fun out p' up mem _ np' => ?_⟩
            have eo : out = sdI ns := up_uniq up (sdI_up ns) fun z => by rw [mem z, decide_eq_true_eq, sdI_mem]
            subst eo
            exact w1 _ _ (ok1.trans sA (okA.new' np')) p' _ upd_same (okA.fnone np') (s1.back (sA.back np')) (Reps.ofInts _)
        · exact w1.elim
      · exact w1.elim
    · exact w1.elim
/-- a * n, a new list -/
def gRepO : D → D → M (List D) := fun d e st => match d, e with
  | .lst xs, .int n => if decide (-(2 ^ 63) ≤ n ∧ n < 2 ^ 63 ∧ xs.length * n.toNat ≤ sizeLine) then .ok (List.replicate n.toNat xs).flatten st else .stuck
  | _, _ => .stuck
def mRepO (ma mb : EM) : Ev → M (List D) := fun Γ => do
  let d ← ma Γ
  let e ← mb Γ
  gRepO d e
theorem o_rep {a b : Expr} {ma mb : EM} (ha : PE X a (tM k E ma)) (hb : PE X b (tM k E mb)) : PE X (.BinOp a .Mult b pos) (tO k E (mRepO ma mb)) :=
  PE.weak (pe_op op_rep ha hb) fun σ H Q ⟨F, Γ, st, ok, w⟩ => tM.then_ ok w fun v d F1 H1 st1 s1 ok1 r1 w1 => tM.then_ ok1 w1 fun u e F2 H2 st2 s2 ok2 r2 w2 => by
    unfold gRepO at w2
    split at w2
    · split at w2
      · rename_i xs n hc
        obtain ⟨h1, h2, h3⟩ := of_decide_eq_true hc
        cases r2
        cases r1.mono s2.ext with
        | lst hx rx =>
          rw [← rx.length] at h3
          refine ⟨_, _, _, rfl, rfl, ok2.sub _ _ hx, h1, h2, h3, fun p np => ?_⟩
          exact w2 _ _ (ok2.new' np) p _ upd_same (ok2.fnone np) (s1.back (s2.back np)) (rx.rep _)
      · exact w2.elim
    · exact w2.elim
end
end FL

/-! FL17: the deal's own def, the law's own def -/
namespace FL
open PySem PySem.Spec PyProof.Rows L2
open Classical in
noncomputable def scrF (H : Hp) (ad : Addr) : Hp := fun b => if b = ad ∧ ∀ ps, H ad ≠ some (.tbl ps) then H ad else none
section
variable {P : Program} {w : World} {K : PySem.W.Frag} {T : List (Addr × Str)} {mg : Str → Option Value} {base : Heap} {x qual : Str} {st : Stmt} {f : Addr} {fd : FuncData} {j : Nat}
/-- the def that draws a number -/
theorem any_fn (c : Int) {a b r : Str} (Fn : Fun K x qual st f fd) (S : FnScope [a, b, r] [a, b] (defScope st))
    (hb : ∀ (cdv : Value) (A : Around) (outs : List Env) (s : Shared) (H : Hp) (E : XK), Room j (A.deeper (envOfC qual (defScope st) s.heap.objs.size f cdv)) →
      PSs (cxOf (L2.CX P w) P w K mg base [a, b, r] qual (defScope st) f cdv A outs s H E).nox (defBody st) (tAnyB K c)) : FnG P w K T mg base (j + 1) f fd [a, b] (gAnyD c) := by
  refine fng_of Fn S (fun ds st e => ?_) fun cdv A outs s H vs Q E room gd ⟨on, dl, cl, B, F, ds, st0, ok, rr, h⟩ => ⟨_, (hb cdv A outs s H E room).nox, ?_⟩
  · unfold gAnyD
    split
    · simp at e
    · rfl
  · unfold gAnyD at h
    split at h
    · split at h
      · rename_i m hm
        match vs, rr with
        | [_, _], .cons (.deal hon) (.cons (.int _) .nil) =>
          exact any_run (k := ⟨K, on, dl, cl, B, T⟩) ok hon (of_decide_eq_true hm) fun H' s' => h F H' s' _ (.int _)
      · exact h.elim
    · exact h.elim
/-- the law's own def: its first statement makes the deal at slot i, by a def that keeps gd, from the script and constants -/
theorem law_go {N : List Str} {a : Str} {n i : Nat} {gd : List D → M D} {first : Stmt} {rest : List Stmt} {targs : TA} {mr : SM} (cv : List V) (cd : List D) (Fn : Fun K x qual st f fd) (S : FnScope N [a] (defScope st)) (hbody : defBody st = first :: rest) (hn : 0 < N.length)
    (hfirst : ∀ (cdv : Value) (A : Around) (outs : List Env) (s : Shared) (H : Hp) (E : XK), Room j (A.deeper (envOfC qual (defScope st) s.heap.objs.size f cdv)) → (A.deeper (envOfC qual (defScope st) s.heap.objs.size f cdv)).guards = some [] →
      PS (cxOf (L2.CX P w) P w K mg base N qual (defScope st) f cdv A outs s H E).nox first (tAsg (fun σ H Q => targs σ H fun vs H1 => spM K T gd vs H1 Q E0) (gName i)))
    (hrest : ∀ (cdv : Value) (A : Around) (outs : List Env) (s : Shared) (H : Hp) (E : XK) (on : Bool) (dl cl : Addr) (B : Hp), Room j (A.deeper (envOfC qual (defScope st) s.heap.objs.size f cdv)) → (A.deeper (envOfC qual (defScope st) s.heap.objs.size f cdv)).guards = some [] →
      PSs (cxOf (L2.CX P w) P w K mg base N qual (defScope st) f cdv A outs s H E).nox rest (tS ⟨K, on, dl, cl, B, T⟩ EF mr))
    (hargs : ∀ (σ : L2.St) (H : Hp) (Q : List V → Hp → Prop) (v : V), σ[0]? = some (some v) → Q (v :: cv) H → targs σ H Q) (hcon : ∀ k F, Reps k F cv cd)
    (plain : ∀ ns : List Int, ns.length ≤ n → ∃ cs b st0 st1, cs.length ≤ 63 ∧ gd (.kl (ns.map D.int) :: cd) ([], 0) = .ok (.lst [.lst (cs.map D.int), .int b]) st0 ∧ mr ((List.replicate N.length none).set i (some (.dat .deal))) (cs, b) = .ok (.rt (.bl true)) st1) :
    LawG P w K T mg base (j + 1) f fd a n := by
  refine go_def (sp := LawSp K T n) Fn S (fun vs H Q E ⟨a, ns, e, _⟩ => by rw [e]; rfl) fun cdv A outs s H vs Q E _ room gg ⟨ad, ns, e, seq, len, tabs, q⟩ => ⟨tSeq (tAsg (fun σ H Q => targs σ H fun vs H1 => spM K T gd vs H1 Q E0) (gName i)) (fun D σ H => ∃ on dl cl B, tS ⟨K, on, dl, cl, B, T⟩ EF mr D σ H), ?_, ?_⟩
  case refine_1 =>
    rw [hbody]
    have tail : PSs (cxOf (L2.CX P w) P w K mg base N qual (defScope st) f cdv A outs s H E).nox rest (fun D σ H => ∃ on dl cl B, tS ⟨K, on, dl, cl, B, T⟩ EF mr D σ H) :=
      ⟨fun pins s' σ H' D I ⟨on, dl, cl, B, h⟩ => (hrest cdv A outs s H E on dl cl B room gg).run pins s' σ H' D I h⟩
    exact (pss_cons (hfirst cdv A outs s H E room gg) tail).nox
  case refine_2 =>
    subst e
    obtain ⟨cs, b, st0, st1, few, e1, e2⟩ := plain ns len
    have s0 : (L2.start N [V.ref ad])[0]? = some (some (.ref ad)) := rfl
    refine hargs _ _ _ _ s0 ?_
    obtain ⟨F0, eF⟩ : ∃ F0 : Hp, F0 = scrF H ad := ⟨_, rfl⟩
    have sub0 : Same F0 H := fun b o h => by
      rw [eF] at h
      unfold scrF at h
      split at h
      · rename_i z
        rw [z.1]
        exact h
      · cases h
    have ok0 : Ok ⟨K, false, 0, 0, fun _ => none, T⟩ F0 H [] [] ([], 0) := {
      sub := sub0
      at_ := fun h => absurd h (by simp)
      hid := fun h => absurd h (by simp)
      bsub := fun b o h => by cases h
      blst := fun b o h => by cases h
      tabs := tabs
      ftbl := fun b o h ps z => by
        rw [eF] at h
        unfold scrF at h
        split at h
        · rename_i y
          rw [z] at h
          exact y.2 ps h
        · cases h
      len := rfl
      slot := fun i x h => by simp at h
      apart := fun i j xs ys a h => by simp at h }
    have seq0 : SqL K F0 ad (ns.map V.int) := by
      have at_ : ∀ u, H ad = some u → (∀ ps, u ≠ .tbl ps) → F0 ad = some u := fun u h n => by
        rw [eF]
        unfold scrF
        rw [if_pos ⟨rfl, fun ps z => n ps (Option.some.inj (h.symm.trans z))⟩]
        exact h
      rcases seq with (h | ⟨o, h⟩) | h
      · exact .inl (.inl (at_ _ h fun ps z => by cases z))
      · exact .inl (.inr ⟨o, at_ _ h fun ps z => by cases z⟩)
      · exact .inr h
    have ofI : ∀ ns : List Int, Reps ⟨K, false, 0, 0, fun _ => none, T⟩ F0 (ns.map V.int) (ns.map D.int) := fun ns => Reps.ofInts ns
    refine ⟨false, 0, 0, fun _ => none, F0, _, ([], 0), ok0, .cons (.kl seq0 (ofI ns)) (hcon _ _), ?_⟩
    rw [e1]
    intro F1 H1 s1 v rv
    cases rv with
    | lst hd rr =>
      rename_i dl vs
      match vs, rr with
      | [_, _], .cons (.lst hc rc) (.cons (.int _) .nil) =>
        rename_i cl us
        have eu : us = cs.map V.int := rc.ints (intsD_map cs)
        subst eu
        have ne : dl ≠ cl := fun z => by
          rw [z, hc] at hd
          have q := HO.lst.inj (Option.some.inj hd)
          cases cs with
          | nil => cases q
          | cons c r => cases (List.cons.inj q).1
        have hd1 := s1.sub _ _ hd
        have hc1 := s1.sub _ _ hc
        refine ⟨true, dl, cl, fun _ => none, fun _ => none, H1, fun _ => none, fun _ => none, (List.replicate N.length none).set i (some (.dat .deal)), (cs, b), ⟨?_, fun _ _ h => h, fun _ _ h => h, fun _ _ h _ _ => h, fun _ o h => ⟨o, h⟩, fun _ _ _ _ => rfl, ?_, ?_⟩, ?_⟩
        · exact {
            sub := fun _ _ h => by cases h
            at_ := fun _ => ⟨few, hd1, hc1⟩
            hid := fun _ => ⟨rfl, rfl, ne, rfl, rfl⟩
            bsub := fun _ _ h => by cases h
            blst := fun _ _ h => by cases h
            tabs := s1.tabs
            ftbl := fun _ _ h => by cases h
            len := by simp [L2.start]; omega
            slot := fun l y h => by
              by_cases hl : i = l
              · subst hl
                have hi : i < N.length := by
                  by_cases hi : i < N.length
                  · exact hi
                  · rw [List.getElem?_eq_none (by simp; omega)] at h; cases h
                rw [List.getElem?_set_self (by simpa using hi)] at h
                cases h
                exact ⟨_, List.getElem?_set_self (by simp [L2.start]; omega), .deal rfl⟩
              · rw [List.getElem?_set_ne hl, List.getElem?_replicate] at h
                split at h <;> cases h
            apart := fun l m us zs a h => by
              by_cases hl : i = l
              · subst hl
                by_cases hi : i < N.length
                · rw [List.getElem?_set_self (by simpa using hi)] at h; cases h
                · rw [List.getElem?_eq_none (by simp; omega)] at h; cases h
              · rw [List.getElem?_set_ne hl, List.getElem?_replicate] at h
                split at h <;> cases h }
        · intro l us a h
          by_cases hl : i = l
          · subst hl
            by_cases hi : i < N.length
            · rw [List.getElem?_set_self (by simpa using hi)] at h; cases h
            · rw [List.getElem?_eq_none (by simp; omega)] at h; cases h
          · rw [List.getElem?_set_ne hl, List.getElem?_replicate] at h
            split at h <;> cases h
        · exact ⟨(cs, b), {
            sub := fun _ _ h => by cases h
            at_ := fun _ => ⟨few, hd1, hc1⟩
            hid := fun _ => ⟨rfl, rfl, ne, rfl, rfl⟩
            bsub := fun _ _ h => by cases h
            blst := fun _ _ h => by cases h
            tabs := s1.tabs
            ftbl := fun _ _ h => by cases h
            len := rfl
            slot := fun i x h => by simp at h
            apart := fun i j xs ys a h => by simp at h }⟩
        · rw [e2]
          intro v F' H' s' rv
          cases rv
          exact q _ _ rfl
end
end FL

/-! FL18: small things that a printed walk names -/
namespace FL
open PySem PySem.Spec PyProof.Rows L2
theorem u64 {j : Nat} {A : Around} (r : Room j A) : A.units + 64 < cLine := by have := r.un; omega
theorem u80 {j : Nat} {A : Around} (r : Room j A) : A.units + 80 < cLine := by have := r.un; omega
theorem bt_len : bootBuiltins "len" = some (.builtin "len") := by decide +kernel
theorem bt_abs : bootBuiltins "abs" = some (.builtin "abs") := by decide +kernel
theorem bt_min : bootBuiltins "min" = some (.builtin "min") := by decide +kernel
theorem bt_max : bootBuiltins "max" = some (.builtin "max") := by decide +kernel
theorem bt_sum : bootBuiltins "sum" = some (.builtin "sum") := by decide +kernel
theorem bt_all : bootBuiltins "all" = some (.builtin "all") := by decide +kernel
theorem bt_any : bootBuiltins "any" = some (.builtin "any") := by decide +kernel
theorem bt_repr : bootBuiltins "repr" = some (.builtin "repr") := by decide +kernel
theorem bt_sorted : bootBuiltins "sorted" = some (.builtin "sorted") := by decide +kernel
theorem bt_isinstance : bootBuiltins "isinstance" = some (.builtin "isinstance") := by decide +kernel
theorem bt_int : bootBuiltins "int" = some (.type "int") := by decide +kernel
theorem bt_bool : bootBuiltins "bool" = some (.type "bool") := by decide +kernel
theorem bt_str : bootBuiltins "str" = some (.type "str") := by decide +kernel
theorem bt_tuple : bootBuiltins "tuple" = some (.type "tuple") := by decide +kernel
theorem bt_list : bootBuiltins "list" = some (.type "list") := by decide +kernel
theorem bt_set : bootBuiltins "set" = some (.type "set") := by decide +kernel
theorem bt_dict : bootBuiltins "dict" = some (.type "dict") := by decide +kernel
/-- a block's names -/
def blkB (N : List Str) (sc scope : Scope) (own : List (Str × Nat)) : Bool :=
  decide (scope.kind = .function) && ((scope.names.all fun y => decide (scope.names.lookup y.1 = some y.2)) && ((own.all fun p => decide (N[p.2]? = some p.1)) &&
    ((scope.names.all fun y => !decide (y.2 = .free) || (decide (sc.names.lookup y.1 = some .cell) || decide (sc.names.lookup y.1 = some .free))) && scope.names.all fun y => !(decide (y.2 = .local) || decide (y.2 = .cell)) || (decide (y.1 ∈ own.map (·.1)) || decide (y.1 ∉ N)))))
theorem blk_by {N : List Str} {sc scope : Scope} {own : List (Str × Nat)} (h : blkB N sc scope own = true) : BlkOk N sc scope own := by
  unfold blkB at h
  simp only [Bool.and_eq_true, Bool.or_eq_true, Bool.not_eq_true', Bool.or_eq_false_iff, decide_eq_true_eq, decide_eq_false_iff_not, List.all_eq_true] at h
  obtain ⟨h1, h2, h3, h4, h5⟩ := h
  refine ⟨h1, h2, h3, fun y hy e => ?_, fun y hy e => ?_⟩
  · rcases h4 y hy with z | z
    · exact absurd e z
    · exact z
  · rcases h5 y hy with z | z
    · rcases e with e | e
      · exact absurd e z.1
      · exact absurd e z.2
    · exact z
/-- a def's code object, and the table that is its lambda's -/
structure LamT (T : List (Addr × Str)) (mg : Str → Option Value) (base : Heap) (code : Value) (q : Str) (c P : Addr) : Prop where
  cd : code = .ref c
  tb : LamX.TabB base mg c P
  inT : (P, q) ∈ T
  one : ∀ z ∈ T, z.1 = P → z.2 = q
end FL

/-! FL19: mirrors evaluated -/
namespace FL
open PySem
theorem M.bind_at {α β : Type} (m : M α) (f : α → M β) (st : DS) : (m >>= f) st = (m st).bind f := rfl
theorem M.pure_at {α : Type} (a : α) (st : DS) : (pure a : M α) st = .ok a st := rfl
theorem Out.ok_bind {α β : Type} (a : α) (st : DS) (f : α → DS → Out β) : (Out.ok a st).bind f = f a st := rfl
theorem halt_at {α : Type} (st : DS) : (halt : M α) st = .stuck := rfl
theorem small_le {n : Nat} (h : n ≤ 1000000) : n ≤ sizeLine := by unfold sizeLine; omega
theorem dec_le {n : Nat} (h : n ≤ 1000000) : decide (n ≤ sizeLine) = true := decide_eq_true (small_le h)
/-- a run of an expression, of a statement, told by its answer -/
theorem nxM_ok {α : Type} {m : M α} {st st' : DS} {a : α} (h : m st = .ok a st') : nxM m st = .ok a st' := by unfold nxM; rw [h]
theorem sE_ok {α : Type} {m : M α} {Γ : Ev} {f : α → M Fl} {st st' : DS} {a : α} (h : m st = .ok a st') : sE m Γ f st = f a st' := by unfold sE; rw [h]
theorem mVar_at {i : Nat} {Γ : Ev} {st : DS} {d : D} (h : Γ[i]? = some (some (.dat d))) : mVar i Γ st = .ok d st := by unfold mVar; rw [h]
theorem fnM_ret {np n : Nat} {mb : SM} {ds : List D} {st st' : DS} {d : D} (hl : ds.length = np) (h : mb (startE n ds) st = .ok (.rt d) st') : fnM np n mb ds st = .ok d st' := by
  unfold fnM
  rw [if_pos hl]
  show (nxM (mb (startE n ds)) st).bind kRet = _
  rw [nxM_ok h]
  rfl
theorem fnM_nx {np n : Nat} {mb : SM} {ds : List D} {st st' : DS} {Γ : Ev} (hl : ds.length = np) (h : mb (startE n ds) st = .ok (.nx Γ) st') : fnM np n mb ds st = .ok .non st' := by
  unfold fnM
  rw [if_pos hl]
  show (nxM (mb (startE n ds)) st).bind kRet = _
  rw [nxM_ok h]
  rfl
theorem mSeq_nx {m m2 : SM} {Γ Γ' : Ev} {st st' : DS} (h : m Γ st = .ok (.nx Γ') st') : mSeq m m2 Γ st = m2 Γ' st' := by
  show (m Γ st).bind (kSeq m2) = _
  rw [h]
  rfl
theorem mSeq_rt {m m2 : SM} {Γ : Ev} {st st' : DS} {d : D} (h : m Γ st = .ok (.rt d) st') : mSeq m m2 Γ st = .ok (.rt d) st' := by
  show (m Γ st).bind (kSeq m2) = _
  rw [h]
  rfl
/-! ### comprehensions -/
/-- each item answered at once, the deal untouched -/
theorem compL_pure {g : GM} {t : Ev → M Bool} {e : EM} {Γ : Ev} {st : DS} (p : D → Bool) (f : D → D) : ∀ {xs : List D}, (∀ d ∈ xs, ∃ Γ1, g d Γ = some Γ1 ∧ t Γ1 st = .ok (p d) st ∧ (p d = true → e Γ1 st = .ok (f d) st)) → compL g t e Γ xs st = .ok ((xs.filter p).map f) st
  | [], _ => rfl
  | d :: xs, h => by
    obtain ⟨Γ1, h1, h2, h3⟩ := h d List.mem_cons_self
    have ih := compL_pure p f fun x hx => h x (List.mem_cons_of_mem _ hx)
    unfold compL
    rw [h1]
    show (nxM (t Γ1) st).bind (fun c => if c = true then _ else _) = _
    rw [nxM_ok h2]
    show (if p d = true then _ else _ : M (List D)) st = _
    by_cases hp : p d = true
    · rw [if_pos hp]
      show (nxM (e Γ1) st).bind _ = _
      rw [nxM_ok (h3 hp)]
      show (compL g t e Γ xs st).bind _ = _
      rw [ih, List.filter_cons_of_pos hp]
      rfl
    · rw [if_neg hp, ih, List.filter_cons_of_neg hp]
theorem comp_pure {mi : Ev → M (List D)} {g : GM} {t : Ev → M Bool} {e : EM} {vs : List Nat} {Γ : Ev} {st st' : DS} {xs : List D} (p : D → Bool) (f : D → D) (hi : mi Γ st = .ok xs st') (hl : xs.length ≤ 1000000)
    (h : ∀ d ∈ xs, ∃ Γ1, g d (wipeE Γ vs) = some Γ1 ∧ t Γ1 st' = .ok (p d) st' ∧ (p d = true → e Γ1 st' = .ok (f d) st')) : mComp mi g t e vs Γ st = .ok ((xs.filter p).map f) st' := by
  show (mi Γ st).bind _ = _
  rw [hi]
  show (if decide (xs.length ≤ sizeLine) = true then _ else _ : M (List D)) st' = _
  rw [if_pos (dec_le hl)]
  exact compL_pure p f h
/-- all taken, no test -/
theorem comp_map {mi : Ev → M (List D)} {g : GM} {e : EM} {vs : List Nat} {Γ : Ev} {st st' : DS} {xs : List D} (f : D → D) (hi : mi Γ st = .ok xs st') (hl : xs.length ≤ 1000000)
    (h : ∀ d ∈ xs, ∃ Γ1, g d (wipeE Γ vs) = some Γ1 ∧ e Γ1 st' = .ok (f d) st') : mComp mi g mYes e vs Γ st = .ok (xs.map f) st' := by
  have q := comp_pure (t := mYes) (e := e) (g := g) (vs := vs) (fun _ => true) f hi hl fun d hd => let ⟨Γ1, a, b⟩ := h d hd; ⟨Γ1, a, rfl, fun _ => b⟩
  rw [q, List.filter_eq_self.mpr fun _ _ => rfl]
/-- the same, the items told by their meanings -/
theorem compL_enc {α : Type} {g : GM} {t : Ev → M Bool} {e : EM} {Γ : Ev} {st : DS} (enc : α → D) (p : α → Bool) (f : α → D) : ∀ {us : List α}, (∀ u ∈ us, ∃ Γ1, g (enc u) Γ = some Γ1 ∧ t Γ1 st = .ok (p u) st ∧ (p u = true → e Γ1 st = .ok (f u) st)) → compL g t e Γ (us.map enc) st = .ok ((us.filter p).map f) st
  | [], _ => rfl
  | u :: us, h => by
    obtain ⟨Γ1, h1, h2, h3⟩ := h u List.mem_cons_self
    have ih := compL_enc enc p f fun x hx => h x (List.mem_cons_of_mem _ hx)
    rw [List.map_cons]
    unfold compL
    rw [h1]
    show (nxM (t Γ1) st).bind (fun c => if c = true then _ else _) = _
    rw [nxM_ok h2]
    show (if p u = true then _ else _ : M (List D)) st = _
    by_cases hp : p u = true
    · rw [if_pos hp]
      show (nxM (e Γ1) st).bind _ = _
      rw [nxM_ok (h3 hp)]
      show (compL g t e Γ (us.map enc) st).bind _ = _
      rw [ih, List.filter_cons_of_pos hp]
      rfl
    · rw [if_neg hp, ih, List.filter_cons_of_neg hp]
theorem comp_encF {α : Type} {mi : Ev → M (List D)} {g : GM} {t : Ev → M Bool} {e : EM} {vs : List Nat} {Γ : Ev} {st st' : DS} (us : List α) (enc : α → D) (p : α → Bool) (f : α → D) (hi : mi Γ st = .ok (us.map enc) st') (hl : us.length ≤ 1000000)
    (h : ∀ u ∈ us, ∃ Γ1, g (enc u) (wipeE Γ vs) = some Γ1 ∧ t Γ1 st' = .ok (p u) st' ∧ (p u = true → e Γ1 st' = .ok (f u) st')) : mComp mi g t e vs Γ st = .ok ((us.filter p).map f) st' := by
  show (mi Γ st).bind _ = _
  rw [hi]
  show (if decide ((us.map enc).length ≤ sizeLine) = true then _ else _ : M (List D)) st' = _
  rw [if_pos (dec_le (by rw [List.length_map]; exact hl))]
  exact compL_enc enc p f h
theorem comp_enc {α : Type} {mi : Ev → M (List D)} {g : GM} {e : EM} {vs : List Nat} {Γ : Ev} {st st' : DS} (us : List α) (enc : α → D) (f : α → D) (hi : mi Γ st = .ok (us.map enc) st') (hl : us.length ≤ 1000000)
    (h : ∀ u ∈ us, ∃ Γ1, g (enc u) (wipeE Γ vs) = some Γ1 ∧ e Γ1 st' = .ok (f u) st') : mComp mi g mYes e vs Γ st = .ok (us.map f) st' := by
  have q := comp_encF (t := mYes) (e := e) (g := g) (vs := vs) us enc (fun _ => true) f hi hl fun d hd => let ⟨Γ1, a, b⟩ := h d hd; ⟨Γ1, a, rfl, fun _ => b⟩
  rw [q, List.filter_eq_self.mpr fun _ _ => rfl]
theorem zipD_map {α β : Type} (f : α → D) (g : β → D) : ∀ (xs : List α) (ys : List β), zipD (xs.map f) (ys.map g) = (xs.zip ys).map fun p => .tup [f p.1, g p.2]
  | [], _ => by simp [zipD]
  | _ :: _, [] => by simp [zipD]
  | x :: xs, y :: ys => by
    have ih := zipD_map f g xs ys
    unfold zipD at ih ⊢
    simp only [List.map_cons, List.zipWith_cons_cons, List.zip_cons_cons]
    rw [ih]
theorem enumD_map {α : Type} (f : α → D) (xs : List α) : enumD (xs.map f) = (xs.zipIdx).map fun p => .tup [.int (p.2 : Nat), f p.1] := by
  unfold enumD
  apply List.ext_getElem?
  intro i
  rw [List.getElem?_zipWith, List.getElem?_map, List.getElem?_map, List.getElem?_zipIdx, List.length_map]
  by_cases hi : i < xs.length
  · rw [List.getElem?_range hi, List.getElem?_eq_getElem hi]
    simp
  · rw [List.getElem?_eq_none (by simpa using hi), List.getElem?_eq_none (by simpa using hi)]
    rfl
theorem range1_at {n : Nat} {st : DS} (h : n ≤ 1000000) : gRange1 [.int (n : Nat)] st = .ok ((List.range n).map fun i => .int ((i : Nat) : Int)) st := by
  unfold gRange1
  dsimp only
  rw [if_pos (decide_eq_true ⟨by omega, by omega⟩), Int.toNat_natCast]
  simp only [Int.zero_add]
/-- two lists, item by item -/
inductive All2 {α β : Type} (R : α → β → Prop) : List α → List β → Prop
  | nil : All2 R [] []
  | cons {a : α} {b : β} {as : List α} {bs : List β} (h : R a b) (t : All2 R as bs) : All2 R (a :: as) (b :: bs)
/-- things are drawn: each answer has the property R, whatever the deal -/
theorem compL_draw {g : GM} {e : EM} {Γ : Ev} (R : D → D → Prop) : ∀ {xs : List D} (st : DS), (∀ d ∈ xs, ∃ Γ1, g d Γ = some Γ1 ∧ ∀ st, ∃ y st', e Γ1 st = .ok y st' ∧ R d y) → ∃ ys st', compL g mYes e Γ xs st = .ok ys st' ∧ All2 R xs ys
  | [], st, _ => ⟨[], st, rfl, .nil⟩
  | d :: xs, st, h => by
    obtain ⟨Γ1, h1, h2⟩ := h d List.mem_cons_self
    obtain ⟨y, st1, e1, r1⟩ := h2 st
    obtain ⟨ys, st2, e2, r2⟩ := compL_draw R st1 fun x hx => h x (List.mem_cons_of_mem _ hx)
    refine ⟨y :: ys, st2, ?_, .cons r1 r2⟩
    unfold compL
    rw [h1]
    show (nxM (e Γ1) st).bind _ = _
    rw [nxM_ok e1]
    show (compL g mYes e Γ xs st1).bind _ = _
    rw [e2]
    rfl
theorem comp_draw {mi : Ev → M (List D)} {g : GM} {e : EM} {vs : List Nat} {Γ : Ev} {st st1 : DS} {xs : List D} (R : D → D → Prop) (hi : mi Γ st = .ok xs st1) (hl : xs.length ≤ 1000000)
    (h : ∀ d ∈ xs, ∃ Γ1, g d (wipeE Γ vs) = some Γ1 ∧ ∀ st, ∃ y st', e Γ1 st = .ok y st' ∧ R d y) : ∃ ys st', mComp mi g mYes e vs Γ st = .ok ys st' ∧ All2 R xs ys := by
  obtain ⟨ys, st', h1, h2⟩ := compL_draw R st1 h
  refine ⟨ys, st', ?_, h2⟩
  show (mi Γ st).bind _ = _
  rw [hi]
  show (if decide (xs.length ≤ sizeLine) = true then _ else _ : M (List D)) st1 = _
  rw [if_pos (dec_le hl)]
  exact h1
/-! ### loops -/
/-- a for loop whose turns go on -/
theorem loop_nx {g : GM} {mb : SM} (I : List D → Ev → DS → Prop) : ∀ {xs : List D} {Γ : Ev} {st : DS}, I xs Γ st → (∀ d r Γ st, I (d :: r) Γ st → ∃ Γ1 Γ2 st2, g d Γ = some Γ1 ∧ (mb Γ1 st = .ok (.nx Γ2) st2 ∨ mb Γ1 st = .ok (.ct Γ2) st2) ∧ I r Γ2 st2) → ∃ Γ' st', loopS g mb xs Γ st = .ok (.nx Γ') st' ∧ I [] Γ' st'
  | [], Γ, st, i, _ => ⟨Γ, st, rfl, i⟩
  | d :: r, Γ, st, i, h => by
    obtain ⟨Γ1, Γ2, st2, h1, h2, h3⟩ := h d r Γ st i
    obtain ⟨Γ', st', q1, q2⟩ := loop_nx I h3 h
    refine ⟨Γ', st', ?_, q2⟩
    unfold loopS
    rw [h1]
    show (mb Γ1 st).bind _ = _
    rcases h2 with h2 | h2
    · rw [h2]; exact q1
    · rw [h2]; exact q1
/-- a for loop over things of which the first that returns ends it -/
theorem loop_find {g : GM} {mb : SM} {Γ0 : Ev} {st : DS} (b : D → Option D) (G : D → Ev) (hg : ∀ d Γ, (∃ d', Γ = G d') ∨ Γ = Γ0 → g d Γ = some (G d)) : ∀ {xs : List D} {Γ : Ev}, ((∃ d', Γ = G d') ∨ Γ = Γ0) → (∀ d ∈ xs, mb (G d) st = .ok (match b d with | some r => .rt r | none => .nx (G d)) st) →
    (∀ r, xs.findSome? b = some r → loopS g mb xs Γ st = .ok (.rt r) st) ∧ (xs.findSome? b = none → ∃ Γ', ((∃ d', Γ' = G d') ∨ Γ' = Γ0) ∧ loopS g mb xs Γ st = .ok (.nx Γ') st)
  | [], Γ, hΓ, _ => ⟨fun r h => by simp at h, fun _ => ⟨Γ, hΓ, rfl⟩⟩
  | d :: xs, Γ, hΓ, h => by
    have h1 := hg d Γ hΓ
    have h2 := h d List.mem_cons_self
    have ih := loop_find b G hg (xs := xs) (Γ := G d) (.inl ⟨d, rfl⟩) fun x hx => h x (List.mem_cons_of_mem _ hx)
    cases eb : b d with
    | some r' =>
      rw [eb] at h2
      refine ⟨fun r hr => ?_, fun hn => ?_⟩
      · rw [List.findSome?_cons, eb] at hr
        cases hr
        unfold loopS
        rw [h1]
        show (mb (G d) st).bind _ = _
        rw [h2]
        rfl
      · rw [List.findSome?_cons, eb] at hn
        cases hn
    | none =>
      rw [eb] at h2
      have step : loopS g mb (d :: xs) Γ st = loopS g mb xs (G d) st := by
        rw [loopS, h1]
        show (mb (G d) st).bind _ = _
        rw [h2]
        rfl
      rw [step, List.findSome?_cons, eb]
      exact ih
/-! ### drawn numbers -/
theorem any_draw {c m : Int} (hm : 0 < m) (hl : m < 2 ^ 8000) (st : DS) : ∃ v st', gAnyD c [.deal, .int m] st = .ok (.int v) st' ∧ 0 ≤ v ∧ v < m := by
  have lg : m.natAbs.log2 < 9000 := by
    have h0 : m.natAbs ≠ 0 := by omega
    have h1 : m.natAbs < 2 ^ 8000 := by omega
    have h2 := (Nat.log2_lt h0).mpr h1
    omega
  refine ⟨(anyI c st m).1, (anyI c st m).2, ?_, ?_⟩
  · unfold gAnyD
    simp only
    rw [if_pos (decide_eq_true ⟨hm, lg⟩)]
  · unfold anyI
    split
    · exact ⟨Int.emod_nonneg _ (by omega), Int.emod_lt_of_pos _ hm⟩
    · exact ⟨Int.emod_nonneg _ (by omega), Int.emod_lt_of_pos _ hm⟩
end FL

/-! FL20: expressions evaluated -/
namespace FL
open PySem L2
theorem mOp_at {g : M2} {ma mb : EM} {Γ : Ev} {s0 s1 s2 s3 : DS} {a b y : D} (h1 : ma Γ s0 = .ok a s1) (h2 : mb Γ s1 = .ok b s2) (h3 : g a b s2 = .ok y s3) : mOp g ma mb Γ s0 = .ok y s3 := by
  show (ma Γ s0).bind _ = _
  rw [h1]
  show (mb Γ s1).bind _ = _
  rw [h2]
  exact h3
theorem mCons_at {m : EM} {mr : Ev → M (List D)} {Γ : Ev} {s0 s1 s2 : DS} {a : D} {r : List D} (h1 : m Γ s0 = .ok a s1) (h2 : mr Γ s1 = .ok r s2) : mCons m mr Γ s0 = .ok (a :: r) s2 := by
  show (m Γ s0).bind _ = _
  rw [h1]
  show (mr Γ s1).bind _ = _
  rw [h2]
  rfl
theorem mCall_at {g : List D → M D} {mr : Ev → M (List D)} {Γ : Ev} {s0 s1 s2 : DS} {r : List D} {y : D} (h1 : mr Γ s0 = .ok r s1) (h2 : g r s1 = .ok y s2) : mCall g mr Γ s0 = .ok y s2 := by
  show (mr Γ s0).bind _ = _
  rw [h1]
  exact h2
theorem mCall1 {g : List D → M D} {m : EM} {Γ : Ev} {s0 s1 s2 : DS} {a y : D} (h1 : m Γ s0 = .ok a s1) (h2 : g [a] s1 = .ok y s2) : mCall g (mCons m mNil) Γ s0 = .ok y s2 := mCall_at (mCons_at h1 rfl) h2
theorem mCall2 {g : List D → M D} {m m2 : EM} {Γ : Ev} {s0 s1 s2 s3 : DS} {a b y : D} (h1 : m Γ s0 = .ok a s1) (h2 : m2 Γ s1 = .ok b s2) (h3 : g [a, b] s2 = .ok y s3) : mCall g (mCons m (mCons m2 mNil)) Γ s0 = .ok y s3 := mCall_at (mCons_at h1 (mCons_at h2 rfl)) h3
theorem mCall3 {g : List D → M D} {m m2 m3 : EM} {Γ : Ev} {s0 s1 s2 s3 s4 : DS} {a b c y : D} (h1 : m Γ s0 = .ok a s1) (h2 : m2 Γ s1 = .ok b s2) (h3 : m3 Γ s2 = .ok c s3) (h4 : g [a, b, c] s3 = .ok y s4) : mCall g (mCons m (mCons m2 (mCons m3 mNil))) Γ s0 = .ok y s4 := mCall_at (mCons_at h1 (mCons_at h2 (mCons_at h3 rfl))) h4
theorem nxC {g : List D → M D} {r : List D} {y : D} {s0 s1 : DS} (h : g r s0 = .ok y s1) : (fun ds => nxM (g ds)) r s0 = .ok y s1 := nxM_ok h
theorem mFrz_at {m : Ev → M (List D)} {Γ : Ev} {s0 s1 : DS} {xs : List D} (h : m Γ s0 = .ok xs s1) : mFrz m Γ s0 = .ok (.lst xs) s1 := by
  show (m Γ s0).bind _ = _
  rw [h]
  rfl
theorem mSrc_at {g : List D → M (List D)} {mr : Ev → M (List D)} {Γ : Ev} {s0 s1 s2 : DS} {r xs : List D} (h1 : mr Γ s0 = .ok r s1) (h2 : g r s1 = .ok xs s2) : mSrc g mr Γ s0 = .ok xs s2 := by
  show (mr Γ s0).bind _ = _
  rw [h1]
  exact h2
theorem mSeqOf_at {m : EM} {Γ : Ev} {s0 s1 s2 : DS} {d : D} {xs : List D} (h1 : m Γ s0 = .ok d s1) (h2 : gSeq d s1 = .ok xs s2) : mSeqOf m Γ s0 = .ok xs s2 := by
  show (m Γ s0).bind _ = _
  rw [h1]
  exact h2
theorem mRet_at {m : EM} {Γ : Ev} {s0 s1 : DS} {d : D} (h : m Γ s0 = .ok d s1) : mRet m Γ s0 = .ok (.rt d) s1 := by
  unfold mRet
  rw [sE_ok h]
  rfl
theorem mB_at {m : EM} {Γ : Ev} {s0 s1 : DS} {b : Bool} (h : m Γ s0 = .ok (.bl b) s1) : mB m Γ s0 = .ok b s1 := by
  show (m Γ s0).bind _ = _
  rw [h]
  rfl
/-! ### lists of ints -/
theorem ix_nat {n i : Nat} (h : i < n) : ixN n (i : Int) = some i := by
  unfold ixN
  rw [if_pos (by omega), if_pos (by omega)]
  simp
theorem at_nat {α : Type} {xs : List α} {i : Nat} {x : α} (h : xs[i]? = some x) : atI xs (i : Int) = some x := by
  unfold atI
  rw [ix_nat (List.getElem?_eq_some_iff.mp h).1]
  exact h
theorem gIx_tup {xs : List D} {i : Nat} {x : D} {st : DS} (h : xs[i]? = some x) : gIx (.tup xs) (.int i) st = .ok x st := by
  show (match atI xs (i : Int) with | some z => Out.ok z st | none => .stuck) = _
  rw [at_nat h]
theorem gIx_lst {xs : List D} {i : Nat} {x : D} {st : DS} (h : xs[i]? = some x) : gIx (.lst xs) (.int i) st = .ok x st := by
  show (match atI xs (i : Int) with | some z => Out.ok z st | none => .stuck) = _
  rw [at_nat h]
theorem gIx_bor {xs : List D} {i : Nat} {x : D} {st : DS} (h : xs[i]? = some x) : gIx (.bor xs) (.int i) st = .ok x st := by
  show (match atI xs (i : Int) with | some z => Out.ok z st | none => .stuck) = _
  rw [at_nat h]
theorem gSum_lst {r : List Int} {st : DS} : gSum [.lst (r.map D.int)] st = .ok (.int r.sum) st := by
  show (match intsD (r.map D.int) with | some ns => Out.ok (D.int ns.sum) st | none => .stuck) = _
  rw [intsD_map]
theorem gSum_tup {r : List Int} {st : DS} : gSum [.tup (r.map D.int)] st = .ok (.int r.sum) st := by
  show (match intsD (r.map D.int) with | some ns => Out.ok (D.int ns.sum) st | none => .stuck) = _
  rw [intsD_map]
theorem gSum_bor {r : List Int} {st : DS} : gSum [.bor (r.map D.int)] st = .ok (.int r.sum) st := by
  show (match intsD (r.map D.int) with | some ns => Out.ok (D.int ns.sum) st | none => .stuck) = _
  rw [intsD_map]
theorem gAll_lst {r : List Bool} {st : DS} : gAll [.lst (r.map D.bl)] st = .ok (.bl (r.all id)) st := by
  show (match blsD (r.map D.bl) with | some bs => Out.ok (D.bl (bs.all id)) st | none => .stuck) = _
  rw [blsD_map]
theorem gMin_lst {a : Int} {r : List Int} {st : DS} : gMin [.lst ((a :: r).map D.int)] st = .ok (.int (minI a r)) st := by
  show (match intsD ((a :: r).map D.int) with | some (a :: r) => Out.ok (D.int (minI a r)) st | _ => .stuck) = _
  rw [intsD_map]
theorem gMax_lst {a : Int} {r : List Int} {st : DS} : gMax [.lst ((a :: r).map D.int)] st = .ok (.int (maxI a r)) st := by
  show (match intsD ((a :: r).map D.int) with | some (a :: r) => Out.ok (D.int (maxI a r)) st | _ => .stuck) = _
  rw [intsD_map]
theorem getI {r : List Int} {i : Nat} (h : i < r.length) : (r.map D.int)[i]? = some (.int (r.getD i 0)) := by
  rw [List.getElem?_map, List.getElem?_eq_getElem h, List.getD_eq_getElem?_getD, List.getElem?_eq_getElem h]; rfl
end FL

/-! FL21: what is drawn: answers with a property whatever the deal; the deal itself -/
namespace FL
open PySem L2
def W {α : Type} (m : M α) (P : α → Prop) : Prop := ∀ st, ∃ a st', m st = .ok a st' ∧ P a
theorem W.of {α : Type} {m : M α} {P : α → Prop} {a : α} (h : ∀ st, m st = .ok a st) (p : P a) : W m P := fun st => ⟨a, st, h st, p⟩
theorem W.mono {α : Type} {m : M α} {P Q : α → Prop} (h : W m P) (q : ∀ a, P a → Q a) : W m Q := fun st => let ⟨a, s, e, p⟩ := h st; ⟨a, s, e, q a p⟩
theorem W.nx {α : Type} {m : M α} {P : α → Prop} (h : W m P) : W (nxM m) P := fun st => let ⟨a, s, e, p⟩ := h st; ⟨a, s, nxM_ok e, p⟩
theorem W.bind {α β : Type} {m : M α} {f : α → M β} {P : α → Prop} {Q : β → Prop} (h : W m P) (h2 : ∀ a, P a → W (f a) Q) : W (fun st => (m st).bind f) Q := fun st => by
  obtain ⟨a, s1, e, p⟩ := h st
  obtain ⟨b, s2, e2, q⟩ := h2 a p s1
  exact ⟨b, s2, by show (m st).bind f = _; rw [e]; exact e2, q⟩
theorem w_var {i : Nat} {Γ : Ev} {d : D} {P : D → Prop} (h : Γ[i]? = some (some (.dat d))) (p : P d) : W (mVar i Γ) P := .of (fun _ => mVar_at h) p
theorem w_c {d : D} {Γ : Ev} {P : D → Prop} (p : P d) : W (mC d Γ) P := .of (fun _ => rfl) p
theorem w_op {g : M2} {ma mb : EM} {Γ : Ev} {P Q R : D → Prop} (h1 : W (ma Γ) P) (h2 : W (mb Γ) Q) (h3 : ∀ a b, P a → Q b → W (g a b) R) : W (mOp g ma mb Γ) R :=
  W.bind h1 fun a pa => W.bind h2 fun b pb => h3 a b pa pb
theorem w_un {g : D → M D} {ma : EM} {Γ : Ev} {P R : D → Prop} (h1 : W (ma Γ) P) (h3 : ∀ a, P a → W (g a) R) : W (mUn g ma Γ) R := W.bind h1 h3
theorem w_nil {Γ : Ev} {P : List D → Prop} (p : P []) : W (mNil Γ) P := .of (fun _ => rfl) p
theorem w_cons {ma : EM} {mr : Ev → M (List D)} {Γ : Ev} {P : D → Prop} {Q R : List D → Prop} (h1 : W (ma Γ) P) (h2 : W (mr Γ) Q) (h3 : ∀ a r, P a → Q r → R (a :: r)) : W (mCons ma mr Γ) R :=
  W.bind h1 fun a pa => W.bind h2 fun r pr => .of (fun _ => rfl) (h3 a r pa pr)
theorem w_call {g : List D → M D} {mr : Ev → M (List D)} {Γ : Ev} {P : List D → Prop} {R : D → Prop} (h1 : W (mr Γ) P) (h2 : ∀ r, P r → W (g r) R) : W (mCall g mr Γ) R := W.bind h1 h2
theorem w_call1 {g : List D → M D} {m : EM} {Γ : Ev} {P R : D → Prop} (h1 : W (m Γ) P) (h2 : ∀ a, P a → W (g [a]) R) : W (mCall g (mCons m mNil) Γ) R :=
  w_call (w_cons (R := fun r => ∃ a, r = [a] ∧ P a) h1 (w_nil rfl) fun a r pa e => ⟨a, by rw [e], pa⟩) fun r ⟨a, e, p⟩ => e ▸ h2 a p
theorem w_call2 {g : List D → M D} {m m2 : EM} {Γ : Ev} {P Q R : D → Prop} (h1 : W (m Γ) P) (h2 : W (m2 Γ) Q) (h3 : ∀ a b, P a → Q b → W (g [a, b]) R) : W (mCall g (mCons m (mCons m2 mNil)) Γ) R :=
  w_call (w_cons (R := fun r => ∃ a b, r = [a, b] ∧ P a ∧ Q b) h1 (w_cons (R := fun r => ∃ b, r = [b] ∧ Q b) h2 (w_nil rfl) fun b r pb e => ⟨b, by rw [e], pb⟩) fun a r pa ⟨b, e, pb⟩ => ⟨a, b, by rw [e], pa, pb⟩) fun r ⟨a, b, e, p, q⟩ => e ▸ h3 a b p q
theorem w_call3 {g : List D → M D} {m m2 m3 : EM} {Γ : Ev} {P Q S R : D → Prop} (h1 : W (m Γ) P) (h2 : W (m2 Γ) Q) (h3 : W (m3 Γ) S) (h4 : ∀ a b c, P a → Q b → S c → W (g [a, b, c]) R) : W (mCall g (mCons m (mCons m2 (mCons m3 mNil))) Γ) R :=
  w_call (w_cons (R := fun r => ∃ a b c, r = [a, b, c] ∧ P a ∧ Q b ∧ S c) h1 (w_cons (R := fun r => ∃ b c, r = [b, c] ∧ Q b ∧ S c) h2 (w_cons (R := fun r => ∃ c, r = [c] ∧ S c) h3 (w_nil rfl) fun c r pc e => ⟨c, by rw [e], pc⟩) fun b r pb ⟨c, e, pc⟩ => ⟨b, c, by rw [e], pb, pc⟩) fun a r pa ⟨b, c, e, pb, pc⟩ => ⟨a, b, c, by rw [e], pa, pb, pc⟩) fun r ⟨a, b, c, e, p, q, s⟩ => e ▸ h4 a b c p q s
theorem w_frz {m : Ev → M (List D)} {Γ : Ev} {P : List D → Prop} {R : D → Prop} (h1 : W (m Γ) P) (h2 : ∀ xs, P xs → R (.lst xs)) : W (mFrz m Γ) R := W.bind h1 fun xs p => .of (fun _ => rfl) (h2 xs p)
theorem w_src {g : List D → M (List D)} {mr : Ev → M (List D)} {Γ : Ev} {P R : List D → Prop} (h1 : W (mr Γ) P) (h2 : ∀ r, P r → W (g r) R) : W (mSrc g mr Γ) R := W.bind h1 h2
theorem w_tup {mr : Ev → M (List D)} {Γ : Ev} {P : List D → Prop} {R : D → Prop} (h1 : W (mr Γ) P) (h2 : ∀ r, P r → r.length ≤ 1000000 ∧ R (.tup r)) : W (mTup mr Γ) R := W.bind h1 fun r p st => ⟨_, st, by
  have := h2 r p
  show (if decide (r.length ≤ sizeLine) = true then _ else _ : M D) st = _
  rw [if_pos (dec_le this.1)]
  rfl, (h2 r p).2⟩
theorem w_lst {mr : Ev → M (List D)} {Γ : Ev} {P : List D → Prop} {R : D → Prop} (h1 : W (mr Γ) P) (h2 : ∀ r, P r → r.length ≤ 1000000 ∧ R (.lst r)) : W (mLst mr Γ) R := W.bind h1 fun r p st => ⟨_, st, by
  have := h2 r p
  show (if decide (r.length ≤ sizeLine) = true then _ else _ : M D) st = _
  rw [if_pos (dec_le this.1)]
  rfl, (h2 r p).2⟩
theorem mTup_at {mr : Ev → M (List D)} {Γ : Ev} {s0 s1 : DS} {r : List D} (h : mr Γ s0 = .ok r s1) (hl : r.length ≤ 1000000) : mTup mr Γ s0 = .ok (.tup r) s1 := by
  show (mr Γ s0).bind _ = _
  rw [h]
  show (if decide (r.length ≤ sizeLine) = true then _ else _ : M D) s1 = _
  rw [if_pos (dec_le hl)]
  rfl
theorem mLst_at {mr : Ev → M (List D)} {Γ : Ev} {s0 s1 : DS} {r : List D} (h : mr Γ s0 = .ok r s1) (hl : r.length ≤ 1000000) : mLst mr Γ s0 = .ok (.lst r) s1 := by
  show (mr Γ s0).bind _ = _
  rw [h]
  show (if decide (r.length ≤ sizeLine) = true then _ else _ : M D) s1 = _
  rw [if_pos (dec_le hl)]
  rfl
theorem mUn_at {g : D → M D} {m : EM} {Γ : Ev} {s0 s1 s2 : DS} {a y : D} (h1 : m Γ s0 = .ok a s1) (h2 : g a s1 = .ok y s2) : mUn g m Γ s0 = .ok y s2 := by
  show (m Γ s0).bind _ = _
  rw [h1]
  exact h2
theorem w_if {t : Ev → M Bool} {ma mb : EM} {Γ : Ev} {P : Bool → Prop} {R : D → Prop} (h1 : W (t Γ) P) (ht : P true → W (ma Γ) R) (hf : P false → W (mb Γ) R) : W (mIf t ma mb Γ) R := W.bind h1 fun b p => by
  cases b with
  | true => exact ht p
  | false => exact hf p
theorem w_b {ma : EM} {Γ : Ev} {P : D → Prop} {R : Bool → Prop} (h1 : W (ma Γ) P) (h2 : ∀ d, P d → ∃ b, d = .bl b ∧ R b) : W (mB ma Γ) R := W.bind h1 fun d p => by
  obtain ⟨b, e, r⟩ := h2 d p
  subst e
  exact .of (fun _ => rfl) r
/-! ### statements -/
theorem w_sE {α : Type} {m : M α} {Γ : Ev} {f : α → M Fl} {P : α → Prop} {R : Fl → Prop} (h1 : W m P) (h2 : ∀ a, P a → W (f a) R) : W (sE m Γ f) R := fun st => by
  obtain ⟨a, s1, e, p⟩ := h1 st
  obtain ⟨b, s2, e2, q⟩ := h2 a p s1
  exact ⟨b, s2, (sE_ok e).trans e2, q⟩
theorem w_ret {me : EM} {Γ : Ev} {P : D → Prop} {R : Fl → Prop} (h1 : W (me Γ) P) (h2 : ∀ d, P d → R (.rt d)) : W (mRet me Γ) R := w_sE h1 fun d p => .of (fun _ => rfl) (h2 d p)
theorem w_asg {me : EM} {g : GM} {Γ : Ev} {P : D → Prop} {R : Fl → Prop} (h1 : W (me Γ) P) (h2 : ∀ d, P d → ∃ Γ', g d Γ = some Γ' ∧ R (.nx Γ')) : W (mAsg me g Γ) R := w_sE h1 fun d p => by
  obtain ⟨Γ', e, r⟩ := h2 d p
  refine .of (a := Fl.nx Γ') (fun st => ?_) r
  show (match g d Γ with | some Γ' => (pure (Fl.nx Γ') : M Fl) | none => halt) st = _
  rw [e]
  rfl
theorem w_seq {m m2 : SM} {Γ : Ev} {P : Ev → Prop} {R : Fl → Prop} (h1 : W (m Γ) fun r => ∃ Γ', r = .nx Γ' ∧ P Γ') (h2 : ∀ Γ', P Γ' → W (m2 Γ') R) : W (mSeq m m2 Γ) R := W.bind h1 fun r p => by
  obtain ⟨Γ', e, p⟩ := p
  subst e
  exact h2 Γ' p
theorem w_ifS {t : Ev → M Bool} {ma mb : SM} {Γ : Ev} {P : Bool → Prop} {R : Fl → Prop} (h1 : W (t Γ) P) (ht : P true → W (ma Γ) R) (hf : P false → W (mb Γ) R) : W (mIfS t ma mb Γ) R := w_sE h1 fun b p => by
  cases b with
  | true => exact ht p
  | false => exact hf p
theorem w_next {Γ : Ev} {R : Fl → Prop} (h : R (.nx Γ)) : W (mNext Γ) R := .of (fun _ => rfl) h
theorem w_setO {i : Nat} {m : Ev → M (List D)} {Γ : Ev} {P : List D → Prop} {R : Fl → Prop} (h1 : W (m Γ) P) (h2 : ∀ xs, P xs → R (.nx (Γ.set i (some (.own xs))))) : W (mSetO i m Γ) R := w_sE h1 fun xs p => .of (fun _ => rfl) (h2 xs p)
/-- a loop: I of the things that are left and the names -/
theorem w_loop {g : GM} {mb : SM} (I : List D → Ev → Prop) : ∀ {xs : List D} {Γ : Ev}, I xs Γ → (∀ d r Γ, I (d :: r) Γ → ∃ Γ1, g d Γ = some Γ1 ∧ W (mb Γ1) fun f => ∃ Γ2, (f = .nx Γ2 ∨ f = .ct Γ2) ∧ I r Γ2) → W (loopS g mb xs Γ) fun f => ∃ Γ', f = .nx Γ' ∧ I [] Γ'
  | [], Γ, i, _ => .of (fun _ => rfl) ⟨Γ, rfl, i⟩
  | d :: r, Γ, i, h => by
    obtain ⟨Γ1, h1, h2⟩ := h d r Γ i
    rw [loopS, h1]
    refine W.bind h2 fun f p => ?_
    obtain ⟨Γ2, e, i2⟩ := p
    rcases e with e | e
    · subst e; exact w_loop I i2 h
    · subst e; exact w_loop I i2 h
theorem w_for {mi : Ev → M (List D)} {g : GM} {mb : SM} {Γ : Ev} (I : List D → Ev → Prop) {P : List D → Prop} (h0 : W (mi Γ) P) (hI : ∀ xs, P xs → I xs Γ) (h : ∀ d r Γ, I (d :: r) Γ → ∃ Γ1, g d Γ = some Γ1 ∧ W (mb Γ1) fun f => ∃ Γ2, (f = .nx Γ2 ∨ f = .ct Γ2) ∧ I r Γ2) : W (mFor mi g mb Γ) fun f => ∃ Γ', f = .nx Γ' ∧ I [] Γ' :=
  w_sE h0 fun xs p => w_loop I (hI xs p) h
theorem w_fn {np n : Nat} {mb : SM} {ds : List D} {R : D → Prop} (hl : ds.length = np) (h : W (mb (startE n ds)) fun f => ∃ d, f = .rt d ∧ R d) : W (fnM np n mb ds) R := fun st => by
  obtain ⟨f, s1, e, d, rfl, r⟩ := h st
  exact ⟨d, s1, fnM_ret hl e, r⟩
/-- things are drawn, one for each -/
theorem w_comp {mi : Ev → M (List D)} {g : GM} {e : EM} {vs : List Nat} {Γ : Ev} {P : List D → Prop} (R : D → D → Prop) {Q : List D → Prop} (h0 : W (mi Γ) P) (hl : ∀ xs, P xs → xs.length ≤ 1000000)
    (h : ∀ xs, P xs → ∀ d ∈ xs, ∃ Γ1, g d (wipeE Γ vs) = some Γ1 ∧ W (e Γ1) (R d)) (hq : ∀ xs ys, P xs → All2 R xs ys → Q ys) : W (mComp mi g mYes e vs Γ) Q := W.bind h0 fun xs p st => by
  obtain ⟨ys, st', h1, h2⟩ := compL_draw (g := g) (e := e) (Γ := wipeE Γ vs) R st (h xs p)
  refine ⟨ys, st', ?_, hq xs ys p h2⟩
  show (if decide (xs.length ≤ sizeLine) = true then _ else _ : M (List D)) st = _
  rw [if_pos (dec_le (hl xs p))]
  exact h1
theorem All2.length {α β : Type} {R : α → β → Prop} : ∀ {xs : List α} {ys : List β}, All2 R xs ys → xs.length = ys.length
  | _, _, .nil => rfl
  | _, _, .cons _ t => congrArg (· + 1) t.length
/-- each is the sign of something with S -/
theorem All2.enc {α : Type} {R : D → D → Prop} {S : α → Prop} (en : α → D) (h : ∀ x y, R x y → ∃ a, y = en a ∧ S a) : ∀ {xs ys : List D}, All2 R xs ys → ∃ as : List α, ys = as.map en ∧ (∀ a ∈ as, S a) ∧ as.length = xs.length
  | _, _, .nil => ⟨[], rfl, by simp, rfl⟩
  | _, _, .cons r t => by
    obtain ⟨a, e, s⟩ := h _ _ r
    obtain ⟨as, e2, s2, l⟩ := All2.enc en h t
    exact ⟨a :: as, by rw [e, e2]; rfl, fun z hz => by
      rcases List.mem_cons.mp hz with rfl | hz
      · exact s
      · exact s2 z hz, by simp [l]⟩
/-! ### draws -/
theorem w_any {c m : Int} (hm : 0 < m) (hl : m < 2 ^ 8000) : W (gAnyD c [.deal, .int m]) fun d => ∃ v, d = .int v ∧ 0 ≤ v ∧ v < m := fun st => by
  obtain ⟨v, st', e, h1, h2⟩ := any_draw (c := c) hm hl st
  exact ⟨_, st', e, v, rfl, h1, h2⟩
theorem big {m : Int} (h : m ≤ 2 ^ 100) : m < 2 ^ 8000 := Int.lt_of_le_of_lt h (by decide +kernel)
/-- an expression that draws -/
theorem w_draw {c : Int} {m : EM} {i : Nat} {Γ : Ev} {b : Int} (h0 : Γ[i]? = some (some (.dat .deal))) (h1 : ∀ st, m Γ st = .ok (.int b) st) (hb : 0 < b) (hl : b ≤ 2 ^ 100) : W (mCall (fun ds => nxM (gAnyD c ds)) (mCons (mVar i) (mCons m mNil)) Γ) fun d => ∃ v, d = .int v ∧ 0 ≤ v ∧ v < b :=
  w_call2 (w_var (P := (· = .deal)) h0 rfl) (W.of (P := (· = .int b)) h1 rfl) fun x y e1 e2 => by subst e1 e2; exact (w_any hb (big hl)).nx
abbrev ofM (c : Int) : List D → M D := fnM 2 2 (mRet (mOp gIx (mVar 1) (mCall (fun ds => nxM (gAnyD c ds)) (mCons (mVar 0) (mCons (mCall gLen (mCons (mVar 1) mNil)) mNil)))))
theorem w_of {c : Int} {xs : List D} (h0 : xs ≠ []) (hl : xs.length ≤ 1000000) : W (ofM c [.deal, .lst xs]) (· ∈ xs) := by
  have h1 := List.length_pos_iff.mpr h0
  refine w_fn rfl (w_ret (w_op (P := (· = .lst xs)) (w_var rfl rfl) (w_draw (b := xs.length) rfl (fun st => rfl) (by omega) (Int.le_trans (show (xs.length : Int) ≤ 1000000 by omega) (by decide +kernel))) fun a b ea ⟨v, eb, v0, v1⟩ => ?_) fun d hd => ⟨d, rfl, hd⟩)
  subst ea eb
  obtain ⟨n, rfl⟩ : ∃ n : Nat, v = n := ⟨v.toNat, by omega⟩
  have hn : n < xs.length := by omega
  exact .of (fun st => gIx_lst (List.getElem?_eq_getElem hn)) (List.getElem_mem hn)
/-! ### the deal -/
abbrev dealB (k1 k2 : Int) : SM := (mSeq (mAsg (mFrz (mComp (mSeqOf (mSl (mVar 0) mNoP (mSomeP (mC (.int 63))))) (mgName 4) mYes (mCall gAbs (mCons (mCall gIntOf (mCons (mVar 4) mNil)) mNil)) [4])) (mgName 2))
  (mSeq (mAsg (mOp gAdd (mOp gMul (mC (.int k1)) (mVar 1)) (mC (.int k2))) (mgName 3))
  (mSeq (mFor (mSeqOf (mVar 2)) (mgName 4) (mAsg (mOp gMod (mCall gIntOf (mCons (mOp gAdd (mOp gAdd (mOp gMul (mVar 3) (mC (.int 48271))) (mOp gMod (mVar 4) (mC (.int 2147483579)))) (mC (.int 61))) mNil)) (mC (.int 2147483647))) (mgName 3)))
  (mRet (mLst (mCons (mUn gRev (mFrz (mComp (mSeqOf (mVar 2)) (mgName 4) (mB (mOp gGe (mVar 4) (mOp gPow (mC (.int 10)) (mC (.int 18))))) (mVar 4) [4]))) (mCons (mVar 3) mNil)))))))
theorem cutA_map {α β : Type} (f : α → β) (xs : List α) (lo hi : Option Int) : cutA (xs.map f) lo hi = (cutA xs lo hi).map f := by
  unfold cutA
  rw [List.length_map, ← List.map_drop, ← List.map_take]
theorem cutA_len {α : Type} (xs : List α) (lo hi : Option Int) : (cutA xs lo hi).length ≤ xs.length := by
  unfold cutA
  rw [List.length_take, List.length_drop]
  omega
def absI (i : Int) : Int := if i < 0 then -i else i
theorem gMul_r {i j : Int} {st : DS} (h : -(2 ^ 64) < j ∧ j < 2 ^ 64) : gMul (.int i) (.int j) st = .ok (.int (i * j)) st := by
  show (if decide _ = true then _ else _) = _
  rw [if_pos (decide_eq_true (.inr h))]
theorem gMul_l {i j : Int} {st : DS} (h : -(2 ^ 64) < i ∧ i < 2 ^ 64) : gMul (.int i) (.int j) st = .ok (.int (i * j)) st := by
  show (if decide _ = true then _ else _) = _
  rw [if_pos (decide_eq_true (.inl h))]
theorem gMod_at {i j : Int} {st : DS} (h : 0 < j) : gMod (.int i) (.int j) st = .ok (.int (i % j)) st := by
  show (if decide _ = true then _ else _) = _
  rw [if_pos (decide_eq_true h)]
theorem deal_run {k1 k2 b0 : Int} (hk : -(2 ^ 64) < k1 ∧ k1 < 2 ^ 64) (ns : List Int) (hn : ns.length ≤ 63) (st : DS) : ∃ (cs : List Int) (b : Int), cs.length ≤ 63 ∧ fnM 2 5 (dealB k1 k2) [.kl (ns.map D.int), .int b0] st = .ok (.lst [.lst (cs.map D.int), .int b]) st := by
  let cut := cutA ns none (some 63)
  let cells := cut.map absI
  have cl : cut.length ≤ 63 := Nat.le_trans (cutA_len _ _ _) hn
  have e1 : mFrz (mComp (mSeqOf (mSl (mVar 0) mNoP (mSomeP (mC (.int 63))))) (mgName 4) mYes (mCall gAbs (mCons (mCall gIntOf (mCons (mVar 4) mNil)) mNil)) [4]) (startE 5 [.kl (ns.map D.int), .int b0]) st = .ok (.lst (cells.map D.int)) st := by
    have e0 : mSeqOf (mSl (mVar 0) mNoP (mSomeP (mC (.int 63)))) (startE 5 [.kl (ns.map D.int), .int b0]) st = .ok (cut.map D.int) st := by
      show gSeq (.lst (cutA (ns.map D.int) none (some 63))) st = _
      rw [cutA_map]
      rfl
    have q := mFrz_at (comp_enc (vs := [4]) (g := mgName 4) (e := mCall gAbs (mCons (mCall gIntOf (mCons (mVar 4) mNil)) mNil)) cut D.int (fun i => .int (absI i)) e0 (by omega) fun u hu => ⟨_, rfl, rfl⟩)
    rw [q, List.map_map]
    rfl
  have lp : ∀ (L : List Int) (m : Int) (x : Option Sl), ∃ m' x', loopS (mgName 4) (mAsg (mOp gMod (mCall gIntOf (mCons (mOp gAdd (mOp gAdd (mOp gMul (mVar 3) (mC (.int 48271))) (mOp gMod (mVar 4) (mC (.int 2147483579)))) (mC (.int 61))) mNil)) (mC (.int 2147483647))) (mgName 3)) (L.map D.int)
      [some (.dat (.kl (ns.map D.int))), some (.dat (.int b0)), some (.dat (.lst (cells.map D.int))), some (.dat (.int m)), x] st = .ok (.nx [some (.dat (.kl (ns.map D.int))), some (.dat (.int b0)), some (.dat (.lst (cells.map D.int))), some (.dat (.int m')), x']) st := by
    intro L
    induction L with
    | nil => exact fun m x => ⟨m, x, rfl⟩
    | cons a L ih =>
      intro m x
      obtain ⟨m', x', h⟩ := ih ((m * 48271 + a % 2147483579 + 61) % 2147483647) (some (.dat (.int a)))
      refine ⟨m', x', ?_⟩
      have hb : mAsg (mOp gMod (mCall gIntOf (mCons (mOp gAdd (mOp gAdd (mOp gMul (mVar 3) (mC (.int 48271))) (mOp gMod (mVar 4) (mC (.int 2147483579)))) (mC (.int 61))) mNil)) (mC (.int 2147483647))) (mgName 3) [some (.dat (.kl (ns.map D.int))), some (.dat (.int b0)), some (.dat (.lst (cells.map D.int))), some (.dat (.int m)), some (.dat (.int a))] st
          = .ok (.nx [some (.dat (.kl (ns.map D.int))), some (.dat (.int b0)), some (.dat (.lst (cells.map D.int))), some (.dat (.int ((m * 48271 + a % 2147483579 + 61) % 2147483647))), some (.dat (.int a))]) st := by
        unfold mAsg
        rw [sE_ok (mOp_at (mCall1 (mOp_at (mOp_at (mOp_at (a := .int m) rfl rfl (gMul_r (by decide))) (mOp_at (a := .int a) rfl rfl (gMod_at (by decide))) rfl) rfl rfl) rfl) rfl (gMod_at (by decide)))]
        rfl
      rw [List.map_cons, loopS]
      show (mAsg _ _ [some (.dat (.kl (ns.map D.int))), some (.dat (.int b0)), some (.dat (.lst (cells.map D.int))), some (.dat (.int m)), some (.dat (.int a))] st).bind _ = _
      rw [hb]
      exact h
  obtain ⟨m', x', hl⟩ := lp cells (k1 * b0 + k2) none
  refine ⟨(cells.filter fun i => decide ((10 : Int) ^ (18 : Nat) ≤ i)).reverse, m', ?_, ?_⟩
  · rw [List.length_reverse]
    refine Nat.le_trans (List.length_filter_le _ _) ?_
    show (cut.map absI).length ≤ 63
    rw [List.length_map]
    exact cl
  · have e2 : mOp gAdd (mOp gMul (mC (.int k1)) (mVar 1)) (mC (.int k2)) [some (.dat (.kl (ns.map D.int))), some (.dat (.int b0)), some (.dat (.lst (cells.map D.int))), none, none] st = .ok (.int (k1 * b0 + k2)) st := mOp_at (mOp_at (b := .int b0) rfl rfl (gMul_l hk)) rfl rfl
    refine fnM_ret rfl ((mSeq_nx (Γ' := [some (.dat (.kl (ns.map D.int))), some (.dat (.int b0)), some (.dat (.lst (cells.map D.int))), none, none]) (st' := st) (by unfold mAsg; rw [sE_ok e1]; rfl)).trans ((mSeq_nx (Γ' := [some (.dat (.kl (ns.map D.int))), some (.dat (.int b0)), some (.dat (.lst (cells.map D.int))), some (.dat (.int (k1 * b0 + k2))), none]) (st' := st) (by unfold mAsg; rw [sE_ok e2]; rfl)).trans
      ((mSeq_nx (Γ' := [some (.dat (.kl (ns.map D.int))), some (.dat (.int b0)), some (.dat (.lst (cells.map D.int))), some (.dat (.int m')), x']) (st' := st) (by unfold mFor; rw [sE_ok (mSeqOf_at (d := .lst (cells.map D.int)) rfl rfl)]; exact hl)).trans (mRet_at (mLst_at (mCons_at (mUn_at (mFrz_at (comp_encF cells D.int (fun i => decide ((10 : Int) ^ (18 : Nat) ≤ i)) D.int (mSeqOf_at (d := .lst (cells.map D.int)) rfl rfl) ?_ fun u hu => ⟨_, rfl, ?_, fun _ => rfl⟩)) ?_) (mCons_at rfl rfl)) ?_)))))
    · show (cut.map absI).length ≤ _
      rw [List.length_map]
      omega
    · exact mB_at (mOp_at (a := .int u) (b := .int (10 ^ 18)) rfl rfl rfl)
    · show Out.ok (D.lst (List.reverse _)) st = _
      rw [← List.map_reverse]
    · simp
/-! ### loops over a range, lists of one's own -/
theorem w_loopR {g : GM} {mb : SM} {n : Nat} {en : Nat → D} (I : Nat → Ev → Prop) {Γ : Ev} (h0 : I 0 Γ) (h : ∀ j Γ, j < n → I j Γ → ∃ Γ1, g (en j) Γ = some Γ1 ∧ W (mb Γ1) fun f => ∃ Γ2, (f = .nx Γ2 ∨ f = .ct Γ2) ∧ I (j + 1) Γ2) : W (loopS g mb ((List.range n).map en) Γ) fun f => ∃ Γ', f = .nx Γ' ∧ I n Γ' := by
  have q := w_loop (g := g) (mb := mb) (fun xs Γ => ∃ j, j ≤ n ∧ xs = ((List.range n).drop j).map en ∧ I j Γ) (xs := (List.range n).map en) (Γ := Γ) ⟨0, Nat.zero_le _, rfl, h0⟩ fun d r Γ ⟨j, hj, e, i⟩ => by
    have lt : j < n := by
      rcases Nat.lt_or_ge j n with q | q
      · exact q
      · rw [List.drop_eq_nil_of_le (by simpa using q)] at e
        cases e
    have e1 : (List.range n).drop j = j :: (List.range n).drop (j + 1) := by
      rw [List.drop_eq_getElem_cons (by simpa using lt)]
      simp
    rw [e1, List.map_cons] at e
    injection e with e2 e3
    subst e2 e3
    obtain ⟨Γ1, a, b⟩ := h j Γ lt i
    exact ⟨Γ1, a, b.mono fun f ⟨Γ2, c, d⟩ => ⟨Γ2, c, j + 1, lt, rfl, d⟩⟩
  refine q.mono fun f ⟨Γ', e, j, hj, e2, i⟩ => ⟨Γ', e, ?_⟩
  have : j = n := by
    rcases Nat.lt_or_ge j n with q | q
    · rw [List.drop_eq_getElem_cons (by simpa using q)] at e2
      cases e2
    · omega
  exact this ▸ i
theorem range2_at {a b : Nat} {st : DS} (h : a ≤ 1000000 ∧ b ≤ 1000000) : gRange2 [.int (a : Nat), .int (b : Nat)] st = .ok ((List.range (b - a)).map fun i => .int ((a + i : Nat) : Int)) st := by
  unfold gRange2
  dsimp only
  rw [if_pos (decide_eq_true ⟨by omega, by omega, by omega, by omega⟩)]
  congr 1
  have : ((b : Int) - (a : Int)).toNat = b - a := by omega
  rw [this]
  apply List.map_congr_left
  intro i _
  congr 1
theorem w_bor {i : Nat} {m : EM} {Γ : Ev} {xs : List D} {P R : D → Prop} (h : gOwn i Γ = some xs) (h1 : W (m (Γ.set i (some (.dat (.bor xs))))) P) (h2 : ∀ d, P d → noBor d = true ∧ R d) : W (mBor i m Γ) R := by
  have e : mBor i m Γ = fun st => ((nxM (m (Γ.set i (some (.dat (.bor xs)))))) st).bind fun d => (if noBor d = true then pure d else halt : M D) := by
    unfold mBor
    rw [h]
    rfl
  rw [e]
  exact W.bind h1.nx fun d p => .of (fun st => by rw [if_pos (h2 d p).1]; rfl) (h2 d p).2
theorem w_store {i : Nat} {me mi : EM} {Γ : Ev} {xs : List D} {P : D → Prop} {R : Fl → Prop} {j : Nat} (h : gOwn i Γ = some xs) (hj : j < xs.length) (h1 : W (me Γ) P) (h2 : ∀ st, mi Γ st = .ok (.int (j : Nat)) st) (h3 : ∀ d, P d → R (.nx (Γ.set i (some (.own (xs.set j d)))))) : W (mStore i me mi Γ) R := by
  unfold mStore
  rw [h]
  refine w_sE h1 fun d p => w_sE (W.of (P := (· = .int (j : Nat))) h2 rfl) fun ix e => ?_
  subst e
  refine .of (a := .nx (Γ.set i (some (.own (xs.set j d))))) (fun st => ?_) (h3 d p)
  unfold gStore
  dsimp only
  rw [ix_nat hj]
theorem w_tuple {m : Ev → M (List D)} {Γ : Ev} {P : List D → Prop} {R : D → Prop} (h : W (m Γ) P) (h2 : ∀ ys, P ys → R (.tup ys)) : W (mCall gTuple (mCons (mFrz m) mNil) Γ) R :=
  w_call1 (P := fun d => ∃ xs, d = .lst xs ∧ P xs) (w_frz h fun xs p => ⟨xs, rfl, p⟩) fun a ⟨xs, e, p⟩ => by
    subst e
    exact .of (fun st => rfl) (h2 xs p)
/-! ### repr of the same thing on both sides -/
theorem reprOk_bl (b : Bool) : reprOk (.bl b) = true := by cases b <;> decide +kernel
theorem reprOk_int {i : Int} (h : i.natAbs < 10 ^ 12) : reprOk (.int i) = true := by
  unfold reprOk
  have h1 := PyData.shown_int_le h
  have h2 : i.natAbs.log2 < 1920 := by
    by_cases h0 : i.natAbs = 0
    · rw [h0]; decide
    · have := (Nat.log2_lt h0).mpr (show i.natAbs < 2 ^ 1920 from Nat.lt_trans h (by decide))
      omega
  simp only [Bool.and_eq_true, Bool.not_eq_true', decide_eq_true_eq]
  refine ⟨⟨⟨⟨rfl, ?_⟩, ?_⟩, ?_⟩, ?_⟩
  · rw [D.py, PyData.showable]
    exact decide_eq_true h2
  · rw [D.py, PyData.hasDict]
  · rw [D.py, PyData.depth]
    decide
  · rw [D.py]
    exact small_le (by omega)
theorem gRepr_at {d : D} {st : DS} (h : reprOk d = true) : gRepr [d] st = .ok (.str d.py.shown) st := by
  unfold gRepr
  dsimp only
  rw [if_pos h]
theorem eqD_same (x : Str) : eqD (.str x) (.str x) = true := by
  rw [eqD_str]
  simp
theorem ne_same {x : Str} {st : DS} : gNe (.str x) (.str x) st = .ok (.bl false) st := by
  unfold gNe
  rw [if_pos (show eqOk (.str x) (.str x) = true from rfl), eqD_same]
  rfl
/-- repr(a) != repr(b), both the same -/
theorem repr_ne {ma mb : EM} {Γ : Ev} {s0 s1 s2 : DS} {d : D} (h1 : ma Γ s0 = .ok d s1) (h2 : mb Γ s1 = .ok d s2) (h : reprOk d = true) : mB (mOp gNe (mCall gRepr (mCons ma mNil)) (mCall gRepr (mCons mb mNil))) Γ s0 = .ok false s2 :=
  mB_at (mOp_at (mCall1 h1 (gRepr_at h)) (mCall1 h2 (gRepr_at h)) ne_same)
end FL

/-! FL22: own errors over Exception, super().__init__(x); self.f = x -/
namespace FL
open PySem PySem.Spec PyProof.Rows
/-! ### the text of such an __init__ -/
def xiA (fld : Str) (p1 p2 : Pos) : Arguments := { posonlyargs := [], args := [{ arg := "self", annotation := none, pos := p1 }, { arg := fld, annotation := none, pos := p2 }], vararg := none, kwonlyargs := [], kw_defaults := [], kwarg := none, defaults := [] }
def xiS (fld : Str) : Scope := { kind := .function, names := [(PySem.Str.ofString "self", .local), (fld, .local), (PySem.Str.ofString "__class__", .free), (PySem.Str.ofString "super", .globalImplicit)], isGenerator := false, isCoroutine := false, more := [] }
def xiB (fld : Str) (p0 p1 p2 p3 p4 p5 q1 q2 q3 q4 : Pos) : List Stmt :=
  [.Expr (.Call (.Attribute (.Call (.Name "super" p0) [] [] p1) "__init__" p2) [.Name fld p3] [] p4) p5, .Assign [.Attribute (.Name "self" q1) fld q2] (.Name fld q3) q4]
abbrev exB : List Value := [.type "Exception", .type "BaseException", .type "object"]
structure XTxt (prog : Program) (K : PySem.W.Frag) (mg : Str → Option Value) (x fld : Str) (C : Addr) : Prop where
  gC : mg x = some (.ref C)
  cls : ∃ nm q N bs bm sn sub ab col dd k0 k1 k2 k3 k5, K.lookup C = some (excClassObj nm q C N bs bm true sn sub ab col dd k0 k1 k2 k3 k5 "Exception.__new__") ∧ PySem.W.excTail exB bm = true
  ov : PySem.W.excOver K C exB = true
  sa : PySem.W.findIn K (.ref C) "__setattr__" = some (some (.builtin "object.__setattr__"))
  ga : PySem.W.findIn K (.ref C) "__getattribute__" = some (some (.builtin "BaseException.__getattribute__"))
  gg : PySem.W.findIn K (.ref C) "__getattr__" = some none
  noN : PySem.W.findIn K (.ref C) fld = some none
  tk : PySem.W.takerIn K C fld = some none
  kC : PySem.W.keepIn K (.ref C) = true
  exC : PySem.W.subIn K (.ref C) (.type "BaseException") = some true
  exE : PySem.W.subIn K (.ref C) (.type "Exception") = some true
  own : PySem.W.mroIn K C (.ref C) = some true
  tyC : PySem.W.typeIn K (.ref C) = some (.type "type")
  hdC : PySem.W.hasDictIn K C = true
  up : PySem.W.ks_superIn K C C "__init__" = some (some (.builtin "Exception.__init__"))
  opq : PySem.W.nsIn K PySem.cStatics "thirdparty.any" = some none
  noS : mg "super" = none
  top : (prog.main.scope.names.lookup ("super" : Str)).isSome = false
  kw : (xiS fld).names.lookup fld = some .local
  kc : (xiS fld).names.lookup ("__class__" : Str) = some .free
  ks : (xiS fld).names.lookup ("super" : Str) = some .globalImplicit
  nf : (fld == ("__debug__" : Str)) = false
  ne : fld ≠ "self"
  fn : ∃ (fI cc cda : Addr) (q : Str) (oc : Value) (od : Option Addr) (doc pm ct : Value) (an : Option Addr) (osl : Array (Option Value)) (p1 p2 r0 r1 r2 r3 r4 r5 q1 q2 q3 q4 : Pos) (ccl cl : Value) (cdd cld : Option Addr) (ccs csl : Array (Option Value)) (vs : Array Value) (file : Str) (tf : Tok),
    PySem.W.findIn K (.ref C) "__init__" = some (some (.ref fI)) ∧ PySem.W.typeIn K (.ref fI) = some (.type "function") ∧
    K.lookup fI = some ⟨oc, od, .func (PySem.W.ksFn "__init__" q (xiA fld p1 p2) (xiB fld r0 r1 r2 r3 r4 r5 q1 q2 q3 q4) (xiS fld) .none .none doc pm an (.ref cda) ct cc), osl⟩ ∧ PySem.W.codeIn K (.ref cda) q = true ∧
    K.lookup cc = some ⟨cl, cld, .cell (some (.ref C)), csl⟩ ∧ K.lookup cda = some ⟨ccl, cdd, .fields vs, ccs⟩ ∧ vs[2]? = some (.str file tf) ∧ ((prog.main.file : Str) == file) = true ∧
    (∀ env : Env, ∃ pl : Sem Bool, eval (.Call (.Attribute (.Call (.Name "super" r0) [] [] r1) "__init__" r2) [.Name fld r3] [] r4) env = (do
      let ov ← attributeBase (.Call (.Name "super" r0) [] [] r1) "__init__" env (eval (.Call (.Name "super" r0) [] [] r1) env)
      standAt r2.atName
      let (f, first) ← holding [ov] (getMethod ov "__init__" pl)
      callWith r4 f first (backTo r4 (starEach [.Name fld r3] env)) [])) ∧
    ∀ (s : Shared) (a b : Value), BindsTo s (PySem.W.ksFn "__init__" q (xiA fld p1 p2) (xiB fld r0 r1 r2 r3 r4 r5 q1 q2 q3 q4) (xiS fld) .none .none doc pm an (.ref cda) ct cc) ⟨[a, b], []⟩ [("self", a), (fld, b)]

section
open PySem.W PySem.Calls Builtin Builtin.ObjectAttr
variable {prog : Program} {w : World} {A : Around} {R : Result → Shared → Prop} {hp : Heap} {g : Array GenState} {d : Drawn} {t : Nat} {os : OsState}
/-- the first field of a bare error -/
theorem osx {K : Frag} {name : Str} {tk : Tok} {v : Value} {x C : Addr} {fv : Array Value} {cd : ClassData} (X : K.In hp) (hx : hp.get? x = some { cls := .ref C, data := .fields fv }) (hcd : clsIn K C = some cd) (hh : cd.hasDict = true) (ho : excOver K C exB = true) (ht : takerIn K C name = some none)
    (hq : ∀ h' tk' dx, (∀ b o, b ≠ x → hp.get? b = some o → h'.get? b = some o) → hp.objs.size ≤ dx → dx ≠ x → h'.get? x = some { cls := .ref C, dict := some dx, data := .fields fv } → h'.Ns1 dx (fun y => if y = name then some v else none) → R (.ok (.ret .none)) ⟨h', g, d, tk', os⟩) :
    codeAny (model prog w) A (.call (.builtin "object.__setattr__") ⟨[.ref x, .str name tk, v], []⟩) R ⟨hp, g, d, t, os⟩ := by
  have xne : x ≠ hp.objs.size := Nat.ne_of_lt (Heap.lt_size hx)
  have inst : InstAt hp x { cls := .ref C, data := .fields fv } C none := ⟨hx, rfl, rfl, trivial⟩
  refine osa_openX (s := ⟨hp, g, d, t, os⟩) F.store_Exception X inst ho ht fun b => ?_
  have lk : Looks (model prog w) hp (classData C) cd := looks_clsIn X hcd
  obtain ⟨nm, bs, mro, ns, qn, hd, sn, sub, ab, col, del⟩ := cd
  have hh : hd = true := hh
  subst hh
  dsimp only
  unfold storeInOwnDict ownDictForStores
  repeat (first | with_reducible refine HandSPX.store_in_new ?hn ?hs | with_reducible refine wpAny_loadPart_at hx ?_ | with_reducible refine lk.at ?_ | wp_step)
  case hn => exact ⟨_, #[], _, (Heap.get?_update_ne _ _ _ _ xne.symm).trans (Heap.get?_push_at rfl rfl), rfl, fun e he => absurd he (by simp), fun _ => rfl⟩
  case hs =>
    intro h' tk' hn' hs
    have x1 : (hp.push { cls := .type "dict", data := .dict #[] }).get? x = some { cls := .ref C, data := .fields fv } := Heap.get?_push_of_some _ hx
    refine hq h' tk' hp.objs.size (fun b o hb q => ?_) (Nat.le_refl _) xne.symm ((hs.2 x xne).trans (Heap.get?_update_self _ x1 rfl)) hn'
    exact (hs.2 b (Nat.ne_of_lt (Heap.lt_size q))).trans ((Heap.get?_update_ne _ _ _ _ hb).trans (Heap.get?_push_of_some _ q))
end
end FL

/-! FL23: such an error is made -/
namespace FL
open PySem PySem.Spec PyProof.Rows
/-- what __init__ leaves of a fresh error at x -/
structure XEnd (h h' : Heap) (x C dx t1 : Addr) (fld : Str) (v : Value) : Prop where
  keep : ∀ b o, b ≠ x → h.get? b = some o → h'.get? b = some o
  obj : h'.get? x = some { cls := .ref C, dict := some dx, data := .fields #[.ref t1, .none, .none, .none, .bool false, .none] }
  dbig : h.objs.size ≤ dx
  dne : dx ≠ x
  ns : h'.Ns1 dx (fun y => if y = fld then some v else none)
structure XMade (h h' : Heap) (e C d : Addr) (fld : Str) (v : Value) : Prop where
  keep : ∀ b o, h.get? b = some o → h'.get? b = some o
  new : h.objs.size ≤ e
  obj : ∃ oe vs, h'.get? e = some oe ∧ oe.cls = .ref C ∧ oe.dict = some d ∧ oe.data = .fields vs ∧ vs[1]? = some .none
  dbig : h.objs.size ≤ d
  dne : d ≠ e
  ns : h'.Ns1 d (fun y => if y = fld then some v else none)
section
open PySem.W PySem.Calls
variable {prog : Program} {w : World} {A : Around} {E : Value → Shared → Prop} {R : Result → Shared → Prop} {s : Shared} {K : Frag} {mg : Str → Option Value} {base : Heap} {x fld : Str} {C : Addr}
theorem x_init (T : XTxt prog K mg x fld C) (M : L2.Mod K mg base) {e t0 fI : Addr} {v : Value} (hI : findIn K (.ref C) "__init__" = some (some (.ref fI))) (bk : ∀ b o, base.get? b = some o → s.heap.get? b = some o) (hlim : s.heap.NoLimit) (he : s.heap.get? e = some (HandSPX.excO C t0)) (hne : K.lookup e = none) (hroom : A.depth < recursionLimit)
    (hq : ∀ h' tk dx t1, XEnd s.heap h' e C dx t1 fld v → R (.ok (.ret .none)) { s with heap := h', toks := tk }) : codeAny (model prog w) A (.call (.ref fI) ⟨[.ref e, v], []⟩) R s := by
  obtain ⟨fI', cc, cda, q, oc, od, doc, pm, ct, an, osl, p1, p2, r0, r1, r2, r3, r4, r5, q1, q2, q3, q4, ccl, cl, cdd, cld, ccs, csl, vs, file, tf, hI', hty, hf, hcd, hcell, hcode, hvs, hfile, hev, hbind⟩ := T.fn
  rw [hI] at hI'
  cases hI'
  obtain ⟨nm, qn, N, bs, bm, sn, sub, ab, col, dd, k0, k1, k2, k3, k5, hC, hbm⟩ := T.cls
  have X : K.In s.heap := fun a o h => bk a o (M.kin a o h)
  have hcl : clsIn K C = some { name := nm, bases := bs, mro := .ref C :: bm, ns := N, qualname := qn, hasDict := true, slotNames := sn, subclasses := sub, abstract := ab, collection := col, hasDel := false } := by unfold clsIn; rw [hC] <;> rfl
  refine ks_codeAny_call_defAt (binds := [("self", .ref e), (fld, v)]) hroom (X _ _ hf) rfl hlim (codeRec_of X hcd) rfl (hbind s _ _) (fun y hy => ?_) (fun y hy => ?_) (fun h1 hns k1' => ?_) rfl rfl rfl
  · have hy : y ∈ (xiS fld).names := hy
    simp only [xiS, List.mem_cons, List.not_mem_nil, or_false] at hy
    rcases hy with rfl | rfl | rfl | rfl <;> intro z <;> cases z
  · simp only [List.mem_cons, List.not_mem_nil, or_false] at hy
    rcases hy with rfl | rfl
    · rfl
    · exact T.kw
  · have X1 : K.In h1 := X.keeps k1'
    have self1 : ([(("self" : Str), Value.ref e), (fld, v)] : List (Str × Value)).reverse.lookup ("self" : Str) = some (.ref e) := by
      have z : (("self" : Str) == fld) = false := by simpa using fun y : ("self" : Str) = fld => T.ne y.symm
      simp [List.lookup, z]
    have fld1 : ([(("self" : Str), Value.ref e), (fld, v)] : List (Str × Value)).reverse.lookup fld = some v := by simp [List.lookup]
    obtain ⟨hp, g, d, t, os⟩ := s
    have bk1 : ∀ b o, base.get? b = some o → h1.get? b = some o := fun b o z => k1' b o (bk b o z)
    obtain ⟨mb, hb1, hb2⟩ := M.blt
    have he1 := k1' _ _ he
    obtain ⟨pl, hev⟩ := hev (callEnv (ksFn "__init__" q (xiA fld p1 p2) (xiB fld r0 r1 r2 r3 r4 r5 q1 q2 q3 q4) (xiS fld) .none .none doc pm an (.ref cda) ct cc) hp.objs.size fI)
    refine ks_wpAt_execs_cons (ks_wpAt_Expr_any (ks_wpAt_MethodCall ?_ hev))
    refine ks_wpAt_super_base (ar := { arg := "self", annotation := none, pos := p1 }) T.ks T.kc (by decide) rfl (X1 _ _ hf) rfl rfl rfl (X1 _ _ hcode) rfl hvs hfile T.top ?_
    refine ks_loadName_global rfl T.ks (loadGlobal_builtin (M.glob.keeps bk1) T.noS (hb1.keeps bk1) ((hb2 _ (by decide)).trans (by first | boot_by_name | rfl | kernel_rfl)) ⟨rfl, ?_⟩)
    refine wpAny_loadName_free rfl T.kc rfl ⟨_, X1 _ _ hcell, rfl⟩ ?_
    refine wpAny_loadName_local rfl rfl hns self1 ?_
    refine ks_wpAny_isType_cls (X1 _ _ hC) rfl ⟨rfl, ?_⟩
    refine ks_wpAny_call_super (X1 _ _ hC) rfl he1 rfl (fun c z => by cases z) (looks_mroIn X1 T.own) (fun h2 e2 k2 => ?_)
    have X2 : K.In h2 := X1.keeps k2
    have he2 := k2 _ _ he1
    have isE : Looks (model prog w) h2 (isInstance (.ref e) (.type "Exception")) true := (InstAt.type (⟨he2, rfl, rfl, trivial⟩ : InstAt h2 e (HandSPX.excO C t0) C none)).andThen (looks_subIn X2 T.exE)
    have hup : alongIn K "__init__" (((Value.ref C :: bm).dropWhile (· != .ref C)).drop 1) = some (some (.builtin "Exception.__init__")) := by
      have z := T.up
      unfold ks_superIn at z
      rw [hcl] at z
      exact z
    have eC : e ≠ C := fun z => by
      rw [z, hC] at hne
      cases hne
    refine ESX.getMethod_super e2 (looks_opaque X2 T.opq) (l₀ := .ref C :: bm) ((looks_clsIn X2 hcl).andThen .now) rfl X2 hup eC (by decide) isE ?_
    have mw : (h2.push (ESX.bw e)).get? h2.objs.size = some (ESX.bw e) := Heap.get?_push_at rfl rfl
    have k3 : ∀ b o, h1.get? b = some o → (h2.push (ESX.bw e)).get? b = some o := fun b o z => Heap.get?_push_of_some _ (k2 b o z)
    refine ESX.callWith_bound (x := e) (wpAny_items_cons (ESX.ldL (hns.keeps k3) fld1 (wpAny_items_nil ⟨mw, ?_⟩) rfl T.kw T.nf))
    refine ESX.call_bw (k3 _ _ (X1 _ _ hC)) (k3 _ _ he1) mw (by rw [sizeLine_eq]; exact (by decide : 1 ≤ 16777216)) fun h4 t1 k4 he4 => ?_
    have X4 : K.In h4 := fun a o z => k4 a o (fun y => by rw [y, hne] at z; cases z) (k3 _ _ (X1 a o z))
    have neL : hp.objs.size ≠ e := Nat.ne_of_gt (Heap.lt_size he)
    have hns4 : h4.Ns hp.objs.size (fun y => ([(("self" : Str), Value.ref e), (fld, v)] : List (Str × Value)).reverse.lookup y) := hns.at fun o z => k4 _ _ neL (k3 _ _ z)
    refine wpAt_of_wpAny (wpAny_execs_cons (plainObj_wpAny_Assign_Attribute (ESX.ldL hns4 fld1 (ESX.ldL hns4 self1 ?_ rfl rfl) rfl T.kw T.nf)))
    refine set_plain X4 (ox := HandSPX.excO C t1) (od := none) ⟨he4, rfl, rfl, trivial⟩ T.sa ?_
    refine osx X4 he4 hcl rfl T.ov T.tk fun h5 tk5 dx k5' dn dne hx5 hn5 => ?_
    show wpAny _ _ (execs [] _) _ _ _
    refine wpAny_execs_nil (hq h5 tk5 dx t1 ⟨fun b o hb z => k5' b o hb (k4 b o hb (k3 b o (k1' b o z))), hx5, Nat.le_of_lt (Nat.lt_of_lt_of_le hns4.lt dn), dne, hn5⟩)
theorem x_made (T : XTxt prog K mg x fld C) (M : L2.Mod K mg base) {v : Value} (bk : ∀ b o, base.get? b = some o → s.heap.get? b = some o) (hlim : s.heap.NoLimit) (hroom : A.depth + 1 < recursionLimit)
    (hq : ∀ h' tk e d, XMade s.heap h' e C d fld v → R (.ok (.ret (.ref e))) { s with heap := h', toks := tk }) : codeAny (model prog w) A (.call (.ref C) ⟨[v], []⟩) R s := by
  obtain ⟨fI, cc, cda, q, oc, od, doc, pm, ct, an, osl, p1, p2, r0, r1, r2, r3, r4, r5, q1, q2, q3, q4, ccl, cl, cdd, cld, ccs, csl, vs, file, tf, hI, hty, _⟩ := T.fn
  obtain ⟨nm, qn, N, bs, bm, sn, sub, ab, col, dd, k0, k1, k2, k3, k5, hC, hbm⟩ := T.cls
  have X : K.In s.heap := fun a o h => bk a o (M.kin a o h)
  obtain ⟨hp, g, dr, tk, os⟩ := s
  have k : ∀ b o, hp.get? b = some o → ((hp.push (kdv_tup [v])).push (HandSPX.excO C hp.objs.size)).get? b = some o := fun b o e => Heap.get?_push_of_some _ (Heap.get?_push_of_some _ e)
  have hget : ((hp.push (kdv_tup [v])).push (HandSPX.excO C hp.objs.size)).get? (hp.objs.size + 1) = some (HandSPX.excO C hp.objs.size) := by heap_get
  have hnx : K.lookup (hp.objs.size + 1) = none := by
    cases e : K.lookup (hp.objs.size + 1) with
    | none => rfl
    | some o => exact absurd (Nat.lt_of_succ_lt (Heap.lt_size (show hp.get? (hp.objs.size + 1) = some o from X _ _ e))) (Nat.lt_irrefl _)
  refine HandSPX.call_own F.excBase_Exception (fun Y => excTail_contains Y bm hbm) (X _ _ hC) (looks_findIn X hI) (fun self => bind_fn X self hty) (by rw [sizeLine_eq]; exact (by decide : 1 ≤ 16777216)) ?_
  refine x_init (s := ⟨(hp.push (kdv_tup [v])).push (HandSPX.excO C hp.objs.size), g, dr, tk, os⟩) T M hI (fun b o z => k b o (bk b o z)) (hlim.keeps k) hget hnx hroom fun h' tk' dx t1 en => ?_
  have old : ∀ b o, hp.get? b = some o → h'.get? b = some o := fun b o e => en.keep b o (Nat.ne_of_lt (Nat.lt_succ_of_lt (Heap.lt_size e))) (k b o e)
  have z : hp.objs.size + 1 + 1 ≤ dx := by
    first
      | (simpa only [Heap.size_push] using en.dbig)
      | exact en.dbig
      | (have q := en.dbig; rw [Heap.size_push, Heap.size_push] at q; exact q)
  exact ⟨rfl, hq h' tk' (hp.objs.size + 1) dx ⟨old, Nat.le_succ _, ⟨_, _, en.obj, rfl, rfl, rfl, rfl⟩, Nat.le_trans (Nat.le_trans (Nat.le_succ _) (Nat.le_succ _)) z, en.dne, en.ns⟩⟩
end
end FL

/-! FL24: raise C(e), try: .. except, defs that let errors out -/
namespace FL
open PySem PySem.Spec PyProof.Rows L2
theorem relO_x {fld : Str} {v : V} {v' : Value} (r : RelV v v') (f : Str) : RelO (List.lookup f [(fld, v)]) (if f = fld then some v' else none) := by
  by_cases hw : f = fld
  · subst hw
    rw [if_pos rfl, show List.lookup f [(f, v)] = some v by simp [List.lookup]]
    exact r
  · rw [if_neg hw, show List.lookup f [(fld, v)] = none by simp [List.lookup, show (f == fld) = false by simpa using hw]]
    trivial
section
variable {X : Cx} {C : Addr} {x fld : Str}
/-- C(e) -/
def tMkX (C : Addr) (fld : Str) (ta : TA) : L2.St → Hp → XK → Prop := fun σ H Q => ta σ H fun vs H1 => ∃ v, vs = [v] ∧ ∀ d, H1 d = none → Q (.ref C) (some d) (upd H1 d (.xd [(fld, v)]))
theorem pmk_x {a : Expr} {ta : TA} {p pos : Pos} {j : Nat} (T : XTxt X.prog X.K X.mg x fld C) (hr : Room j X.A) (hj : 1 ≤ j) (ha : PA X [a] ta) (hg : Gl X x) (hdb : (x == ("__debug__" : Str)) = false := by decide)
    (he : starEach (a :: []) X.env = (false, eval a X.env) :: starEach [] X.env := by rfl) (hpl : (backTo pos (starEach [] X.env)).any (·.1) = false := by rfl) : PMk X (.Call (.Name x p) [a] [] pos) (tMkX C fld ta) := by
  intro pins s σ H Q I h
  refine wpAny_Call_Name_kw (ld_glob I hg T.gC ?_ hdb)
  refine PySem.W.callWith_K (h₀ := X.base) I.ok.mod.kin T.kC (thn (ha.run pos pins s σ H _ I h) fun us s1 hh => ?_) he hpl
  obtain ⟨vs, H1, I1, r1, v, ev, q1⟩ := hh
  subst ev
  refine ⟨I1.kIn, ?_⟩
  cases r1 with
  | cons rv rn =>
    rename_i v' us'
    cases rn
    show wpAny _ _ (call (.ref C) [v']) _ _ _
    have hlim := I1.nolimit
    have hbk := I1.bk
    obtain ⟨hp, g, dr, tk, os⟩ := s1
    refine wpAny_call (x_made T I1.ok.mod hbk hlim (by have := hr.dp; omega) fun h' tk' e d M => ?_)
    show MkP X pins σ Q (.ref e) ⟨h', g, dr, tk', os⟩
    obtain ⟨oe, fv, hoe, hc, hd, hdat, h1⟩ := M.obj
    have hns := M.ns
    obtain ⟨G', g1, g2⟩ := restrict h' fun b => decide (b ≠ e)
    have gk : ∀ b, b ≠ e → G'.get? b = h'.get? b := fun b hb => g1 b (decide_eq_true hb)
    have ge : G'.get? e = none := g2 e (by simp)
    have old : ∀ b o, hp.get? b = some o → G'.get? b = some o := fun b o q => (gk b (Nat.ne_of_lt (Nat.lt_of_lt_of_le (Heap.lt_size q) M.new))).trans (M.keep b o q)
    have ob : ObjOk X.prog X.w (upd H1 d (.xd [(fld, v)])) G' d (.xd [(fld, v)]) := ⟨_, hns.at (fun o q => (gk d M.dne).trans q), fun f => relO_x rv f⟩
    have J : Inv X pins σ (upd H1 d (.xd [(fld, v)])) ⟨G', g, dr, tk', os⟩ := I1.laid (t' := tk') old M.dbig ob
    refine ⟨e, oe, fv, ⟨G', g, dr, tk', os⟩, _, .ref C, some d, rfl, J, fun b o q => ?_, ge, hoe, ⟨hc, hd⟩, hdat, h1, ?_, rfl, I1.bare, raises_own T.exC T.tyC, q1 d (I1.hok.fresh M.dbig)⟩
    · by_cases hb : b = e
      · have q' : G'.get? b = some o := q
        rw [hb, ge] at q'; cases q'
      · exact (gk b hb).symm.trans q
    · rw [upd_ne (Ne.symm M.dne)]
      exact I1.hok.fresh M.new
/-- e.f, e the error that the suite holds (at a; its class cls, its dict d) -/
def tXF (C : Addr) (fld : Str) (a : Addr) (cls : Value) (d : Option Addr) (te : TE) : TE := fun σ H Q => te σ H fun z H1 => z = .ref a ∧ cls = .ref C ∧ ∃ (dd : Addr) (v : V), d = some dd ∧ H1 dd = some (.xd [(fld, v)]) ∧ Q v H1
theorem pe_xf {a : Addr} {oe : Obj} {cls : Value} {d : Option Addr} {pn : List (Addr × Obj)} {e : Expr} {te : TE} {pos : Pos} (T : XTxt X.prog X.K X.mg x fld C) (hz : Zc cls d oe) (hf : ∃ vs, oe.data = .fields vs) (he : PE (X.suite a ((a, oe) :: pn)) e te)
    (hb : attributeBase e fld X.env (eval e X.env) = eval e X.env := by rfl) : PE (X.suite a ((a, oe) :: pn)) (.Attribute e fld pos) (tXF C fld a cls d te) := by
  refine ⟨fun pins s σ H Q I h => ?_⟩
  refine attr_of hb (thn (he.run pins s σ H _ I h) fun u s1 hh => ?_)
  obtain ⟨z, H1, I1, rx, ex, ec, dd, v, ed, ea, q⟩ := hh
  subst ex
  obtain rfl : u = Value.ref a := rx
  subst ec ed
  obtain ⟨ha, _⟩ := I1.pin (a, oe) (List.mem_append_left _ List.mem_cons_self)
  obtain ⟨vs, hd⟩ := hf
  have hx : ObjOk X.prog X.w H1 s1.heap dd (.xd [(fld, v)]) := I1.hok dd _ ea
  obtain ⟨mA, hns, hr⟩ := hx
  obtain ⟨od, ho, hl⟩ := lookIn_ns hns
  have l : List.lookup fld [(fld, v)] = some v := by simp [List.lookup]
  obtain ⟨u, hu, ru⟩ := RelO.some_of (v := v) (o := mA fld) (by rw [← l]; exact hr fld)
  have J : PySem.W.InstAt s1.heap a oe C (some od) := ⟨ha, hz.1, by unfold PySem.W.notCls; rw [hd] <;> rfl, by rw [hz.2]; exact ho⟩
  exact HandSPX.exc_get I1.kIn J T.ga T.gg T.exC (PySem.W.findObj_own T.hdC T.noN rfl (by rw [hl, hu])) (handed_of ru) ⟨v, H1, I1.tok _, ru, q⟩
end
/-! ### over trees -/
section
variable {X : Cx} {k : Kx} {E : XE} {C : Addr} {x fld : Str}
/-- a class's wishes taken -/
abbrev WXof (E : XE) : WX := fun cls d σ H => E σ cls d H
def mRaise (C : Addr) (fld : Str) (me : EM) : SM := fun Γ => sE (me Γ) Γ fun d => pure (.xc C [(fld, d)] Γ)
theorem s_raise {a : Expr} {me : EM} {p pos pos2 : Pos} {j : Nat} (hc : X.calm = true) (tk : Takes X (WXof E)) (T : XTxt X.prog X.K X.mg x fld C) (hr : Room j X.A) (hj : 1 ≤ j) (ha : PE X a (tM k E me)) (hg : Gl X x) (hdb : (x == ("__debug__" : Str)) = false := by decide)
    (he : starEach (a :: []) X.env = (false, eval a X.env) :: starEach [] X.env := by rfl) (hpl : (backTo pos (starEach [] X.env)).any (·.1) = false := by rfl) : PS X (.Raise (some (.Call (.Name x p) [a] [] pos)) none pos2) (tS k E (mRaise C fld me)) :=
  PS.weak (ps_raise hc tk (pmk_x T hr hj (pa_cons ha pa_nil he) hg hdb he hpl)) fun D σ H ⟨G, H0, P, F, Γ, st, ok, w⟩ => tM.inS ok w fun v d F1 H1 st1 s1 ok1 r1 w1 => by
    refine ⟨v, rfl, fun da nd => ?_⟩
    have s2 := ok1.ok.new' (ob := .xd [(fld, v)]) nd
    exact w1 σ F1 _ da _ (ok1.step s2) upd_same ⟨rfl, .cons r1 .nil⟩
/-- what leaves a def -/
def fnX (np n : Nat) (mb : SM) : List D → M D := fun ds st => if ds.length = np then (match mb (startE n ds) st with
    | .ok (.nx _) st' => .ok .non st'
    | .ok (.rt d) st' => .ok d st'
    | .ok (.xc C fs _) st' => .err C fs st'
    | _ => .stuck) else .stuck
theorem ok_defX {P : Program} {w : World} {K : PySem.W.Frag} {T : List (Addr × Str)} {mg : Str → Option Value} {base : Heap} {x qual : Str} {st : Stmt} {f : Addr} {fd : FuncData} {N ps : List Str} {j : Nat} {mb : SM} (Fn : Fun K x qual st f fd) (S : FnScope N ps (defScope st))
    (hb : ∀ (cdv : Value) (A : Around) (outer : List Env) (s : Shared) (H : Hp) (E : XK) (on : Bool) (dl cl : Addr) (B : Hp), Room j (A.deeper (envOfC qual (defScope st) s.heap.objs.size f cdv)) → (A.deeper (envOfC qual (defScope st) s.heap.objs.size f cdv)).guards = some [] →
      PSs (cxOf (L2.CX P w) P w K mg base N qual (defScope st) f cdv A outer s H E) (defBody st) (tS ⟨K, on, dl, cl, B, T⟩ (fun _ => E) mb)) : FnG P w K T mg base (j + 1) f fd ps (fnX ps.length N.length mb) := by
  have len : ∀ ds st, ds.length ≠ ps.length → fnX ps.length N.length mb ds st = .stuck := fun ds st e => by unfold fnX; rw [if_neg e]
  refine ⟨len, go_def Fn S (fun _ _ _ _ => spM.len len) fun cdv A outs s H vs Q E hcd hr gd ⟨on, dl, cl, B, F, ds, st0, ok, r, h⟩ => ⟨_, hb cdv A outs s H E on dl cl B hr gd, ?_⟩⟩
  unfold fnX at h
  split at h
  · rename_i el
    refine ⟨F, H, F, F, startE N.length ds, st0, start_ok (ps := ps) ok r (by rw [el]; exact scope_len S), ?_⟩
    revert h
    cases mb (startE N.length ds) st0 with
    | ok r' st' =>
      cases r' with
      | nx Γ' => exact fun h σ' F' H' o => h F' H' o.toStep _ .non
      | rt d => exact fun h v F' H' s rv => h F' H' s v rv
      | bk Γ' => exact fun h => h.elim
      | ct Γ' => exact fun h => h.elim
      | xc C fs Γ' => exact fun h σ' F' H' da vs o e q => h F' H' da vs o.toStep e q
    | err C fs st' => exact fun h => h.elim
    | stuck => exact fun h => h.elim
  · exact h.elim
/-- a call that may let an error out -/
theorem sp_useX (hk : k.K = X.K) {F H : Hp} {σ : L2.St} {Γ : Ev} {st : DS} {vs : List V} {ds : List D} {Q : VK} {g : List D → M D} (ok : Ok k F H σ Γ st) (r : Reps k F vs ds) (w : Wp k E σ F H (g ds st) (qD k Q)) : spM X.K k.T g vs H Q (E σ) := by
  obtain ⟨K', on, dl, cl, B, T⟩ := k
  have hk : K' = X.K := hk
  subst hk
  refine ⟨on, dl, cl, B, F, ds, st, ok.bare, r, ?_⟩
  revert w
  cases g ds st with
  | ok a st' => exact fun w => w
  | err C fs st' => exact fun w => w
  | stuck => exact fun w => w
variable {e : Expr} {es : List Expr} {mr mk : Ev → M (List D)} {pos p : Pos} {j : Nat} {f : Addr} {fd : FuncData} {ps : List Str} {g : List D → M D}
theorem e_callX (tk : Takes X (WXof E)) (Fn : FnG X.prog X.w X.K k.T X.mg X.base j f fd ps g) (hr : Room j X.A) (gd : X.A.guards = some []) (hg : Gl X x) (hm : X.mg x = some (.ref f)) (hk : PySem.W.keepIn X.K (.ref f) = true) (hb : Binds X.K fd ps [])
    (ha : PA X (e :: es) (tA k E mr)) (hK : k.K = X.K := by rfl) (hdb : (x == ("__debug__" : Str)) = false := by decide) (he : starEach (e :: es) X.env = (false, eval e X.env) :: starEach es X.env := by rfl) (hpl : (backTo pos (starEach es X.env)).any (·.1) = false := by rfl) :
    PE X (.Call (.Name x p) (e :: es) [] pos) (tM k E (mCall g mr)) :=
  PE.weak (pe_fn Fn hr gd hg hm hk hb (E' := E) (fun σ => passAt tk σ) ha hdb he hpl) fun σ H Q ⟨F, Γ, st, ok, w⟩ => tA.then_ ok w fun vs ds F1 H1 st1 s ok1 r1 w1 => sp_useX hK ok1 r1 w1
theorem e_callKX {kws : List Keyword} {ks : List Str} {π : List Nat} (tk : Takes X (WXof E)) (Fn : FnG X.prog X.w X.K k.T X.mg X.base j f fd ps g) (hr : Room j X.A) (gd : X.A.guards = some []) (hg : Gl X x) (hm : X.mg x = some (.ref f)) (hk : PySem.W.keepIn X.K (.ref f) = true)
    (hb : KBinds X.K fd ps ks (fun us ws => if us = [] then FL.pick π ws else []) (fun vs zs => if vs = [] then FL.pick π zs else [])) (hkw : PK X kws (tA k E mk)) (hK : k.K = X.K := by rfl) (hall : (backToKw pos (keywordEach kws X.env)).all (·.1.isSome) = true := by rfl) (hks : (backToKw pos (keywordEach kws X.env)).filterMap (·.1) = ks := by rfl)
    (hdb : (x == ("__debug__" : Str)) = false := by decide) (hpl : ((backTo pos (starEach [] X.env)).any (·.1) || (backToKw pos (keywordEach kws X.env)).any (·.1.isNone)) = false := by rfl) :
    PE X (.Call (.Name x p) [] kws pos) (tM k E (mCall (fun ds => g (FL.pick π ds)) mk)) := ⟨fun pins s σ H Q I ⟨F, Γ, st, ok, w⟩ =>
  wpAny_Call_Name_kw (ld_glob I hg hm (PySem.W.callWith_KW0 (h₀ := X.base) I.ok.mod.kin hk hall (thn (hkw.run pos pins s σ H (fun vs H1 => spM X.K k.T g (FL.pick π vs) H1 Q (E σ)) I (tA.then_ ok w fun vs ds F1 H1 st1 s ok1 r1 w1 => sp_useX (vs := FL.pick π vs) hK ok1 (r1.pick π) w1)) fun ws s2 ⟨zs, H2, I2, rz, q2⟩ =>
    ⟨I2.kIn, by
      rw [hks]
      have rp : Vals (FL.pick π zs) (FL.pick π ws) := Vals.pick rz π
      have hl : (FL.pick π ws).length = ps.length := by rw [← rp.length]; exact spM.len Fn.len q2
      exact go_fn (args := ⟨[], ks.zip ws⟩) Fn hr gd (passAt tk σ) I2 rp (hb.to s2 [] ws I2.kIn (by rw [if_pos rfl]; exact hl)) q2⟩) hpl) hdb)⟩
end
end FL

/-! FL25: try: .. except -/
namespace FL
open PySem PySem.Spec PyProof.Rows L2
section
variable {X : Cx} {k : Kx} {E : XE} {C : Addr} {x fld : Str}
/-- which classes a clause takes -/
def Catch (K : PySem.W.Frag) (c : Value) (cat : Addr → Option Bool) : Prop := ∀ C b, cat C = some b → PySem.W.exmOne K (.ref C) c = some b
def mTryFld (mb : SM) (cat : Addr → Option Bool) (C0 : Addr) (fld : Str) (i : Nat) : SM := fun Γ st => match mb Γ st with
  | .ok (.xc C fs Γ') st' => (match cat C with
    | some true => (match fs with
      | [(f, d)] => if C = C0 ∧ f = fld ∧ i < Γ'.length then .ok (.rt d) st' else .stuck
      | _ => .stuck)
    | some false => .ok (.xc C fs Γ') st'
    | none => .stuck)
  | o => o
theorem repX_one {F : Hp} {vs : List (Str × V)} {f : Str} {d : D} (r : RepX k F vs [(f, d)]) : ∃ v, vs = [(f, v)] ∧ Rep k F v d := by
  obtain ⟨e, r⟩ := r
  match vs, e, r with
  | [(g, v)], e, .cons h .nil =>
    have : g = f := by simpa using e
    subst this
    exact ⟨v, rfl, h⟩
/-- try: .. except c as n: return n.fld -/
theorem s_tryFld {i : Nat} {n cn : Str} {body : List Stmt} {mb : SM} {np p1 p2 p3 pos pos' : Pos} {c : Value} {cat : Addr → Option Bool} (hs : X.stack = X.env :: X.outer) (hf : X.env.frame = some X.env.locals) (hN : X.N.Nodup) (hln : X.env.kindOf n = some .local) (hc : Names X cn c) (tk : Takes X (WXof E))
    (T : XTxt X.prog X.K X.mg x fld C) (ct : Catch X.K c cat) (hb : ∀ (W : WX) (pn : List (Addr × Obj)) (xe : Value → Shared → Prop), Takes (X.tr pn xe) W → PassesOwn (model X.prog X.w) X.A X.env xe → PSs (X.tr pn xe) body (tS k (WE W) mb))
    (hi : X.N[i]? = some n := by rfl) (hbase : attributeBase (.Name n p1) fld X.env (eval (.Name n p1) X.env) = eval (.Name n p1) X.env := by rfl)
    (hv : Vis X.env.scope n := by first | exact Or.inl rfl | exact Or.inr (Or.inl rfl) | exact Or.inr (Or.inr rfl)) (hd : (n == ("__debug__" : Str)) = false := by decide) (hcd : (n == ("__classdict__" : Str)) = false := by decide) :
    PS X (.Try body [.ExceptHandler (some (.Name cn np)) (some n) [.Return (some (.Attribute (.Name n p1) fld p2)) p3] pos'] [] [] pos) (tS k E (mTryFld mb cat C fld i)) :=
  PS.weak (ps_try_as (i := i) (tb := fun W => tS k (WE W) mb) (ts := fun a cls d => tRet (tXF C fld a cls d (tVar i))) (Wout := WXof E) hs hf hN hi hln hc tk hb
    (fun a oe cls d pn hz hfl => pss_one (ps_ret (pe_xf T hz hfl (pv (X := X.suite a ((a, oe) :: pn)) i hi hv hd hcd) hbase)))) fun D σ H ⟨G, H0, P, F, Γ, st, ok, w⟩ => by
    refine ⟨G, H0, P, F, Γ, st, ok, ?_⟩
    unfold mTryFld at w
    revert w
    cases mb Γ st with
    | ok r st' =>
      cases r with
      | nx Γ' => exact fun w => w
      | rt d => exact fun w => w
      | bk Γ' => exact fun w => w
      | ct Γ' => exact fun w => w
      | xc C' fs Γ' =>
        intro w σ' F' H' da vs o e q
        dsimp only at w
        split at w
        · rename_i hcat
          split at w
          · rename_i f d
            split at w
            · rename_i hh
              obtain ⟨hC, hf, hi'⟩ := hh
              subst hC hf
              obtain ⟨v, rfl, rv⟩ := repX_one q
              refine ⟨true, ct _ _ hcat, fun _ a na => ?_, fun z => by cases z⟩
              have hlt : i < σ'.length := by rw [o.ok.len]; exact hi'
              refine ⟨.ref a, by rw [List.getElem?_set_self hlt], rfl, rfl, da, v, rfl, e, ?_⟩
              exact w v F' H' o.toStep rv
            · exact w.elim
          · exact w.elim
        · rename_i hcat
          exact ⟨false, ct _ _ hcat, fun z => (by cases z), fun _ => w σ' F' H' da vs o e q⟩
        · exact w.elim
    | err C fs st' => exact fun w => w.elim
    | stuck => exact fun w => w.elim
/-- try: .. except c: suite -/
def mTryOnly (mb ms : SM) (cat : Addr → Option Bool) : SM := fun Γ st => match mb Γ st with
  | .ok (.xc C fs Γ') st' => (match cat C with
    | some true => (match ms Γ' st' with
      | .ok (.xc _ _ _) _ => .stuck
      | o => o)
    | some false => .ok (.xc C fs Γ') st'
    | none => .stuck)
  | o => o
theorem s_tryOnly {cn : Str} {body suite : List Stmt} {b0 : Stmt} {mb ms : SM} {np pos pos' : Pos} {c : Value} {cat : Addr → Option Bool} (hs : X.stack = X.env :: X.outer) (hf : X.env.frame = some X.env.locals) (hc : Names X cn c) (tk : Takes X (WXof E))
    (ct : Catch X.K c cat) (hb : ∀ (W : WX) (pn : List (Addr × Obj)) (xe : Value → Shared → Prop), Takes (X.tr pn xe) W → PassesOwn (model X.prog X.w) X.A X.env xe → PSs (X.tr pn xe) body (tS k (WE W) mb))
    (hsu : ∀ (a : Addr) (oe : Obj) (pn : List (Addr × Obj)), PSs (X.suite a ((a, oe) :: pn)) (b0 :: suite) (tS k EF ms)) :
    PS X (.Try body [.ExceptHandler (some (.Name cn np)) none (b0 :: suite) pos'] [] [] pos) (tS k E (mTryOnly mb ms cat)) :=
  PS.weak (ps_try_only (tb := fun W => tS k (WE W) mb) (ts := fun a cls d => tS k EF ms) (Wout := WXof E) hs hf hc tk hb (fun a oe cls d pn hz hfl => hsu a oe pn)) fun D σ H ⟨G, H0, P, F, Γ, st, ok, w⟩ => by
    refine ⟨G, H0, P, F, Γ, st, ok, ?_⟩
    unfold mTryOnly at w
    revert w
    cases mb Γ st with
    | ok r st' =>
      cases r with
      | nx Γ' => exact fun w => w
      | rt d => exact fun w => w
      | bk Γ' => exact fun w => w
      | ct Γ' => exact fun w => w
      | xc C' fs Γ' =>
        intro w σ' F' H' da vs o e q
        dsimp only at w
        split at w
        · rename_i hcat
          refine ⟨true, ct _ _ hcat, fun _ a na => ⟨G, H0, P, F', Γ', st', o, ?_⟩, fun z => by cases z⟩
          revert w
          cases ms Γ' st' with
          | ok r2 st2 =>
            cases r2 with
            | nx _ => exact fun w => w
            | rt _ => exact fun w => w
            | bk _ => exact fun w => w
            | ct _ => exact fun w => w
            | xc _ _ _ => exact fun w => w.elim
          | err _ _ _ => exact fun w => w.elim
          | stuck => exact fun w => w.elim
        · rename_i hcat
          exact ⟨false, ct _ _ hcat, fun z => (by cases z), fun _ => w σ' F' H' da vs o e q⟩
        · exact w.elim
    | err C fs st' => exact fun w => w.elim
    | stuck => exact fun w => w.elim
end
end FL

/-! FL26: what the top has laid of an error's class -/
namespace FL
open PySem PySem.Spec PyProof.Rows L2
theorem exm_own {K : PySem.W.Frag} {S B : Addr} (h1 : PySem.W.subIn K (.ref S) (.type "BaseException") = some true) (h2 : PySem.W.isClsIn K S = true) (h3 : PySem.W.typeIn K (.ref S) = some (.type "type")) (h4 : PySem.W.subIn K (.ref B) (.ref S) = some true) : PySem.W.exmOne K (.ref B) (.ref S) = some true := by
  have e1 : (PySem.W.subIn K (.ref S) (.type "BaseException") == some true) = true := by rw [h1] <;> rfl
  have e2 : ((PySem.W.clsIn K S).isSome && PySem.W.typeIn K (.ref S) == some (.type "type")) = true := by
    have q : (PySem.W.clsIn K S).isSome = true := h2
    rw [q, h3] <;> rfl
  show (if (PySem.W.subIn K (.ref S) (.type "BaseException") == some true) = true then (if ((PySem.W.clsIn K S).isSome && PySem.W.typeIn K (.ref S) == some (.type "type")) = true then PySem.W.subIn K (.ref B) (.ref S) else none) else none) = some true
  rw [if_pos e1, if_pos e2]
  exact h4
theorem catch_nil {K : PySem.W.Frag} {c : Value} : Catch K c (fun _ => none) := fun C b h => by cases h
theorem catch_cons {K : PySem.W.Frag} {c : Value} {cat : Addr → Option Bool} {C0 : Addr} (h : PySem.W.exmOne K (.ref C0) c = some true) (t : Catch K c cat) : Catch K c (fun C => if C = C0 then some true else cat C) := fun C b e => by
  by_cases z : C = C0
  · subst z
    have e : (if C = C then some true else cat C) = some b := e
    rw [if_pos rfl] at e
    cases e
    exact h
  · have e : (if C = C0 then some true else cat C) = some b := e
    rw [if_neg z] at e
    exact t C b e
theorem xtxt_mk {prog : Program} {K : PySem.W.Frag} {h : Heap} {mg : Str → Option Value} {x fld q nm qn : Str} {C fI cc cda N : Addr} {bs bm : List Value} {sn : List Str} {sub : List Value} {ab : Bool} {col : Option Bool} {dd : Option Addr} {m0 m1 m2 m3 m5 : Option Value} {od an : Option Addr} {osl : Array (Option Value)} {oc doc pm ct : Value}
    {p1 p2 r0 r1 r2 r3 r4 r5 q1 q2 q3 q4 : Pos} {ccl cl : Value} {cdd cld : Option Addr} {ccs csl : Array (Option Value)} {vs : Array Value} {file : Str} {tf : Tok}
    (X : K.In h) (G : h.Ns mainGlobals mg)
    (aC : PySem.W.nsIn K mainGlobals x = some (some (.ref C)))
    (xL : K.lookup C = some (excClassObj nm qn C N bs bm true sn sub ab col dd m0 m1 m2 m3 m5 "Exception.__new__")) (bT : PySem.W.excTail exB bm = true)
    (ov : PySem.W.excOver K C exB = true) (sa : PySem.W.findIn K (.ref C) "__setattr__" = some (some (.builtin "object.__setattr__"))) (ga : PySem.W.findIn K (.ref C) "__getattribute__" = some (some (.builtin "BaseException.__getattribute__"))) (gg : PySem.W.findIn K (.ref C) "__getattr__" = some none) (nb : PySem.W.findIn K (.ref C) fld = some none)
    (kC : PySem.W.keepIn K (.ref C) = true) (eC : PySem.W.subIn K (.ref C) (.type "BaseException") = some true) (eE : PySem.W.subIn K (.ref C) (.type "Exception") = some true) (ow : PySem.W.mroIn K C (.ref C) = some true) (tC : PySem.W.typeIn K (.ref C) = some (.type "type")) (hC : PySem.W.hasDictIn K C = true)
    (up : PySem.W.ks_superIn K C C "__init__" = some (some (.builtin "Exception.__init__"))) (opq : PySem.W.nsIn K PySem.cStatics "thirdparty.any" = some none) (z : PySem.W.nsIn K mainGlobals "super" = some none) (top : (prog.main.scope.names.lookup ("super" : Str)).isSome = false)
    (kw : (xiS fld).names.lookup fld = some .local) (kc : (xiS fld).names.lookup ("__class__" : Str) = some .free) (ks : (xiS fld).names.lookup ("super" : Str) = some .globalImplicit) (nf : (fld == ("__debug__" : Str)) = false) (ne : fld ≠ "self")
    (a1 : PySem.W.findIn K (.ref C) "__init__" = some (some (.ref fI))) (t1 : PySem.W.typeIn K (.ref fI) = some (.type "function"))
    (l1 : K.lookup fI = some ⟨oc, od, .func (PySem.W.ksFn "__init__" q (xiA fld p1 p2) (xiB fld r0 r1 r2 r3 r4 r5 q1 q2 q3 q4) (xiS fld) .none .none doc pm an (.ref cda) ct cc), osl⟩) (c1 : PySem.W.codeIn K (.ref cda) q = true)
    (lc : K.lookup cc = some ⟨cl, cld, .cell (some (.ref C)), csl⟩) (ld : K.lookup cda = some ⟨ccl, cdd, .fields vs, ccs⟩) (hvs : vs[2]? = some (.str file tf)) (hfile : ((prog.main.file : Str) == file) = true)
    (hev : ∀ env : Env, ∃ pl : Sem Bool, eval (.Call (.Attribute (.Call (.Name "super" r0) [] [] r1) "__init__" r2) [.Name fld r3] [] r4) env = (do
      let ov ← attributeBase (.Call (.Name "super" r0) [] [] r1) "__init__" env (eval (.Call (.Name "super" r0) [] [] r1) env)
      standAt r2.atName
      let (f, first) ← holding [ov] (getMethod ov "__init__" pl)
      callWith r4 f first (backTo r4 (starEach [.Name fld r3] env)) []))
    (hbind : ∀ (s : Shared) (a b : Value), BindsTo s (PySem.W.ksFn "__init__" q (xiA fld p1 p2) (xiB fld r0 r1 r2 r3 r4 r5 q1 q2 q3 q4) (xiS fld) .none .none doc pm an (.ref cda) ct cc) ⟨[a, b], []⟩ [("self", a), (fld, b)]) : XTxt prog K mg x fld C where
  gC := PySem.W.mg_of X G aC
  cls := ⟨nm, qn, N, bs, bm, sn, sub, ab, col, dd, m0, m1, m2, m3, m5, xL, bT⟩
  ov := ov
  sa := sa
  ga := ga
  gg := gg
  noN := nb
  tk := by unfold PySem.W.takerIn; rw [nb]; rfl
  kC := kC
  exC := eC
  exE := eE
  own := ow
  tyC := tC
  hdC := hC
  up := up
  opq := opq
  noS := PySem.W.mg_none_of X G z
  top := top
  kw := kw
  kc := kc
  ks := ks
  nf := nf
  ne := ne
  fn := ⟨fI, cc, cda, q, oc, od, doc, pm, ct, an, osl, p1, p2, r0, r1, r2, r3, r4, r5, q1, q2, q3, q4, ccl, cl, cdd, cld, ccs, csl, vs, file, tf, a1, t1, l1, c1, lc, ld, hvs, hfile, hev, hbind⟩
end FL

/-! FL27: more of the calculus of mirrors -/
namespace FL
open PySem L2
theorem gZip_map {α β : Type} (f : α → D) (g : β → D) (xs : List α) (ys : List β) (st : DS) : gZip [.tup (xs.map f), .tup (ys.map g)] st = .ok ((xs.zip ys).map fun p => .tup [f p.1, g p.2]) st := by
  show Out.ok (zipD _ _) st = _
  rw [zipD_map]
theorem sum_at {α : Type} {f : α → Int} {us : List α} {st : DS} : gSum [.lst (us.map fun u => D.int (f u))] st = .ok (.int (us.map f).sum) st := by
  have : us.map (fun u => D.int (f u)) = (us.map f).map D.int := by rw [List.map_map]; rfl
  rw [this, gSum_lst]
theorem all_at {α : Type} {f : α → Bool} {us : List α} {st : DS} : gAll [.lst (us.map fun u => D.bl (f u))] st = .ok (.bl (us.all f)) st := by
  have : us.map (fun u => D.bl (f u)) = (us.map f).map D.bl := by rw [List.map_map]; rfl
  rw [this, gAll_lst, List.all_map]
  rfl
theorem zip_range {α β γ : Type} (T : List α) (p : List β) (a : α) (b : β) (f : α → β → γ) (hl : T.length = p.length) : (List.range T.length).map (fun i => f (T.getD i a) (p.getD i b)) = (T.zip p).map fun u => f u.1 u.2 := by
  apply List.ext_getElem
  · simp [hl]
  · intro i h1 h2
    simp at h1 h2
    simp [List.getD_eq_getElem?_getD, List.getElem?_eq_getElem h1, List.getElem?_eq_getElem (show i < p.length by omega)]
theorem map_int {α : Type} {f : α → Int} {us : List α} : us.map (fun u => D.int (f u)) = (us.map f).map D.int := by rw [List.map_map]; rfl
theorem mSeq_at {m m2 : SM} {Γ Γ' : Ev} {st st' : DS} {o : Out Fl} (h : m Γ st = .ok (.nx Γ') st') (h2 : m2 Γ' st' = o) : mSeq m m2 Γ st = o := (mSeq_nx h).trans h2
theorem asg_at {m : EM} {g : GM} {Γ Γ' : Ev} {st st' : DS} {d : D} (h : m Γ st = .ok d st') (hg : g d Γ = some Γ') : mAsg m g Γ st = .ok (.nx Γ') st' := by
  unfold mAsg
  rw [sE_ok h]
  rw [hg]
  rfl
theorem mSeq_two {a b c : SM} {Γ Γ' : Ev} {st st' : DS} (h : mSeq a b Γ st = .ok (.nx Γ') st') : mSeq a (mSeq b c) Γ st = c Γ' st' := by
  show (a Γ st).bind (kSeq (mSeq b c)) = _
  have h : (a Γ st).bind (kSeq b) = _ := h
  revert h
  cases a Γ st with
  | ok fl st1 =>
    cases fl with
    | nx Γ1 => exact fun h => mSeq_nx h
    | _ => intro h; cases h
  | err C fs st1 => intro h; cases h
  | stuck => intro h; cases h
theorem cut_tail {α : Type} (x : α) (xs : List α) : cutA (x :: xs) (some 1) none = xs := by
  have e1 : HT.sIx (x :: xs).length 0 (some 1) = 1 := by
    have := HT.sIx_nat (x :: xs).length 0 1
    rw [List.length_cons] at this ⊢
    exact this.trans (by omega)
  unfold cutA
  rw [e1, HT.sIx_none]
  show List.take ((x :: xs).length - 1) xs = xs
  simp
theorem sl_tail {m : EM} {Γ : Ev} {st st' : DS} {x : D} {xs : List D} (h : m Γ st = .ok (.lst (x :: xs)) st') : mSl m (mSomeP (mC (.int 1))) mNoP Γ st = .ok (.lst xs) st' := by
  have e : mSl m (mSomeP (mC (.int 1))) mNoP Γ st = (m Γ st).bind fun d st => gSl d (some 1) none st := rfl
  rw [e, h]
  show Out.ok (D.lst (cutA (x :: xs) (some 1) none)) st' = _
  rw [cut_tail]
theorem sl_tailT {m : EM} {Γ : Ev} {st st' : DS} {x : D} {xs : List D} (h : m Γ st = .ok (.tup (x :: xs)) st') : mSl m (mSomeP (mC (.int 1))) mNoP Γ st = .ok (.tup xs) st' := by
  have e : mSl m (mSomeP (mC (.int 1))) mNoP Γ st = (m Γ st).bind fun d st => gSl d (some 1) none st := rfl
  rw [e, h]
  show Out.ok (D.tup (cutA (x :: xs) (some 1) none)) st' = _
  rw [cut_tail]
theorem gNe_at {d e : D} {b : Bool} {st : DS} (h : eqOk d e = true ∧ (!eqD d e) = b) : gNe d e st = .ok (.bl b) st := by
  unfold gNe
  rw [if_pos h.1, h.2]
theorem sum_le {α : Type} {f g : α → Int} : ∀ {us : List α}, (∀ u ∈ us, f u ≤ g u) → (us.map f).sum ≤ (us.map g).sum
  | [], _ => by simp
  | u :: us, h => by
    have := sum_le (us := us) fun x hx => h x (List.mem_cons_of_mem _ hx)
    have := h u List.mem_cons_self
    simp only [List.map_cons, List.sum_cons]
    omega
theorem sum_nn {α : Type} {f : α → Int} {us : List α} (h : ∀ u ∈ us, 0 ≤ f u) : 0 ≤ (us.map f).sum := by
  have q := sum_le (f := fun _ => 0) h
  have z : ∀ vs : List α, (vs.map fun _ => (0 : Int)).sum = 0 := fun vs => by induction vs <;> simp_all
  rw [z] at q
  exact q
theorem sum_mem {α : Type} {f : α → Int} : ∀ {us : List α} {u : α}, u ∈ us → (∀ u ∈ us, 0 ≤ f u) → f u ≤ (us.map f).sum
  | v :: us, u, hu, h => by
    have q := sum_nn fun x hx => h x (List.mem_cons_of_mem v hx)
    simp only [List.map_cons, List.sum_cons]
    rcases List.mem_cons.mp hu with rfl | hu
    · omega
    · have := sum_mem hu fun x hx => h x (List.mem_cons_of_mem v hx)
      have := h v List.mem_cons_self
      omega
theorem sum_add {α : Type} {f g : α → Int} : ∀ {us : List α}, (us.map fun u => f u + g u).sum = (us.map f).sum + (us.map g).sum
  | [] => by simp
  | u :: us => by
    have := sum_add (f := f) (g := g) (us := us)
    simp only [List.map_cons, List.sum_cons]
    omega
theorem sum_0 {α : Type} : ∀ vs : List α, (vs.map fun _ => (0 : Int)).sum = 0
  | [] => rfl
  | v :: vs => by rw [List.map_cons, List.sum_cons, sum_0 vs]; rfl
theorem sum_swap {α β : Type} {f : α → β → Int} : ∀ {us : List α} {vs : List β}, (us.map fun u => (vs.map fun v => f u v).sum).sum = (vs.map fun v => (us.map fun u => f u v).sum).sum
  | [], vs => (sum_0 vs).symm
  | u :: us, vs => by
    have := sum_swap (f := f) (us := us) (vs := vs)
    simp only [List.map_cons, List.sum_cons]
    rw [this, ← sum_add]
theorem mAnd_t {ma mb : EM} {Γ : Ev} {s0 s1 : DS} {o : Out D} (h : ma Γ s0 = .ok (.bl true) s1) (h2 : mb Γ s1 = o) : mAnd ma mb Γ s0 = o := by
  show (ma Γ s0).bind _ = _
  rw [h]
  exact h2
theorem mAnd_f {ma mb : EM} {Γ : Ev} {s0 s1 : DS} (h : ma Γ s0 = .ok (.bl false) s1) : mAnd ma mb Γ s0 = .ok (.bl false) s1 := by
  show (ma Γ s0).bind _ = _
  rw [h]
  rfl
theorem tests_t {t : Ev → M Bool} {m m2 : SM} {Γ : Ev} {st s1 : DS} {o : Out Fl} (h : t Γ st = .ok true s1) (h2 : m Γ s1 = o) : mIfS t m m2 Γ st = o := by
  unfold mIfS
  rw [sE_ok h]
  exact h2
theorem tests_f {t : Ev → M Bool} {m m2 : SM} {Γ : Ev} {st s1 : DS} {o : Out Fl} (h : t Γ st = .ok false s1) (h2 : m2 Γ s1 = o) : mIfS t m m2 Γ st = o := by
  unfold mIfS
  rw [sE_ok h]
  exact h2
theorem or_t {ta tb : Ev → M Bool} {Γ : Ev} {s0 s1 : DS} (h : ta Γ s0 = .ok true s1) : mOrT ta tb Γ s0 = .ok true s1 := by
  show (ta Γ s0).bind _ = _
  rw [h]
  rfl
theorem or_f {ta tb : Ev → M Bool} {Γ : Ev} {s0 s1 : DS} {o : Out Bool} (h : ta Γ s0 = .ok false s1) (h2 : tb Γ s1 = o) : mOrT ta tb Γ s0 = o := by
  show (ta Γ s0).bind _ = _
  rw [h]
  exact h2
theorem not_at {ta : Ev → M Bool} {Γ : Ev} {s0 s1 : DS} {b : Bool} (h : ta Γ s0 = .ok b s1) : mNotT ta Γ s0 = .ok (!b) s1 := by
  show (ta Γ s0).bind _ = _
  rw [h]
  rfl
theorem len_tup {xs : List D} {st : DS} : gLen [.tup xs] st = .ok (.int (xs.length : Nat)) st := rfl
theorem eq_int {a b : Int} {st : DS} : gEq (.int a) (.int b) st = .ok (.bl (a == b)) st := by
  unfold gEq
  rw [if_pos (show eqOk (.int a) (.int b) = true from rfl)]
  rfl
theorem ne_int {a b : Int} {st : DS} : gNe (.int a) (.int b) st = .ok (.bl (!(a == b))) st := by
  unfold gNe
  rw [if_pos (show eqOk (.int a) (.int b) = true from rfl)]
  rfl
theorem mFor_at {mi : Ev → M (List D)} {g : GM} {mb : SM} {Γ : Ev} {st s1 : DS} {xs : List D} {o : Out Fl} (h : mi Γ st = .ok xs s1) (h2 : loopS g mb xs Γ s1 = o) : mFor mi g mb Γ st = o := by
  unfold mFor
  rw [sE_ok h]
  exact h2
theorem mCallO_at {g : List D → M (List D)} {mr : Ev → M (List D)} {Γ : Ev} {s0 s1 s2 : DS} {r ys : List D} (h1 : mr Γ s0 = .ok r s1) (h2 : g r s1 = .ok ys s2) : mCallO g mr Γ s0 = .ok ys s2 := by
  show (mr Γ s0).bind _ = _
  rw [h1]
  exact h2
theorem gAdd_lst {xs ys : List D} {st : DS} (h : xs.length + ys.length ≤ 1000000) : gAdd (.lst xs) (.lst ys) st = .ok (.lst (xs ++ ys)) st := by
  show (if decide (xs.length + ys.length ≤ sizeLine) = true then _ else _) = _
  rw [if_pos (dec_le h)]
theorem getD_mem {α : Type} {T : List α} {i : Nat} {a : α} (h : i < T.length) : T.getD i a ∈ T := by
  rw [List.getD_eq_getElem?_getD, List.getElem?_eq_getElem h]
  exact List.getElem_mem h
theorem getD_append_l {α : Type} {xs ys : List α} {i : Nat} {a : α} (h : i < xs.length) : (xs ++ ys).getD i a = xs.getD i a := by
  rw [List.getD_eq_getElem?_getD, List.getElem?_append_left h, List.getD_eq_getElem?_getD]
theorem len_lst {xs : List D} {st : DS} : gLen [.lst xs] st = .ok (.int (xs.length : Nat)) st := rfl
theorem gRepO_at {xs : List D} {n : Nat} {st : DS} (hl : xs.length * n ≤ 1000000 ∧ n ≤ 1000000) : gRepO (.lst xs) (.int (n : Nat)) st = .ok (List.replicate n xs).flatten st := by
  have c : decide (-(2 ^ 63) ≤ ((n : Nat) : Int) ∧ ((n : Nat) : Int) < 2 ^ 63 ∧ xs.length * ((n : Nat) : Int).toNat ≤ sizeLine) = true := decide_eq_true ⟨by omega, by omega, small_le (by rw [Int.toNat_natCast]; exact hl.1)⟩
  rw [Int.toNat_natCast] at c
  unfold gRepO
  simp only [Int.toNat_natCast]
  rw [if_pos c]
theorem mRepO_at {ma mb : EM} {Γ : Ev} {s0 s1 s2 : DS} {xs : List D} {n : Nat} (h1 : ma Γ s0 = .ok (.lst xs) s1) (h2 : mb Γ s1 = .ok (.int (n : Nat)) s2) (hl : xs.length * n ≤ 1000000 ∧ n ≤ 1000000) : mRepO ma mb Γ s0 = .ok (List.replicate n xs).flatten s2 := by
  have e : mRepO ma mb Γ s0 = (ma Γ s0).bind fun d s => (mb Γ s).bind fun e s => gRepO d e s := rfl
  rw [e, h1, Out.ok_bind, h2, Out.ok_bind, gRepO_at hl]
theorem noBors_int : ∀ r : List Int, noBors (r.map D.int) = true
  | [] => rfl
  | a :: r => by rw [List.map_cons, noBors, noBors_int r]; rfl
theorem mSl_at {me : EM} {ml mh : Ev → M (Option Int)} {Γ : Ev} {s0 s1 s2 s3 : DS} {d y : D} {lo hi : Option Int} (h1 : me Γ s0 = .ok d s1) (h2 : ml Γ s1 = .ok lo s2) (h3 : mh Γ s2 = .ok hi s3) (h4 : gSl d lo hi s3 = .ok y s3) : mSl me ml mh Γ s0 = .ok y s3 := by
  have e : mSl me ml mh Γ s0 = (me Γ s0).bind fun d s => (ml Γ s).bind fun lo s => (mh Γ s).bind fun hi s => gSl d lo hi s := rfl
  rw [e, h1, Out.ok_bind, h2, Out.ok_bind, h3, Out.ok_bind, h4]
theorem gAdd_tup {xs ys : List D} {st : DS} (h : xs.length + ys.length ≤ 1000000) : gAdd (.tup xs) (.tup ys) st = .ok (.tup (xs ++ ys)) st := by
  show (if decide (xs.length + ys.length ≤ sizeLine) = true then _ else _) = _
  rw [if_pos (dec_le h)]
theorem andT_f {ta tb : Ev → M Bool} {Γ : Ev} {s0 s1 : DS} (h : ta Γ s0 = .ok false s1) : mAndT ta tb Γ s0 = .ok false s1 := by
  show (ta Γ s0).bind _ = _
  rw [h]
  rfl
theorem andT_t {ta tb : Ev → M Bool} {Γ : Ev} {s0 s1 : DS} {o : Out Bool} (h : ta Γ s0 = .ok true s1) (h2 : tb Γ s1 = o) : mAndT ta tb Γ s0 = o := by
  show (ta Γ s0).bind _ = _
  rw [h]
  exact h2
end FL

/-! FL28: data of bounded depth and weight: repr, == -/
namespace FL
open PySem L2
inductive Nice : Nat → Nat → D → Prop
  | non {d w : Nat} : Nice d w .non
  | bl {d w : Nat} {b : Bool} : Nice d w (.bl b)
  | int {d w : Nat} {i : Int} (h : i.natAbs < 10 ^ 12) (hw : 41 ≤ w) : Nice d w (.int i)
  | str {d w : Nat} {x : Str} (h : PyData.strOk x = true) (hw : x.cps.size ≤ w) : Nice d w (.str x)
  | tup {d w v : Nat} {xs : List D} (h : ∀ x ∈ xs, Nice d v x) (hw : xs.length * (v + 1) ≤ w) : Nice (d + 1) w (.tup xs)
  | lst {d w v : Nat} {xs : List D} (h : ∀ x ∈ xs, Nice d v x) (hw : xs.length * (v + 1) ≤ w) : Nice (d + 1) w (.lst xs)
  | bor {d w v : Nat} {xs : List D} (h : ∀ x ∈ xs, Nice d v x) (hw : xs.length * (v + 1) ≤ w) : Nice (d + 1) w (.bor xs)
/-- what it gives -/
structure NiceF (d w : Nat) (x : D) : Prop where
  plain : x.plain = true
  lay : x.py.canLay0 = true
  depth : x.py.depth ≤ d
  show_ : x.py.showable = true
  noDict : x.py.hasDict = false
  short : x.py.leavesShort 13 = true
  weight : x.py.weight ≤ w
structure NiceL (d v n : Nat) (xs : List D) : Prop where
  plain : D.plains xs = true
  lay : PyData.canLayAll0 (D.pys xs) = true
  depth : PyData.depthAll (D.pys xs) ≤ d
  show_ : PyData.showableAll (D.pys xs) = true
  noDict : PyData.hasDictAll (D.pys xs) = false
  short : PyData.leavesShortAll 13 (D.pys xs) = true
  weight : PyData.weightAll (D.pys xs) ≤ xs.length * (v + 1)
theorem niceL {d v : Nat} : ∀ {xs : List D}, (∀ x ∈ xs, NiceF d v x) → NiceL d v xs.length xs
  | [], _ => ⟨by simp [D.plains], by simp [D.pys, PyData.canLayAll0], by simp [D.pys, PyData.depthAll], by simp [D.pys, PyData.showableAll], by simp [D.pys, PyData.hasDictAll], by simp [D.pys, PyData.leavesShortAll], by simp [D.pys, PyData.weightAll]⟩
  | x :: xs, h => by
    have a := h x List.mem_cons_self
    have b := niceL (xs := xs) fun y hy => h y (List.mem_cons_of_mem _ hy)
    refine ⟨?_, ?_, ?_, ?_, ?_, ?_, ?_⟩
    · rw [D.plains, a.plain, b.plain]; rfl
    · rw [D.pys, PyData.canLayAll0, a.lay, b.lay]; rfl
    · rw [D.pys, PyData.depthAll]; exact Nat.max_le.mpr ⟨a.depth, b.depth⟩
    · rw [D.pys, PyData.showableAll, a.show_, b.show_]; rfl
    · rw [D.pys, PyData.hasDictAll, a.noDict, b.noDict]; rfl
    · rw [D.pys, PyData.leavesShortAll, a.short, b.short]; rfl
    · rw [D.pys, PyData.weightAll, List.length_cons, Nat.succ_mul]
      have := a.weight
      have := b.weight
      omega
theorem Nice.facts {d w : Nat} {x : D} (h : Nice d w x) : NiceF d w x := by
  induction h with
  | non => exact ⟨by simp [D.plain], by simp [D.py, PyData.canLay0], by simp [D.py, PyData.depth], by simp [D.py, PyData.showable], by simp [D.py, PyData.hasDict], by simp [D.py, PyData.leavesShort], by simp [D.py, PyData.weight]⟩
  | bl => exact ⟨by simp [D.plain], by simp [D.py, PyData.canLay0], by simp [D.py, PyData.depth], by simp [D.py, PyData.showable], by simp [D.py, PyData.hasDict], by simp [D.py, PyData.leavesShort], by simp [D.py, PyData.weight]⟩
  | @int d w i h hw =>
    have lg : i.natAbs.log2 < 40 := by
      by_cases h0 : i.natAbs = 0
      · rw [h0]; decide
      · exact (Nat.log2_lt h0).mpr (Nat.lt_trans h (by decide))
    refine ⟨by simp [D.plain], by simp [D.py, PyData.canLay0], by simp [D.py, PyData.depth], ?_, by simp [D.py, PyData.hasDict], ?_, ?_⟩
    · rw [D.py, PyData.showable]; exact decide_eq_true (by omega)
    · rw [D.py, PyData.leavesShort]; exact decide_eq_true (PyData.shown_int_le h)
    · rw [D.py, PyData.weight]
      split
      · omega
      · omega
  | @str d w x h hw =>
    refine ⟨by simp [D.plain], by rw [D.py, PyData.canLay0]; exact h, by simp [D.py, PyData.depth], by simp [D.py, PyData.showable], by simp [D.py, PyData.hasDict], ?_, by rw [D.py, PyData.weight]; exact hw⟩
    rw [D.py, PyData.leavesShort, List.all_eq_true]
    intro c hc
    have q := (Array.all_eq_true_iff_forall_mem.mp (show x.cps.all (· < 0x110000) = true from h)) c (Array.mem_toList_iff.mp hc)
    have q : c < 0x110000 := by simpa using q
    have e : (16 : Nat) ^ 8 = 4294967296 := by decide
    exact decide_eq_true (by omega)
  | tup h hw ih =>
    have b := niceL ih
    refine ⟨by rw [D.plain]; exact b.plain, by rw [D.py, PyData.canLay0]; exact b.lay, by rw [D.py, PyData.depth]; exact Nat.succ_le_succ b.depth, by rw [D.py, PyData.showable]; exact b.show_, by rw [D.py, PyData.hasDict]; exact b.noDict, by rw [D.py, PyData.leavesShort]; exact b.short, by rw [D.py, PyData.weight]; exact Nat.le_trans b.weight hw⟩
  | lst h hw ih =>
    have b := niceL ih
    refine ⟨by rw [D.plain]; exact b.plain, by rw [D.py, PyData.canLay0]; exact b.lay, by rw [D.py, PyData.depth]; exact Nat.succ_le_succ b.depth, by rw [D.py, PyData.showable]; exact b.show_, by rw [D.py, PyData.hasDict]; exact b.noDict, by rw [D.py, PyData.leavesShort]; exact b.short, by rw [D.py, PyData.weight]; exact Nat.le_trans b.weight hw⟩
  | bor h hw ih =>
    have b := niceL ih
    refine ⟨by rw [D.plain]; exact b.plain, by rw [D.py, PyData.canLay0]; exact b.lay, by rw [D.py, PyData.depth]; exact Nat.succ_le_succ b.depth, by rw [D.py, PyData.showable]; exact b.show_, by rw [D.py, PyData.hasDict]; exact b.noDict, by rw [D.py, PyData.leavesShort]; exact b.short, by rw [D.py, PyData.weight]; exact Nat.le_trans b.weight hw⟩
theorem Nice.repr {d w : Nat} {x : D} (h : Nice d w x) (hd : d ≤ 60) (hw : w ≤ 2 ^ 20) : reprOk x = true := by
  have f := h.facts
  unfold reprOk
  simp only [f.plain, f.show_, f.noDict, Bool.not_false, Bool.and_true, Bool.true_and, Bool.and_eq_true, decide_eq_true_eq]
  exact ⟨Nat.le_trans f.depth hd, PyData.shown_fits (by decide) (by decide) f.short (Nat.le_trans f.weight hw)⟩
theorem Nice.eqOk {d w d' w' : Nat} {x y : D} (h : Nice d w x) (h' : Nice d' w' y) (hd : d ≤ 60) (hd' : d' ≤ 60) : eqOk x y = true := by
  have f := h.facts
  have f' := h'.facts
  have s : SeqAt.shaped x.py = true := by
    unfold SeqAt.shaped
    rw [f.lay, decide_eq_true (Nat.le_trans f.depth (by omega))]; rfl
  have s' : SeqAt.shaped y.py = true := by
    unfold SeqAt.shaped
    rw [f'.lay, decide_eq_true (Nat.le_trans f'.depth (by omega))]; rfl
  unfold FL.eqOk
  rw [f.plain, f'.plain, s, s']
  simp
theorem Nice.mono {d w d' w' : Nat} {x : D} (h : Nice d w x) (hd : d ≤ d') (hw : w ≤ w') : Nice d' w' x := by
  induction h generalizing d' w' with
  | non => exact .non
  | bl => exact .bl
  | int h h2 => exact .int h (Nat.le_trans h2 hw)
  | str h h2 => exact .str h (Nat.le_trans h2 hw)
  | tup h h2 ih =>
    obtain ⟨e, rfl⟩ : ∃ e, d' = e + 1 := ⟨d' - 1, by omega⟩
    exact .tup (fun x hx => ih x hx (by omega) (Nat.le_refl _)) (Nat.le_trans h2 hw)
  | lst h h2 ih =>
    obtain ⟨e, rfl⟩ : ∃ e, d' = e + 1 := ⟨d' - 1, by omega⟩
    exact .lst (fun x hx => ih x hx (by omega) (Nat.le_refl _)) (Nat.le_trans h2 hw)
  | bor h h2 ih =>
    obtain ⟨e, rfl⟩ : ∃ e, d' = e + 1 := ⟨d' - 1, by omega⟩
    exact .bor (fun x hx => ih x hx (by omega) (Nat.le_refl _)) (Nat.le_trans h2 hw)
/-- a tuple of ints -/
theorem nice_ints {r : List Int} (h : ∀ i ∈ r, i.natAbs < 10 ^ 12) {w : Nat} (hw : r.length * 42 ≤ w) : Nice 1 w (.tup (r.map D.int)) :=
  .tup (v := 41) (fun x hx => by
    obtain ⟨i, hi, rfl⟩ := List.mem_map.mp hx
    exact .int (h i hi) (Nat.le_refl _)) (by rw [List.length_map]; exact hw)
/-- x == () -/
theorem eqD_nil (xs : List D) : eqD (.tup xs) (.tup []) = xs.isEmpty := by
  cases xs with
  | nil => simp [eqD, D.py, D.pys, PyData.eqv, PyData.eqvAll]
  | cons x xs => simp [eqD, D.py, D.pys, PyData.eqv, PyData.eqvAll]
theorem nice_nil : Nice 1 0 (.tup []) := .tup (v := 0) (fun x hx => by cases hx) (by simp)
theorem eq_nil_tup {d w : Nat} {xs : List D} {st : DS} (h : Nice d w (.tup xs)) (hd : d ≤ 60) : gEq (.tup xs) (.tup []) st = .ok (.bl xs.isEmpty) st := by
  unfold gEq
  rw [if_pos (h.eqOk nice_nil hd (by decide)), eqD_nil]
end FL

/-! FL29: instances: made, read, asked for their class -/
namespace FL
open PySem PySem.Spec PyProof.Rows L2
/-- what an __init__ that stores its parameters promises -/
def spI (C : Addr) (ks : List Str) : Sp := fun vs H Q _ => ∃ (x dx : Addr) (ws : List V), vs = .ref x :: ws ∧ ws.length = ks.length ∧ H x = some (.ins C dx []) ∧ Q .non (upd H x (.ins C dx (ks.zip ws)))
structure CTxt (K : PySem.W.Frag) (mg : Str → Option Value) (x : Str) (C : Addr) (ks : List Str) : Prop where
  cl : Cls K C
  no : ∀ f ∈ ks, NoAttr K C f
  mgC : mg x = some (.ref C)
  ha : PySem.W.findIn K (.ref C) "__class__" = some (some (.builtin "object.__class__"))
  hn : PySem.W.specialIn K (.builtin "object.__class__") "__get__" = some (some (.builtin "getset_descriptor.__get__"))
  htk : PySem.W.takesIn K (.builtin "object.__class__") = some true
  hm : PySem.W.mroIn K C (.type "object") = some true
  non : ∀ T ∈ ["NoneType", "bool", "int", "str", "tuple", "list", "dict"], PySem.W.kitOne K (.type T) (.ref C) = some false
section
variable {X : Cx} {k : Kx} {E : XE} {C : Addr} {x : Str} {ks : List Str} {mr : Ev → M (List D)} {e : Expr} {es : List Expr} {me : EM} {p pos p2 : Pos}
def mMk (C : Addr) (ks : List Str) (mr : Ev → M (List D)) : EM := fun Γ => do
  let ds ← mr Γ
  if ds.length = ks.length then pure (.ins C ks ds) else halt
theorem zip_fst : ∀ {ks : List Str} {vs : List V}, vs.length = ks.length → (ks.zip vs).map (·.1) = ks
  | [], [], _ => rfl
  | k :: ks, v :: vs, h => by rw [List.zip_cons_cons, List.map_cons, zip_fst (by simpa using h)]
  | [], _ :: _, h => by simp at h
  | _ :: _, [], h => by simp at h
theorem zip_snd : ∀ {ks : List Str} {vs : List V}, vs.length = ks.length → (ks.zip vs).map (·.2) = vs
  | [], [], _ => rfl
  | k :: ks, v :: vs, h => by rw [List.zip_cons_cons, List.map_cons, zip_snd (by simpa using h)]
  | [], _ :: _, h => by simp at h
  | _ :: _, [], h => by simp at h
theorem e_mk {j : Nat} (c : C8.Mak X.prog X.w X.K X.mg X.base 1 x C (spI C ks) []) (hr : Room j X.A) (hj : 2 ≤ j) (hg : Gl X x) (ha : PA X (e :: es) (tA k E mr)) (hdb : (x == ("__debug__" : Str)) = false := by decide)
    (he : starEach (e :: es) X.env = (false, eval e X.env) :: starEach es X.env := by rfl) (hpl : (backTo pos (starEach es X.env)).any (·.1) = false := by rfl) : PE X (.Call (.Name x p) (e :: es) [] pos) (tM k E (mMk C ks mr)) :=
  PE.weak (C8.pe_mk c hr hj hg ha hdb he hpl) fun σ H Q ⟨F, Γ, st, ok, w⟩ => tA.then_ ok w fun vs ds F1 H1 st1 s1 ok1 r1 w1 => by
    intro y dx ny ndx nyd
    split at w1
    · rename_i hl
      have lv : vs.length = ks.length := by rw [r1.length]; exact hl
      refine ⟨y, dx, vs, by rw [List.append_nil], lv, upd_same, rfl, ?_⟩
      rw [upd_upd]
      have s2 := ok1.new (ob := .own y) ndx
      have ok2 := ok1.step s2
      have ny2 : upd H1 dx (.own y) y = none := by rw [upd_ne (Ne.symm nyd)]; exact ny
      have s3 := ok2.new (ob := .ins C dx (ks.zip vs)) ny2
      refine w1 _ _ (ok1.trans s2 s3) _ (.ins (dx := dx) (fs := ks.zip vs) upd_same (by rw [upd_ne nyd, upd_same]) (zip_fst lv) ?_)
      rw [zip_snd lv]
      exact (r1.mono s2.ext).mono s3.ext
    · exact w1.elim
/-- a field, of instances of the classes cs -/
def gFld (cs : List Addr) (f : Str) : D → M D := fun d st => match d with
  | .ins C ks xs => if C ∈ cs then (match (ks.zip xs).lookup f with | some d => .ok d st | none => .stuck) else .stuck
  | _ => .stuck
theorem ins_look {F : Hp} {f : Str} {d : D} : ∀ {fs : List (Str × V)} {xs : List D}, Reps k F (fs.map (·.2)) xs → ((fs.map (·.1)).zip xs).lookup f = some d → ∃ v, fs.lookup f = some v ∧ Rep k F v d
  | [], _, _, h => by simp at h
  | (g, v) :: fs, x :: xs, r, h => by
    cases r with
    | cons h1 t1 =>
      rw [List.map_cons, List.zip_cons_cons, List.lookup_cons] at h
      rw [List.lookup_cons]
      cases e : (f == g) with
      | true =>
        rw [e] at h
        cases h
        exact ⟨v, rfl, h1⟩
      | false =>
        rw [e] at h
        exact ins_look t1 h
  | (_, _) :: _, [], _, h => by simp at h
theorem e_fld {f : Str} (cs : List Addr) (hcs : ∀ C ∈ cs, Cls X.K C ∧ NoAttr X.K C f) (he : PE X e (tM k E me)) (hb : attributeBase e f X.env (eval e X.env) = eval e X.env := by rfl) : PE X (.Attribute e f pos) (tM k E (mUn (gFld cs f) me)) :=
  PE.weak (pe_fld he hb) fun σ H Q ⟨F, Γ, st, ok, w⟩ => tM.then_ ok w fun v d F1 H1 st1 s1 ok1 r1 w1 => by
    unfold gFld at w1
    split at w1
    · split at w1
      · rename_i hc
        split at w1
        · rename_i d' hl
          cases r1 with
          | @ins a C dx fs ks xs h h2 e r =>
            subst e
            obtain ⟨v', l, rv⟩ := ins_look r hl
            exact ⟨a, _, dx, fs, v', rfl, ok1.sub _ _ h, (hcs _ hc).1, (hcs _ hc).2, l, w1 F1 H1 ok1.refl _ rv⟩
        · exact w1.elim
      · exact w1.elim
    · exact w1.elim
/-- isinstance(e, C), C a class of one's own; cs the classes that instances may have -/
def gIsC (C0 : Addr) (cs : List Addr) : D → M D := fun d st => match d with
  | .ins C _ _ => if C = C0 then .ok (.bl true) st else if C ∈ cs then .ok (.bl false) st else .stuck
  | .kl _ => .stuck
  | _ => .ok (.bl false) st
theorem tyN_in {d : D} (no : ∀ C ks xs, d ≠ .ins C ks xs) (no2 : ∀ xs, d ≠ .kl xs) : tyN d ∈ ["NoneType", "bool", "int", "str", "tuple", "list", "dict"] := by
  cases d with
  | ins C ks xs => exact absurd rfl (no _ _ _)
  | kl xs => exact absurd rfl (no2 _)
  | _ => simp [tyN]
theorem e_isC (T : CTxt X.K X.mg x C ks) (cs : List Addr) (hcs : ∀ B ∈ cs, B ≠ C → (∃ y ks, CTxt X.K X.mg y B ks) ∧ PySem.W.kitOne X.K (.ref B) (.ref C) = some false) (hg : Gl X "isinstance") (hm : X.mg "isinstance" = none) (he : PE X e (tM k E me)) (hgT : Gl X x) (hb : bootBuiltins "isinstance" = some (.builtin "isinstance")) (hk : k.K = X.K := by rfl) (hyd : (x == ("__debug__" : Str)) = false := by decide)
    (hs : starEach [.Name x p2] X.env = (false, eval (.Name x p2) X.env) :: starEach [] X.env := by rfl) (hs2 : starEach [e, .Name x p2] X.env = (false, eval e X.env) :: starEach [.Name x p2] X.env := by rfl) (hpl : (backTo pos (starEach [.Name x p2] X.env)).any (·.1) = false := by rfl) :
    PE X (.Call (.Name "isinstance" p) [e, .Name x p2] [] pos) (tM k E (mUn (gIsC C cs) me)) :=
  PE.weak (pe_callB call_isi hg hm hb (pa_cons he (pa_cons (pe_glob (v := .ref C) hgT T.mgC rfl hyd) pa_nil hs) hs2) (by decide) (by decide) hs2 hpl) fun σ H Q ⟨F, Γ, st, ok, w⟩ => tM.then_ ok w fun v d F1 H1 st1 s1 ok1 r1 w1 => by
    unfold gIsC at w1
    split at w1
    · rename_i B ks' xs
      cases r1 with
      | @ins a C' dx fs _ _ h h2 e r =>
        split at w1
        · rename_i hc
          subst hc
          refine ⟨_, .ref B, _, _, true, rfl, .own B, .base (.ins (ok1.sub _ _ h) T.cl T.ha T.hn T.htk T.hm), ?_, w1 F1 H1 ok1.refl _ (.bl true)⟩
          unfold PySem.W.kitOne
          rw [if_pos (by simp)]
        · rename_i hne
          split at w1
          · rename_i hin
            obtain ⟨⟨y, ks2, TB⟩, kf⟩ := hcs B hin hne
            exact ⟨_, .ref C, _, _, false, rfl, .own C, .base (.ins (ok1.sub _ _ h) TB.cl TB.ha TB.hn TB.htk TB.hm), kf, w1 F1 H1 ok1.refl _ (.bl false)⟩
          · exact w1.elim
    · exact w1.elim
    · rename_i n1 n2
      refine ⟨v, .ref C, _, _, false, rfl, .own C, ?_, T.non _ (tyN_in (fun C ks xs e => n1 C ks xs e) (fun xs e => n2 xs e)), w1 F1 H1 ok1.refl _ (.bl false)⟩
      rw [← hk]
      exact r1.tyX ok1.sub ok1.bsub (fun on => ⟨_, (ok1.at_ on).dl⟩) (fun C ks xs e => n1 C ks xs e) (fun xs e => n2 xs e)
end
end FL

/-! FL30a: an own error with fields is asked for its class -/
namespace FL
open PySem PySem.Spec PySem.Calls PyProof.Rows PySem.W
section
variable {prog : Program} {w : World} {A : Around} {E : Value → Shared → Prop} {K : PySem.W.Frag} {x D : Addr} {ox od : Obj}
/-- what the class must say -/
structure ITxt (K : PySem.W.Frag) (C : Addr) : Prop where
  ha : PySem.W.findIn K (.ref C) "__class__" = some (some (.builtin "object.__class__"))
  hn : PySem.W.specialIn K (.builtin "object.__class__") "__get__" = some (some (.builtin "getset_descriptor.__get__"))
  ht : PySem.W.takesIn K (.builtin "object.__class__") = some true
  hm : PySem.W.mroIn K C (.type "object") = some true
theorem cls_seen (I : ITxt K D) (hga : findIn K (.ref D) "__getattribute__" = some (some (.builtin "BaseException.__getattribute__"))) (hgt : findIn K (.ref D) "__getattr__" = some none) (hsub : subIn K (.ref D) (.type "BaseException") = some true) (hdct : hasDictIn K D = true)
    {hp : Heap} {g d : _} {t : Tok} {os : _} {Q : Option Value → Shared → Prop} (X : K.In hp) (J : InstAt hp x ox D (some od)) (h : Q (some (.ref D)) ⟨hp, g, d, t + 1, os⟩) : wpAny (model prog w) A (getAttr? (.ref x) "__class__") Q E ⟨hp, g, d, t, os⟩ := by
  have fnd := looks_find (M := model prog w) X J (findObj_data (K := K) (C := D) (name := "__class__") (by obtain ⟨cd, hc, _⟩ := any_some hdct; rw [hc]; rfl) I.ha I.hn I.ht)
  have ty := J.type (M := model prog w)
  have neq : (Value.builtin "BaseException.__getattribute__" == Value.builtin "object.__getattribute__") = false := by decide +kernel
  unfold getAttr? getAttrBy? getAttrBy
  refine wpAny_bind (wpAny_mkText (wpAny_bind (wpAny_attempt (wpAny_holding (wpAny_bind (ty.at (wpAny_bind ((looks_findIn (M := model prog w) X hga).at ?_))))))))
  show wpAny _ _ (if (onTheHeap (Value.ref D) && Value.builtin "BaseException.__getattribute__" == Value.builtin "object.__getattribute__") = true then _ else _) _ _ _
  rw [show (onTheHeap (Value.ref D) && Value.builtin "BaseException.__getattribute__" == Value.builtin "object.__getattribute__") = false by rw [neq]; rfl, if_neg Bool.false_ne_true]
  unfold getAttrByItsOwn hookBefore
  refine wpAny_bind ?_
  rw [if_pos (show onTheHeap (Value.ref D) = true from rfl)]
  refine (looks_findIn (M := model prog w) X hgt).at ?_
  refine wpAny_bind (wpAny_attempt (wpAny_holding ?_))
  unfold callGetattribute
  rw [show (false && onTheHeap (Value.builtin "BaseException.__getattribute__")) = false from rfl, if_neg Bool.false_ne_true]
  unfold boundAndCalled
  rw [PySem.F.excAttr_ValueError.ga.bind (.ref x)]
  refine wpAny_bind (wpAny_pure ?_)
  show wpAny _ _ (call (.builtin "BaseException.__getattribute__") [.ref x, .str "__class__" t]) _ _ _
  refine wpAny_call (codeAny_call_builtin PySem.F.excAttr_ValueError.ga.plain PySem.F.entry_bexc_ga ?_)
  refine @check_slot (model prog w) _ _ ⟨hp, g, d, t + 1, os⟩ "BaseException.__getattribute__" "BaseException" "__getattribute__" (.ref x) [.str "__class__" t] [] _ (by decide +kernel) (by decide +kernel) (ty.andThen (looks_subIn X hsub)) (PySem.F.args_bexc_ga (.ref x) (.str "__class__" t)) ?_
  unfold Builtin.«object.__getattribute__»
  refine wpAny_bind (wpAny_of_eq (a := ((Value.ref x : Value), [Value.str "__class__" t])) (by first | rfl | (simp only [slotArgs]; rfl)) ?_)
  refine wpAny_bind (wpAny_pure (wpAny_bind (ty.at (wpAny_bind (fnd.at ?_)))))
  show wpAny _ _ (holding [Value.builtin "object.__class__"] (call (.builtin "getset_descriptor.__get__") [.builtin "object.__class__", .ref x, .ref D]) >>= ret) _ _ _
  refine wpAny_bind (wpAny_holding (wpAny_call (class_get (s := ⟨hp, g, d, t + 1, os⟩) (ox := ox) (od := some od) X J I.hm ?_)))
  refine wpAny_pure ?_
  show wpAny _ _ (handedOut (.ref D)) _ _ _
  rw [handedOut_of (v := .ref D) rfl]
  first
    | exact wpAny_pure (wpAny_pure h)
    | exact wpAny_pure h
    | exact wpAny_pure (wpAny_bind (wpAny_pure (wpAny_pure h)))
theorem kit_err (I : ITxt K D) (hga : findIn K (.ref D) "__getattribute__" = some (some (.builtin "BaseException.__getattribute__"))) (hgt : findIn K (.ref D) "__getattr__" = some none) (hsub : subIn K (.ref D) (.type "BaseException") = some true) (hdct : hasDictIn K D = true) :
    KitX K (.ref x) (.ref D) (fun h => InstAt h x ox D (some od)) := by
  obtain ⟨cdD, hcD, _⟩ := any_some hdct
  refine ⟨fun _ _ _ J => J.type, fun _ _ X _ => ?_, fun h tp dd its n sl X htp => ?_, fun {_ _ _ _ _ s} X J k => ?_⟩
  · unfold clsIn at hcD
    split at hcD
    · rename_i ho
      intro A' Q' E' s' k q
      unfold isType loadHead
      exact wpAny_bind (wpAny_loadPart (k _ _ (X _ _ ho)) (wpAny_pure q))
    · cases hcD
  · refine Bool.eq_false_iff.mpr fun q => ?_
    have e : D = tp := Value.ref.inj (beq_iff_eq.mp q)
    subst e
    unfold clsIn at hcD
    split at hcD
    · rename_i ho
      cases (X _ _ ho).symm.trans htp
    · cases hcD
  · obtain ⟨hp, g, d, t, os⟩ := s
    exact cls_seen I hga hgt hsub hdct X J k
end
end FL

/-! FL30: wide * and //, gcd, insert, three names at once, a module's tuple, an error asked for its class -/
namespace FL
open PySem PySem.Spec PyProof.Rows L2
section
variable {X : Cx} {k : Kx} {E : XE} {e : Expr} {es : List Expr} {mr : Ev → M (List D)} {me : EM} {p pos p2 : Pos}
def gMulW : M2 := g2I (fun i j => decide (i.natAbs.log2 + j.natAbs.log2 < 1000000)) fun i j => .int (i * j)
def gDivW : M2 := g2I (fun _ j => decide (0 < j ∧ j.natAbs.log2 < 9000)) fun i j => .int (i / j)
theorem s_mulW : OpS X k (binaryOp .Mult) gMulW := ops_I op_mulW (fun i j h => (of_decide_eq_true h : i.natAbs.log2 + j.natAbs.log2 < 1000000)) fun _ i j => .int (i * j)
theorem s_divW : OpS X k (binaryOp .FloorDiv) gDivW := ops_I op_fdivW (fun i j h => (of_decide_eq_true h : 0 < j ∧ j.natAbs.log2 < 9000)) fun _ i j => .int (i / j)
/-! ### gcd -/
def gGcd : List D → M D := fun ds st => match ds with
  | [.int a, .int b] => .ok (.int ((Nat.gcd a.natAbs b.natAbs : Nat) : Int)) st
  | _ => .stuck
theorem e_gcd {x : Str} (hg : Gl X x) (hm : X.mg x = some (.builtin "math.gcd")) (ha : PA X (e :: es) (tA k E mr)) (hdb : (x == ("__debug__" : Str)) = false := by decide)
    (he : starEach (e :: es) X.env = (false, eval e X.env) :: starEach es X.env := by rfl) (hpl : (backTo pos (starEach es X.env)).any (·.1) = false := by rfl) : PE X (.Call (.Name x p) (e :: es) [] pos) (tM k E (mCall gGcd mr)) :=
  PE.weak (pe_callBfun cr_gcd hg hm ha hdb he hpl) fun σ H Q ⟨F, Γ, st, ok, w⟩ => tA.then_ ok w fun vs ds F1 H1 st1 s1 ok1 r1 w1 => by
    unfold gGcd at w1
    split at w1
    · match vs, r1 with
      | [_, _], .cons (.int a) (.cons (.int b) .nil) => exact ⟨a, b, rfl, w1 F1 H1 ok1.refl _ (.int _)⟩
    · exact w1.elim
/-! ### a module's tuple of ints -/
def KTup (K : PySem.W.Frag) (mg : Str → Option Value) (x : Str) (ns : List Int) : Prop := ∃ (a : Addr) (o : Obj) (its : Array Value) (n : Nat), mg x = some (.ref a) ∧ K.lookup a = some o ∧ o.cls = .type "tuple" ∧ o.data = .seq its n ∧ its.size ≤ sizeLine ∧ Vals (ns.map V.int) its.toList
theorem Reps.ints0 {F : Hp} : ∀ ns : List Int, Reps k F (ns.map V.int) (ns.map D.int)
  | [] => .nil
  | n :: ns => .cons (.int n) (Reps.ints0 ns)
theorem e_ktup {x : Str} {ns : List Int} (hg : Gl X x) (h : KTup X.K X.mg x ns) (hk : k.K = X.K := by rfl) (hd : (x == ("__debug__" : Str)) = false := by decide) : PE X (.Name x pos) (tM k E (mC (.tup (ns.map D.int)))) := by
  obtain ⟨a, o, its, n, hm, hl, hc, hdt, hs, hv⟩ := h
  refine PE.weak (pe_glob (v := .ref a) hg hm rfl hd) fun σ H Q ⟨F, Γ, st, ok, w⟩ => ?_
  exact w F H ok.refl _ (.tup (.inr ⟨o, its, n, by rw [hk]; exact hl, hc, hdt, hs, hv⟩) (Reps.ints0 ns))
/-! ### three names -/
def mPar3 (i j l : Nat) (ma : Ev → M (List D)) : SM := fun Γ => sE (ma Γ) Γ fun ds => match ds with
  | [d, e, f] => pure (.nx (((Γ.set i (some (.dat d))).set j (some (.dat e))).set l (some (.dat f))))
  | _ => halt
theorem s_par3 {i j l : Nat} {x y z : Str} {a b c : Expr} {ma : Ev → M (List D)} {px py pz pt : Pos} {kt k2 : Nat} {pt2 : Pos} (hc : X.calm = true) (hN : X.N.Nodup) (ha : PA X [a, b, c] (tA k E ma)) (hij : i ≠ j) (hil : i ≠ l) (hjl : j ≠ l) (hi : X.N[i]? = some x := by rfl) (hj : X.N[j]? = some y := by rfl) (hl : X.N[l]? = some z := by rfl)
    (hx : X.env.scope.names.lookup x = some .local := by rfl) (hy : X.env.scope.names.lookup y = some .local := by rfl) (hz : X.env.scope.names.lookup z = some .local := by rfl)
    (hw : swappedStores [.Tuple [.Name x px, .Name y py, .Name z pz] kt pt] (.Tuple [a, b, c] k2 pt2) X.env = pure (some [x, y, z]) := by rfl)
    (hs : swapsWithSole [.Tuple [.Name x px, .Name y py, .Name z pz] kt pt] (.Tuple [a, b, c] k2 pt2) pos.line X.env = pure false := by rfl) :
    PS X (.Assign [.Tuple [.Name x px, .Name y py, .Name z pz] kt pt] (.Tuple [a, b, c] k2 pt2) pos) (tS k E (mPar3 i j l ma)) :=
  PS.weak (ps_par3 hc hN hi hj hl hij hil hjl hx hy hz ha hw hs) fun D σ H ⟨G, H0, P, F, Γ, st, ok, w⟩ => tA.inS ok w fun vs ds F1 H1 st1 s ok1 r w1 => by
    match ds, r, w1 with
    | [d, e, f], .cons r1 (.cons r2 (.cons r3 .nil)), w1 => exact ⟨_, _, _, rfl, w1 _ F1 H1 (ok1.upd (((Upd.set ok1.ok.len r1).trans (Upd.set (by simp [ok1.ok.len]) r2)).trans (Upd.set (by simp [ok1.ok.len]) r3)))⟩
    | [], _, w1 => exact w1.elim
    | [_], _, w1 => exact w1.elim
    | [_, _], _, w1 => exact w1.elim
    | _ :: _ :: _ :: _ :: _, _, w1 => exact w1.elim
/-! ### x.insert(i, e) -/
def insD (xs : List D) (i : Int) (d : D) : List D := xs.take i.toNat ++ [d] ++ xs.drop i.toNat
def mIns (i : Nat) (ma me : EM) : SM := fun Γ => match gOwn i Γ with
  | some xs => sE (ma Γ) Γ fun n => sE (me Γ) Γ fun d => match n with
    | .int n => if decide (xs.length < sizeLine ∧ 0 ≤ n ∧ n < 2 ^ 63) then pure (.nx (Γ.set i (some (.own (insD xs n d))))) else halt
    | _ => halt
  | none => halt
theorem s_ins (i : Nat) {x : Str} {a : Expr} {px apos cpos : Pos} {ma me : EM} (ha : PE X a (tM k E ma)) (he : PE X e (tM k E me)) (hN : X.N[i]? = some x := by rfl) (hv : Vis X.env.scope x := by first | exact Or.inl rfl | exact Or.inr (Or.inl rfl) | exact Or.inr (Or.inr rfl)) (hd : (x == ("__debug__" : Str)) = false := by decide) (hcd : (x == ("__classdict__" : Str)) = false := by decide)
    (hbase : attributeBase (.Name x px) "insert" X.env (eval (.Name x px) X.env) = eval (.Name x px) X.env := by rfl)
    (hfew : ((backTo cpos (starEach [a, e] X.env)).all (fun x => !x.1) && (backToKw cpos (keywordEach [] X.env)).all (fun x => x.1.isSome)
      && decide ([a, e].length + ([] : List Keyword).length + (if ([] : List Keyword).isEmpty then 0 else 1) < 30)) = true := by rfl)
    (hline : (apos.endLine == cpos.line) = true := by rfl) (hs1 : starEach [e] X.env = (false, eval e X.env) :: starEach [] X.env := by rfl) (hs : starEach [a, e] X.env = (false, eval a X.env) :: starEach [e] X.env := by rfl) (hplain : (backTo cpos (starEach [e] X.env)).any (·.1) = false := by rfl)
    (hsw : swapsWith (.Call (.Attribute (.Name x px) "insert" apos) [a, e] [] cpos) none pos.line X.env = pure false := by rfl) : PS X (.Expr (.Call (.Attribute (.Name x px) "insert" apos) [a, e] [] cpos) pos) (tS k E (mIns i ma me)) :=
  PS.weak (ps_expr (pe_bm PySem.F.plainAttrs_list PySem.F.slot_list_insert PySem.F.type_list_insert mt_insert (pv i hN hv hd hcd) (pa_cons ha (pa_cons he pa_nil hs1) hs) hbase hfew hline hs hplain) hsw) fun D σ H ⟨G, H0, P, F, Γ, st, ok, w⟩ => by
    unfold mIns at w
    cases eg : gOwn i Γ with
    | none => rw [eg] at w; exact w.elim
    | some xs =>
      rw [eg] at w
      obtain ⟨v0, e2, a, vs, rfl, ha, _⟩ := ok.ok.slot i _ (gOwn_use eg)
      refine ⟨.ref a, e2, .inl ⟨rfl, _, SqL.of ha⟩, tM.inS ok w fun u n F1 H1 st1 s1 ok1 r1 w1 => tM.inS ok1 w1 fun v d F2 H2 st2 s2 ok2 r2 w2 => ?_⟩
      obtain ⟨v0', e2', a', vs', e3, ha', fa, n1, n3, rr⟩ := ok2.ok.slot i _ (gOwn_use eg)
      rw [e2] at e2'
      cases e2'
      cases e3
      split at w2
      · rename_i n
        split at w2
        · rename_i hz
          obtain ⟨z1, z2, z3⟩ := of_decide_eq_true hz
          cases r1
          refine ⟨a, vs', n, v, rfl, rfl, ha', by rw [rr.length]; exact z1, z2, z3, ?_⟩
          exact w2 σ F2 _ (ok2.mut (gOwn_use eg) e2 (((rr.take _).append (.cons r2 .nil)).append (rr.drop _)))
        · exact w2.elim
      · exact w2.elim
end
/-! ### isinstance of the error that a suite holds -/
section
variable {X : Cx} {k : Kx} {E : XE} {C : Addr} {x fld : Str}
theorem isi_b : bootBuiltins "isinstance" = some (.builtin "isinstance") := by decide +kernel
theorem call_isX {a : Addr} {oe : Obj} {d : Option Addr} {pn : List (Addr × Obj)} (T : XTxt X.prog X.K X.mg x fld C) (IT : ITxt X.K C) (hz : Zc (.ref C) d oe) (hf : ∃ vs, oe.data = .fields vs) :
    CallR (X.suite a ((a, oe) :: pn)) (.builtin "isinstance") (fun xs H Q => ∃ (C1 : Addr) (b : Bool) (dd : Addr) (fs : List (Str × V)), xs = [.ref a, .ref C1] ∧ PySem.W.kitOne X.K (.ref C) (.ref C1) = some b ∧ d = some dd ∧ H dd = some (.xd fs) ∧ Q (.bl b) H) := by
  intro pins s σ H xs us Q I r h
  obtain ⟨C1, b, dd, fs, rfl, e, ed, hd, q⟩ := h
  match us, r with
  | [_, _], .cons rx (.cons rt .nil) =>
    cases rx
    cases rt
    obtain ⟨hget, _⟩ := I.pin (a, oe) (List.mem_append.mpr (.inl List.mem_cons_self))
    obtain ⟨vs, hv⟩ := hf
    obtain ⟨mA, hns, hr⟩ := (show ObjOk X.prog X.w H s.heap dd (.xd fs) from I.hok dd _ hd)
    obtain ⟨od, ho, hl⟩ := lookIn_ns hns
    subst ed
    have J : PySem.W.InstAt s.heap a oe C (some od) := ⟨hget, hz.1, by unfold PySem.W.notCls; rw [hv] <;> rfl, by rw [hz.2]; exact ho⟩
    exact PySem.W.kia_one (kit_err IT T.ga T.gg T.exC T.hdC) I.kIn J e (fun z => nomatch z) fun tk => ⟨.bl b, H, I.kept (t' := tk) fun _ _ z => z, rfl, q⟩
def tIsE (C : Addr) (b : Bool) (a : Addr) (cls : Value) (d : Option Addr) (i : Nat) : TE := fun σ H Q => ∃ v, σ[i]? = some (some v) ∧ v = .ref a ∧ cls = .ref C ∧ ∃ (dd : Addr) (fs : List (Str × V)), d = some dd ∧ H dd = some (.xd fs) ∧ Q (.bl b) H
theorem pe_isE {a C1 : Addr} {c1 n : Str} {oe : Obj} {b : Bool} {cls : Value} {d : Option Addr} {pn : List (Addr × Obj)} {i : Nat} {q1 q2 q3 q4 : Pos} (T : XTxt X.prog X.K X.mg x fld C) (IT : ITxt X.K C) (hz : Zc cls d oe) (hf : ∃ vs, oe.data = .fields vs)
    (hk : PySem.W.kitOne X.K (.ref C) (.ref C1) = some b) (hm1 : X.mg c1 = some (.ref C1)) (hg1 : Gl X c1) (hm : X.mg "isinstance" = none) (hg : Gl X "isinstance") (hN : X.N[i]? = some n)
    (hv : Vis X.env.scope n) (hd : (n == ("__debug__" : Str)) = false) (hcd : (n == ("__classdict__" : Str)) = false) (hdb : (c1 == ("__debug__" : Str)) = false)
    (hs : starEach [.Name c1 q3] X.env = (false, eval (.Name c1 q3) X.env) :: starEach [] X.env) (hs2 : starEach [.Name n q2, .Name c1 q3] X.env = (false, eval (.Name n q2) X.env) :: starEach [.Name c1 q3] X.env) (hpl : (backTo q4 (starEach [.Name c1 q3] X.env)).any (·.1) = false) :
    PE (X.suite a ((a, oe) :: pn)) (.Call (.Name "isinstance" q1) [.Name n q2, .Name c1 q3] [] q4) (tIsE C b a cls d i) := by
  refine ⟨fun pins s σ H Q I h => ?_⟩
  obtain ⟨v, e, rfl, ec, dd, fs, ed, hdd, q⟩ := h
  subst ec
  exact (pe_callB (X := X.suite a ((a, oe) :: pn)) (call_isX (pn := pn) T IT hz hf) hg hm isi_b (pa_cons (pv (X := X.suite a ((a, oe) :: pn)) i hN hv hd hcd) (pa_cons (pe_glob (X := X.suite a ((a, oe) :: pn)) (v := .ref C1) hg1 hm1 rfl hdb) pa_nil hs) hs2) (by decide) (by decide) hs2 hpl).run pins s σ H Q I ⟨.ref a, e, C1, b, dd, fs, rfl, hk, ed, hdd, q⟩
/-- try: .. except c as n: return n.fld if isinstance(n, c1) and not isinstance(n, c2) else 'word' -/
theorem s_tryIs {i kq : Nat} {n cn c1 c2 u : Str} {C1 C2 : Addr} {body : List Stmt} {mb : SM} {np p1 p2 p3 pos pos' q1 q2 q3 q4 q5 q6 q7 q8 q9 q10 q11 q12 : Pos} {c : Value} {cat : Addr → Option Bool} (hs : X.stack = X.env :: X.outer) (hf : X.env.frame = some X.env.locals) (hN : X.N.Nodup) (hln : X.env.kindOf n = some .local) (hc : Names X cn c) (tk : Takes X (WXof E))
    (T : XTxt X.prog X.K X.mg x fld C) (IT : ITxt X.K C) (k1 : PySem.W.kitOne X.K (.ref C) (.ref C1) = some true) (k2 : PySem.W.kitOne X.K (.ref C) (.ref C2) = some false) (m1 : X.mg c1 = some (.ref C1)) (m2 : X.mg c2 = some (.ref C2)) (hm : X.mg "isinstance" = none)
    (ct : Catch X.K c cat) (hb : ∀ (W : WX) (pn : List (Addr × Obj)) (xe : Value → Shared → Prop), Takes (X.tr pn xe) W → PassesOwn (model X.prog X.w) X.A X.env xe → PSs (X.tr pn xe) body (tS k (WE W) mb))
    (hi : X.N[i]? = some n := by rfl) (hbase : attributeBase (.Name n p1) fld X.env (eval (.Name n p1) X.env) = eval (.Name n p1) X.env := by rfl)
    (hv : Vis X.env.scope n := by first | exact Or.inl rfl | exact Or.inr (Or.inl rfl) | exact Or.inr (Or.inr rfl)) (hd : (n == ("__debug__" : Str)) = false := by decide) (hcd : (n == ("__classdict__" : Str)) = false := by decide)
    (g1 : Gl X c1 := by rfl) (g2 : Gl X c2 := by rfl) (hg : Gl X "isinstance" := by rfl) (d1 : (c1 == ("__debug__" : Str)) = false := by decide) (d2 : (c2 == ("__debug__" : Str)) = false := by decide)
    (s1 : starEach [.Name c1 q3] X.env = (false, eval (.Name c1 q3) X.env) :: starEach [] X.env := by rfl) (s2 : starEach [.Name n q2, .Name c1 q3] X.env = (false, eval (.Name n q2) X.env) :: starEach [.Name c1 q3] X.env := by rfl) (hpl1 : (backTo q4 (starEach [.Name c1 q3] X.env)).any (·.1) = false := by rfl)
    (s3 : starEach [.Name c2 q7] X.env = (false, eval (.Name c2 q7) X.env) :: starEach [] X.env := by rfl) (s4 : starEach [.Name n q6, .Name c2 q7] X.env = (false, eval (.Name n q6) X.env) :: starEach [.Name c2 q7] X.env := by rfl) (hpl2 : (backTo q8 (starEach [.Name c2 q7] X.env)).any (·.1) = false := by rfl) :
    PS X (.Try body [.ExceptHandler (some (.Name cn np)) (some n) [.Return (some (.IfExp (.BoolOp .And [.Call (.Name "isinstance" q1) [.Name n q2, .Name c1 q3] [] q4, .UnaryOp .Not (.Call (.Name "isinstance" q5) [.Name n q6, .Name c2 q7] [] q8) q9] q10) (.Attribute (.Name n p1) fld p2) (.Constant (.str u) kq q11) q12)) p3] pos'] [] [] pos) (tS k E (mTryFld mb cat C fld i)) :=
  PS.weak (ps_try_as (i := i) (tb := fun W => tS k (WE W) mb) (ts := fun a cls d => tRet (tIf (tAnd (tB (tIsE C true a cls d i)) (tNot (tB (tIsE C false a cls d i)))) (tXF C fld a cls d (tVar i)) (tC (.str u)))) (Wout := WXof E) hs hf hN hi hln hc tk hb
    (fun a oe cls d pn hz hfl => pss_one (ps_ret (pe_ifExp (pw_and (pt_val (pe_isE (pn := pn) T IT hz hfl k1 m1 g1 hm hg hi hv hd hcd d1 s1 s2 hpl1)) (pw_and1 (pt_not (pt_val (pe_isE (pn := pn) T IT hz hfl k2 m2 g2 hm hg hi hv hd hcd d2 s3 s4 hpl2))))).pt (pe_xf T hz hfl (pv (X := X.suite a ((a, oe) :: pn)) i hi hv hd hcd) hbase) pe_str)))) fun D σ H ⟨G, H0, P, F, Γ, st, ok, w⟩ => by
    refine ⟨G, H0, P, F, Γ, st, ok, ?_⟩
    unfold mTryFld at w
    revert w
    cases mb Γ st with
    | ok r st' =>
      cases r with
      | nx Γ' => exact fun w => w
      | rt d => exact fun w => w
      | bk Γ' => exact fun w => w
      | ct Γ' => exact fun w => w
      | xc C' fs Γ' =>
        intro w σ' F' H' da vs o e q
        dsimp only at w
        split at w
        · rename_i hcat
          split at w
          · rename_i f d
            split at w
            · rename_i hh
              obtain ⟨hC, hf, hi'⟩ := hh
              subst hC hf
              obtain ⟨v, rfl, rv⟩ := repX_one q
              refine ⟨true, ct _ _ hcat, fun _ a na => ?_, fun z => by cases z⟩
              have hlt : i < σ'.length := by rw [o.ok.len]; exact hi'
              refine ⟨.ref a, by rw [List.getElem?_set_self hlt], rfl, rfl, da, _, rfl, e, true, rfl, ?_⟩
              refine iteT ⟨.ref a, by rw [List.getElem?_set_self hlt], rfl, rfl, da, _, rfl, e, false, rfl, ?_⟩
              refine iteT ⟨.ref a, by rw [List.getElem?_set_self hlt], rfl, rfl, da, v, rfl, e, ?_⟩
              exact w v F' H' o.toStep rv
            · exact w.elim
          · exact w.elim
        · rename_i hcat
          exact ⟨false, ct _ _ hcat, fun z => (by cases z), fun _ => w σ' F' H' da vs o e q⟩
        · exact w.elim
    | err C fs st' => exact fun w => w.elim
    | stuck => exact fun w => w.elim
end
end FL

/-! FL31: a module's tuple from what the top has laid -/
namespace FL
open PySem PySem.Spec PyProof.Rows L2
theorem ktup_mk {K : PySem.W.Frag} {h : Heap} {mg : Str → Option Value} (X : K.In h) (G : h.Ns mainGlobals mg) {x : Str} {ns : List Int} {a : Addr} {o : Obj} {its : Array Value} {n : Nat} (h1 : PySem.W.nsIn K mainGlobals x = some (some (.ref a))) (h2 : K.lookup a = some o) (h3 : o.cls = .type "tuple") (h4 : o.data = .seq its n) (h5 : its.size ≤ sizeLine) (h6 : Vals (ns.map V.int) its.toList) : KTup K mg x ns :=
  ⟨a, o, its, n, PySem.W.mg_of X G h1, h2, h3, h4, h5, h6⟩
section
variable {X : Cx} {k : Kx}
def gIn_ (neg : Bool) : M2 := fun d e st => match asL e with
  | some xs => if d.plain && D.plains xs && SeqAt.shaped d.py && SeqAt.shaped (.list (D.pys xs)) then .ok (.bl (neg != (D.pys xs).any fun z => PyData.eqv z d.py)) st else .stuck
  | none => .stuck
abbrev gIn : M2 := gIn_ false
abbrev gNotIn : M2 := gIn_ true
theorem asL_py {d : D} {xs : List D} (e : asL d = some xs) : d.py = .list (D.pys xs) ∧ d.plain = D.plains xs := by
  unfold asL at e
  split at e
  · cases e; exact ⟨by rw [D.py], by rw [D.plain]⟩
  · cases e; exact ⟨by rw [D.py], by rw [D.plain]⟩
  · cases e
theorem s_in (hu : X.A.units + 80 < cLine) (hk : k.K = X.K := by rfl) : OpS X k (compareOp .In) gIn :=
  ⟨_, op_inD (Nat.lt_of_le_of_lt (Nat.add_le_add_left (by decide) _) hu), fun {E σ F H Γ st x y d e Q} ok rx ry w => by
    unfold gIn gIn_ at w
    split at w
    · rename_i xs ex
      obtain ⟨e1, e2⟩ := asL_py ex
      split at w
      · rename_i hc
        simp only [Bool.and_eq_true] at hc
        obtain ⟨⟨⟨p1, p2⟩, p3⟩, p4⟩ := hc
        exact ⟨_, _, hk ▸ rx.dp ok.sub ok.bsub p1, e1 ▸ hk ▸ ry.dp ok.sub ok.bsub (by rw [e2]; exact p2), p3, p4, by simpa using w F H ok.refl _ (.bl _)⟩
      · exact w.elim
    · exact w.elim⟩
theorem s_notin (hu : X.A.units + 80 < cLine) (hk : k.K = X.K := by rfl) : OpS X k (compareOp .NotIn) gNotIn :=
  ⟨_, op_notInD (Nat.lt_of_le_of_lt (Nat.add_le_add_left (by decide) _) hu), fun {E σ F H Γ st x y d e Q} ok rx ry w => by
    unfold gNotIn gIn_ at w
    split at w
    · rename_i xs ex
      obtain ⟨e1, e2⟩ := asL_py ex
      split at w
      · rename_i hc
        simp only [Bool.and_eq_true] at hc
        obtain ⟨⟨⟨p1, p2⟩, p3⟩, p4⟩ := hc
        exact ⟨_, _, hk ▸ rx.dp ok.sub ok.bsub p1, e1 ▸ hk ▸ ry.dp ok.sub ok.bsub (by rw [e2]; exact p2), p3, p4, by simpa using w F H ok.refl _ (.bl _)⟩
      · exact w.elim
    · exact w.elim⟩
end
end FL

/-! FL32: data with wide ints: repr, == -/
namespace FL
open PySem L2
theorem wide10 : (2 : Nat) ^ 1900 < 10 ^ 600 := by decide +kernel
theorem shown_wide {i : Int} (h : i.natAbs < 2 ^ 1900) : (PyData.shown (.int i)).length ≤ 601 := by
  have e := int_text_length_le10 (k := 600) (by decide) (Nat.lt_trans h wide10)
  show (Str.ofString (toString i)).length ≤ 601
  rw [ofString_length]
  exact e
theorem wid_fits {d : PyData} (h : d.leavesShort 601 = true) (hw : d.weight ≤ 2 ^ 14) : d.shown.length ≤ sizeLine := by
  have h := PyData.shown_le 601 (by decide) d h
  have h2 : (601 + 2) * d.weight ≤ 603 * 16384 := Nat.mul_le_mul (by omega) (by omega)
  rw [sizeLine_eq]
  omega
inductive Wid : Nat → Nat → D → Prop
  | non {d w : Nat} : Wid d w .non
  | bl {d w : Nat} {b : Bool} : Wid d w (.bl b)
  | int {d w : Nat} {i : Int} (h : i.natAbs < 2 ^ 1900) (hw : 1900 ≤ w) : Wid d w (.int i)
  | str {d w : Nat} {x : Str} (h : PyData.strOk x = true) (hw : x.cps.size ≤ w) : Wid d w (.str x)
  | tup {d w v : Nat} {xs : List D} (h : ∀ x ∈ xs, Wid d v x) (hw : xs.length * (v + 1) ≤ w) : Wid (d + 1) w (.tup xs)
  | lst {d w v : Nat} {xs : List D} (h : ∀ x ∈ xs, Wid d v x) (hw : xs.length * (v + 1) ≤ w) : Wid (d + 1) w (.lst xs)
  | bor {d w v : Nat} {xs : List D} (h : ∀ x ∈ xs, Wid d v x) (hw : xs.length * (v + 1) ≤ w) : Wid (d + 1) w (.bor xs)
/-- what it gives -/
structure WidF (d w : Nat) (x : D) : Prop where
  plain : x.plain = true
  lay : x.py.canLay0 = true
  depth : x.py.depth ≤ d
  show_ : x.py.showable = true
  noDict : x.py.hasDict = false
  short : x.py.leavesShort 601 = true
  weight : x.py.weight ≤ w
structure WidL (d v n : Nat) (xs : List D) : Prop where
  plain : D.plains xs = true
  lay : PyData.canLayAll0 (D.pys xs) = true
  depth : PyData.depthAll (D.pys xs) ≤ d
  show_ : PyData.showableAll (D.pys xs) = true
  noDict : PyData.hasDictAll (D.pys xs) = false
  short : PyData.leavesShortAll 601 (D.pys xs) = true
  weight : PyData.weightAll (D.pys xs) ≤ xs.length * (v + 1)
theorem widL {d v : Nat} : ∀ {xs : List D}, (∀ x ∈ xs, WidF d v x) → WidL d v xs.length xs
  | [], _ => ⟨by simp [D.plains], by simp [D.pys, PyData.canLayAll0], by simp [D.pys, PyData.depthAll], by simp [D.pys, PyData.showableAll], by simp [D.pys, PyData.hasDictAll], by simp [D.pys, PyData.leavesShortAll], by simp [D.pys, PyData.weightAll]⟩
  | x :: xs, h => by
    have a := h x List.mem_cons_self
    have b := widL (xs := xs) fun y hy => h y (List.mem_cons_of_mem _ hy)
    refine ⟨?_, ?_, ?_, ?_, ?_, ?_, ?_⟩
    · rw [D.plains, a.plain, b.plain]; rfl
    · rw [D.pys, PyData.canLayAll0, a.lay, b.lay]; rfl
    · rw [D.pys, PyData.depthAll]; exact Nat.max_le.mpr ⟨a.depth, b.depth⟩
    · rw [D.pys, PyData.showableAll, a.show_, b.show_]; rfl
    · rw [D.pys, PyData.hasDictAll, a.noDict, b.noDict]; rfl
    · rw [D.pys, PyData.leavesShortAll, a.short, b.short]; rfl
    · rw [D.pys, PyData.weightAll, List.length_cons, Nat.succ_mul]
      have := a.weight
      have := b.weight
      omega
theorem Wid.facts {d w : Nat} {x : D} (h : Wid d w x) : WidF d w x := by
  induction h with
  | non => exact ⟨by simp [D.plain], by simp [D.py, PyData.canLay0], by simp [D.py, PyData.depth], by simp [D.py, PyData.showable], by simp [D.py, PyData.hasDict], by simp [D.py, PyData.leavesShort], by simp [D.py, PyData.weight]⟩
  | bl => exact ⟨by simp [D.plain], by simp [D.py, PyData.canLay0], by simp [D.py, PyData.depth], by simp [D.py, PyData.showable], by simp [D.py, PyData.hasDict], by simp [D.py, PyData.leavesShort], by simp [D.py, PyData.weight]⟩
  | @int d w i h hw =>
    have lg : i.natAbs.log2 < 1900 := PySem.Flt.log2_lt_of (by decide) h
    refine ⟨by simp [D.plain], by simp [D.py, PyData.canLay0], by simp [D.py, PyData.depth], ?_, by simp [D.py, PyData.hasDict], ?_, ?_⟩
    · rw [D.py, PyData.showable]; exact decide_eq_true (by omega)
    · rw [D.py, PyData.leavesShort]; exact decide_eq_true (shown_wide h)
    · rw [D.py, PyData.weight]
      split
      · omega
      · omega
  | @str d w x h hw =>
    refine ⟨by simp [D.plain], by rw [D.py, PyData.canLay0]; exact h, by simp [D.py, PyData.depth], by simp [D.py, PyData.showable], by simp [D.py, PyData.hasDict], ?_, by rw [D.py, PyData.weight]; exact hw⟩
    rw [D.py, PyData.leavesShort, List.all_eq_true]
    intro c hc
    have q := (Array.all_eq_true_iff_forall_mem.mp (show x.cps.all (· < 0x110000) = true from h)) c (Array.mem_toList_iff.mp hc)
    have q : c < 0x110000 := by simpa using q
    have e : (16 : Nat) ^ 8 = 4294967296 := by decide
    have e2 : (16 : Nat) ^ 8 ≤ 16 ^ (601 - 5) := Nat.pow_le_pow_right (by decide) (by decide)
    exact decide_eq_true (by omega)
  | tup h hw ih =>
    have b := widL ih
    refine ⟨by rw [D.plain]; exact b.plain, by rw [D.py, PyData.canLay0]; exact b.lay, by rw [D.py, PyData.depth]; exact Nat.succ_le_succ b.depth, by rw [D.py, PyData.showable]; exact b.show_, by rw [D.py, PyData.hasDict]; exact b.noDict, by rw [D.py, PyData.leavesShort]; exact b.short, by rw [D.py, PyData.weight]; exact Nat.le_trans b.weight hw⟩
  | lst h hw ih =>
    have b := widL ih
    refine ⟨by rw [D.plain]; exact b.plain, by rw [D.py, PyData.canLay0]; exact b.lay, by rw [D.py, PyData.depth]; exact Nat.succ_le_succ b.depth, by rw [D.py, PyData.showable]; exact b.show_, by rw [D.py, PyData.hasDict]; exact b.noDict, by rw [D.py, PyData.leavesShort]; exact b.short, by rw [D.py, PyData.weight]; exact Nat.le_trans b.weight hw⟩
  | bor h hw ih =>
    have b := widL ih
    refine ⟨by rw [D.plain]; exact b.plain, by rw [D.py, PyData.canLay0]; exact b.lay, by rw [D.py, PyData.depth]; exact Nat.succ_le_succ b.depth, by rw [D.py, PyData.showable]; exact b.show_, by rw [D.py, PyData.hasDict]; exact b.noDict, by rw [D.py, PyData.leavesShort]; exact b.short, by rw [D.py, PyData.weight]; exact Nat.le_trans b.weight hw⟩
theorem Wid.repr {d w : Nat} {x : D} (h : Wid d w x) (hd : d ≤ 60) (hw : w ≤ 2 ^ 14) : reprOk x = true := by
  have f := h.facts
  unfold reprOk
  simp only [f.plain, f.show_, f.noDict, Bool.not_false, Bool.and_true, Bool.true_and, Bool.and_eq_true, decide_eq_true_eq]
  exact ⟨Nat.le_trans f.depth hd, wid_fits f.short (Nat.le_trans f.weight hw)⟩
theorem Wid.eqOk {d w d' w' : Nat} {x y : D} (h : Wid d w x) (h' : Wid d' w' y) (hd : d ≤ 60) (hd' : d' ≤ 60) : eqOk x y = true := by
  have f := h.facts
  have f' := h'.facts
  have s : SeqAt.shaped x.py = true := by
    unfold SeqAt.shaped
    rw [f.lay, decide_eq_true (Nat.le_trans f.depth (by omega))]; rfl
  have s' : SeqAt.shaped y.py = true := by
    unfold SeqAt.shaped
    rw [f'.lay, decide_eq_true (Nat.le_trans f'.depth (by omega))]; rfl
  unfold FL.eqOk
  rw [f.plain, f'.plain, s, s']
  simp
theorem Wid.mono {d w d' w' : Nat} {x : D} (h : Wid d w x) (hd : d ≤ d') (hw : w ≤ w') : Wid d' w' x := by
  induction h generalizing d' w' with
  | non => exact .non
  | bl => exact .bl
  | int h h2 => exact .int h (Nat.le_trans h2 hw)
  | str h h2 => exact .str h (Nat.le_trans h2 hw)
  | tup h h2 ih =>
    obtain ⟨e, rfl⟩ : ∃ e, d' = e + 1 := ⟨d' - 1, by omega⟩
    exact .tup (fun x hx => ih x hx (by omega) (Nat.le_refl _)) (Nat.le_trans h2 hw)
  | lst h h2 ih =>
    obtain ⟨e, rfl⟩ : ∃ e, d' = e + 1 := ⟨d' - 1, by omega⟩
    exact .lst (fun x hx => ih x hx (by omega) (Nat.le_refl _)) (Nat.le_trans h2 hw)
  | bor h h2 ih =>
    obtain ⟨e, rfl⟩ : ∃ e, d' = e + 1 := ⟨d' - 1, by omega⟩
    exact .bor (fun x hx => ih x hx (by omega) (Nat.le_refl _)) (Nat.le_trans h2 hw)
end FL

namespace Lk02
open PySem PySem.Spec PyProof.Rows L2 FL
def topS (i : Nat) : Stmt := PySem.Challenge.pw_servedall_k02_whole_sums_quotients_and_o.main.body.getD i (.Pass ⟨0, 0, 0, 0⟩)
abbrev s_negative : Stmt := topS 12
theorem sc_negative : FnScope ["one"] ["one"] (defScope s_negative) := ⟨rfl, rfl, rfl, by decide +kernel, rfl, by decide +kernel, by decide +kernel⟩
abbrev s_sign_of : Stmt := topS 13
theorem sc_sign_of : FnScope ["one"] ["one"] (defScope s_sign_of) := ⟨rfl, rfl, rfl, by decide +kernel, rfl, by decide +kernel, by decide +kernel⟩
abbrev s_compared : Stmt := topS 14
theorem sc_compared : FnScope ["one", "other", "cross"] ["one", "other"] (defScope s_compared) := ⟨rfl, rfl, rfl, by decide +kernel, rfl, by decide +kernel, by decide +kernel⟩
abbrev s_floor_of : Stmt := topS 15
theorem sc_floor_of : FnScope ["one"] ["one"] (defScope s_floor_of) := ⟨rfl, rfl, rfl, by decide +kernel, rfl, by decide +kernel, by decide +kernel⟩
abbrev s_ceiling_of : Stmt := topS 16
theorem sc_ceiling_of : FnScope ["one"] ["one"] (defScope s_ceiling_of) := ⟨rfl, rfl, rfl, by decide +kernel, rfl, by decide +kernel, by decide +kernel⟩
abbrev s__law_source : Stmt := topS 21
theorem sc__law_source : FnScope ["_law_script", "_law_cells", "_law_blend", "_law_cell"] ["_law_script"] (defScope s__law_source) := ⟨rfl, rfl, rfl, by decide +kernel, rfl, by decide +kernel, by decide +kernel⟩
abbrev s__law_any : Stmt := topS 22
theorem sc__law_any : FnScope ["_law_deal", "_law_bound", "_law_rest"] ["_law_deal", "_law_bound"] (defScope s__law_any) := ⟨rfl, rfl, rfl, by decide +kernel, rfl, by decide +kernel, by decide +kernel⟩
abbrev s__law_common : Stmt := topS 24
theorem sc__law_common : FnScope ["_law_one", "_law_other", "_law_step"] ["_law_one", "_law_other"] (defScope s__law_common) := ⟨rfl, rfl, rfl, by decide +kernel, rfl, by decide +kernel, by decide +kernel⟩
abbrev s__law_sign : Stmt := topS 28
theorem sc__law_sign : FnScope ["_law_number"] ["_law_number"] (defScope s__law_sign) := ⟨rfl, rfl, rfl, by decide +kernel, rfl, by decide +kernel, by decide +kernel⟩
abbrev s__law_edge_right : Stmt := topS 35
theorem sc__law_edge_right : FnScope ["_law_some", "_law_told", "_law_way", "_law_one"] ["_law_some", "_law_told", "_law_way"] (defScope s__law_edge_right) := ⟨rfl, rfl, rfl, by decide +kernel, rfl, by decide +kernel, by decide +kernel⟩
abbrev s_fraction : Stmt := topS 7
theorem sc_fraction : FnScope ["top", "bottom", "common"] ["top", "bottom"] (defScope s_fraction) := ⟨rfl, rfl, rfl, by decide +kernel, rfl, by decide +kernel, by decide +kernel⟩
abbrev s_least_of : Stmt := topS 18
theorem sc_least_of : FnScope ["some", "best", "one"] ["some"] (defScope s_least_of) := ⟨rfl, rfl, rfl, by decide +kernel, rfl, by decide +kernel, by decide +kernel⟩
abbrev s_greatest_of : Stmt := topS 19
theorem sc_greatest_of : FnScope ["some", "best", "one"] ["some"] (defScope s_greatest_of) := ⟨rfl, rfl, rfl, by decide +kernel, rfl, by decide +kernel, by decide +kernel⟩
abbrev s__law_of : Stmt := topS 23
theorem sc__law_of : FnScope ["_law_deal", "_law_some"] ["_law_deal", "_law_some"] (defScope s__law_of) := ⟨rfl, rfl, rfl, by decide +kernel, rfl, by decide +kernel, by decide +kernel⟩
abbrev s__law_low : Stmt := topS 25
theorem sc__law_low : FnScope ["_law_top", "_law_bottom", "_law_common_here"] ["_law_top", "_law_bottom"] (defScope s__law_low) := ⟨rfl, rfl, rfl, by decide +kernel, rfl, by decide +kernel, by decide +kernel⟩
abbrev s__law_one_right : Stmt := topS 32
theorem sc__law_one_right : FnScope ["_law_one", "_law_low_here", "_law_high"] ["_law_one"] (defScope s__law_one_right) := ⟨rfl, rfl, rfl, by decide +kernel, rfl, by decide +kernel, by decide +kernel⟩
abbrev s_plus : Stmt := topS 8
theorem sc_plus : FnScope ["one", "other"] ["one", "other"] (defScope s_plus) := ⟨rfl, rfl, rfl, by decide +kernel, rfl, by decide +kernel, by decide +kernel⟩
abbrev s_minus : Stmt := topS 9
theorem sc_minus : FnScope ["one", "other"] ["one", "other"] (defScope s_minus) := ⟨rfl, rfl, rfl, by decide +kernel, rfl, by decide +kernel, by decide +kernel⟩
abbrev s_times : Stmt := topS 10
theorem sc_times : FnScope ["one", "other"] ["one", "other"] (defScope s_times) := ⟨rfl, rfl, rfl, by decide +kernel, rfl, by decide +kernel, by decide +kernel⟩
abbrev s_over : Stmt := topS 11
theorem sc_over : FnScope ["one", "other"] ["one", "other"] (defScope s_over) := ⟨rfl, rfl, rfl, by decide +kernel, rfl, by decide +kernel, by decide +kernel⟩
abbrev s__law_size : Stmt := topS 26
theorem sc__law_size : FnScope ["_law_deal", "_law_great", "_law_number"] ["_law_deal", "_law_great"] (defScope s__law_size) := ⟨rfl, rfl, rfl, by decide +kernel, rfl, by decide +kernel, by decide +kernel⟩
abbrev s__law_quotient : Stmt := topS 30
theorem sc__law_quotient : FnScope ["_law_one", "_law_other", "_law_top", "_law_bottom"] ["_law_one", "_law_other"] (defScope s__law_quotient) := ⟨rfl, rfl, rfl, by decide +kernel, rfl, by decide +kernel, by decide +kernel⟩
abbrev s__law_edge : Stmt := topS 34
theorem sc__law_edge : FnScope ["_law_way", "_law_some", "e"] ["_law_way", "_law_some"] (defScope s__law_edge) := ⟨rfl, rfl, rfl, by decide +kernel, rfl, by decide +kernel, by decide +kernel⟩
abbrev s_total_of : Stmt := topS 17
theorem sc_total_of : FnScope ["some", "found", "one"] ["some"] (defScope s_total_of) := ⟨rfl, rfl, rfl, by decide +kernel, rfl, by decide +kernel, by decide +kernel⟩
abbrev s__law_fraction : Stmt := topS 27
theorem sc__law_fraction : FnScope ["_law_deal", "_law_great", "_law_top", "_law_bottom"] ["_law_deal", "_law_great"] (defScope s__law_fraction) := ⟨rfl, rfl, rfl, by decide +kernel, rfl, by decide +kernel, by decide +kernel⟩
abbrev s__law_divided : Stmt := topS 29
theorem sc__law_divided : FnScope ["_law_one", "_law_other", "e"] ["_law_one", "_law_other"] (defScope s__law_divided) := ⟨rfl, rfl, rfl, by decide +kernel, rfl, by decide +kernel, by decide +kernel⟩
abbrev s__law_undone : Stmt := topS 33
theorem sc__law_undone : FnScope ["_law_one", "_law_other", "_law_third"] ["_law_one", "_law_other", "_law_third"] (defScope s__law_undone) := ⟨rfl, rfl, rfl, by decide +kernel, rfl, by decide +kernel, by decide +kernel⟩
abbrev s__law_pair_right : Stmt := topS 31
theorem sc__law_pair_right : FnScope ["_law_one", "_law_other", "_law_a", "_law_b", "_law_c", "_law_d", "_law_shown", "_law_due", "_law_way"] ["_law_one", "_law_other"] (defScope s__law_pair_right) := ⟨rfl, rfl, rfl, by decide +kernel, rfl, by decide +kernel, by decide +kernel⟩
abbrev s__law_row_right : Stmt := topS 36
theorem sc__law_row_right : FnScope ["_law_some", "_law_row", "_law_top", "_law_bottom", "_law_one", "_law_least", "_law_greatest"] ["_law_some", "_law_row"] (defScope s__law_row_right) := ⟨rfl, rfl, rfl, by decide +kernel, rfl, by decide +kernel, by decide +kernel⟩
abbrev s_law : Stmt := topS 37
theorem sc_law : FnScope ["_law_script", "_law_deal", "_law_turn", "_law_great", "_law_one", "_law_other", "_law_third", "_law_some", "_law_row"] ["_law_script"] (defScope s_law) := ⟨rfl, rfl, rfl, by decide +kernel, rfl, by decide +kernel, by decide +kernel⟩
/-- what the top has laid -/
abbrev c_InvalidSize : Addr := 95
abbrev c_InvalidFraction : Addr := 74
abbrev c_ServeError : Addr := 52
structure Txt (P : Program) (K : PySem.W.Frag) (mg : Str → Option Value) where
  X_InvalidSize : XTxt P K mg "InvalidSize" "word" c_InvalidSize
  G_InvalidFraction : mg "InvalidFraction" = some (.ref c_InvalidFraction)
  G_ServeError : mg "ServeError" = some (.ref c_ServeError)
  I_InvalidSize : ITxt K c_InvalidSize
  k_InvalidSize_InvalidFraction : PySem.W.kitOne K (.ref c_InvalidSize) (.ref c_InvalidFraction) = some false
  k_InvalidSize_ServeError : PySem.W.kitOne K (.ref c_InvalidSize) (.ref c_ServeError) = some true
  G_gcd : mg "gcd" = some (.builtin "math.gcd")
  K_ZERO : KTup K mg "ZERO" [0, 1]
  xm_InvalidSize_InvalidSize : PySem.W.exmOne K (.ref c_InvalidSize) (.ref c_InvalidSize) = some true
  f_negative : Addr
  d_negative : FuncData
  F_negative : Fun K "negative" "negative" s_negative f_negative d_negative
  g_negative : mg "negative" = some (.ref f_negative)
  b_negative : L2.Binds K d_negative ["one"] []
  f_sign_of : Addr
  d_sign_of : FuncData
  F_sign_of : Fun K "sign_of" "sign_of" s_sign_of f_sign_of d_sign_of
  g_sign_of : mg "sign_of" = some (.ref f_sign_of)
  b_sign_of : L2.Binds K d_sign_of ["one"] []
  f_compared : Addr
  d_compared : FuncData
  F_compared : Fun K "compared" "compared" s_compared f_compared d_compared
  g_compared : mg "compared" = some (.ref f_compared)
  b_compared : L2.Binds K d_compared ["one", "other"] []
  f_floor_of : Addr
  d_floor_of : FuncData
  F_floor_of : Fun K "floor_of" "floor_of" s_floor_of f_floor_of d_floor_of
  g_floor_of : mg "floor_of" = some (.ref f_floor_of)
  b_floor_of : L2.Binds K d_floor_of ["one"] []
  f_ceiling_of : Addr
  d_ceiling_of : FuncData
  F_ceiling_of : Fun K "ceiling_of" "ceiling_of" s_ceiling_of f_ceiling_of d_ceiling_of
  g_ceiling_of : mg "ceiling_of" = some (.ref f_ceiling_of)
  b_ceiling_of : L2.Binds K d_ceiling_of ["one"] []
  f__law_source : Addr
  d__law_source : FuncData
  F__law_source : Fun K "_law_source" "_law_source" s__law_source f__law_source d__law_source
  g__law_source : mg "_law_source" = some (.ref f__law_source)
  b__law_source : L2.Binds K d__law_source ["_law_script"] []
  f__law_any : Addr
  d__law_any : FuncData
  F__law_any : Fun K "_law_any" "_law_any" s__law_any f__law_any d__law_any
  g__law_any : mg "_law_any" = some (.ref f__law_any)
  b__law_any : L2.Binds K d__law_any ["_law_deal", "_law_bound"] []
  f__law_common : Addr
  d__law_common : FuncData
  F__law_common : Fun K "_law_common" "_law_common" s__law_common f__law_common d__law_common
  g__law_common : mg "_law_common" = some (.ref f__law_common)
  b__law_common : L2.Binds K d__law_common ["_law_one", "_law_other"] []
  f__law_sign : Addr
  d__law_sign : FuncData
  F__law_sign : Fun K "_law_sign" "_law_sign" s__law_sign f__law_sign d__law_sign
  g__law_sign : mg "_law_sign" = some (.ref f__law_sign)
  b__law_sign : L2.Binds K d__law_sign ["_law_number"] []
  f__law_edge_right : Addr
  d__law_edge_right : FuncData
  F__law_edge_right : Fun K "_law_edge_right" "_law_edge_right" s__law_edge_right f__law_edge_right d__law_edge_right
  g__law_edge_right : mg "_law_edge_right" = some (.ref f__law_edge_right)
  b__law_edge_right : L2.Binds K d__law_edge_right ["_law_some", "_law_told", "_law_way"] []
  f_fraction : Addr
  d_fraction : FuncData
  F_fraction : Fun K "fraction" "fraction" s_fraction f_fraction d_fraction
  g_fraction : mg "fraction" = some (.ref f_fraction)
  b_fraction : L2.Binds K d_fraction ["top", "bottom"] []
  f_least_of : Addr
  d_least_of : FuncData
  F_least_of : Fun K "least_of" "least_of" s_least_of f_least_of d_least_of
  g_least_of : mg "least_of" = some (.ref f_least_of)
  b_least_of : L2.Binds K d_least_of ["some"] []
  f_greatest_of : Addr
  d_greatest_of : FuncData
  F_greatest_of : Fun K "greatest_of" "greatest_of" s_greatest_of f_greatest_of d_greatest_of
  g_greatest_of : mg "greatest_of" = some (.ref f_greatest_of)
  b_greatest_of : L2.Binds K d_greatest_of ["some"] []
  f__law_of : Addr
  d__law_of : FuncData
  F__law_of : Fun K "_law_of" "_law_of" s__law_of f__law_of d__law_of
  g__law_of : mg "_law_of" = some (.ref f__law_of)
  b__law_of : L2.Binds K d__law_of ["_law_deal", "_law_some"] []
  f__law_low : Addr
  d__law_low : FuncData
  F__law_low : Fun K "_law_low" "_law_low" s__law_low f__law_low d__law_low
  g__law_low : mg "_law_low" = some (.ref f__law_low)
  b__law_low : L2.Binds K d__law_low ["_law_top", "_law_bottom"] []
  f__law_one_right : Addr
  d__law_one_right : FuncData
  F__law_one_right : Fun K "_law_one_right" "_law_one_right" s__law_one_right f__law_one_right d__law_one_right
  g__law_one_right : mg "_law_one_right" = some (.ref f__law_one_right)
  b__law_one_right : L2.Binds K d__law_one_right ["_law_one"] []
  f_plus : Addr
  d_plus : FuncData
  F_plus : Fun K "plus" "plus" s_plus f_plus d_plus
  g_plus : mg "plus" = some (.ref f_plus)
  b_plus : L2.Binds K d_plus ["one", "other"] []
  f_minus : Addr
  d_minus : FuncData
  F_minus : Fun K "minus" "minus" s_minus f_minus d_minus
  g_minus : mg "minus" = some (.ref f_minus)
  b_minus : L2.Binds K d_minus ["one", "other"] []
  f_times : Addr
  d_times : FuncData
  F_times : Fun K "times" "times" s_times f_times d_times
  g_times : mg "times" = some (.ref f_times)
  b_times : L2.Binds K d_times ["one", "other"] []
  f_over : Addr
  d_over : FuncData
  F_over : Fun K "over" "over" s_over f_over d_over
  g_over : mg "over" = some (.ref f_over)
  b_over : L2.Binds K d_over ["one", "other"] []
  f__law_size : Addr
  d__law_size : FuncData
  F__law_size : Fun K "_law_size" "_law_size" s__law_size f__law_size d__law_size
  g__law_size : mg "_law_size" = some (.ref f__law_size)
  b__law_size : L2.Binds K d__law_size ["_law_deal", "_law_great"] []
  f__law_quotient : Addr
  d__law_quotient : FuncData
  F__law_quotient : Fun K "_law_quotient" "_law_quotient" s__law_quotient f__law_quotient d__law_quotient
  g__law_quotient : mg "_law_quotient" = some (.ref f__law_quotient)
  b__law_quotient : L2.Binds K d__law_quotient ["_law_one", "_law_other"] []
  f__law_edge : Addr
  d__law_edge : FuncData
  F__law_edge : Fun K "_law_edge" "_law_edge" s__law_edge f__law_edge d__law_edge
  g__law_edge : mg "_law_edge" = some (.ref f__law_edge)
  b__law_edge : L2.Binds K d__law_edge ["_law_way", "_law_some"] []
  f_total_of : Addr
  d_total_of : FuncData
  F_total_of : Fun K "total_of" "total_of" s_total_of f_total_of d_total_of
  g_total_of : mg "total_of" = some (.ref f_total_of)
  b_total_of : L2.Binds K d_total_of ["some"] []
  f__law_fraction : Addr
  d__law_fraction : FuncData
  F__law_fraction : Fun K "_law_fraction" "_law_fraction" s__law_fraction f__law_fraction d__law_fraction
  g__law_fraction : mg "_law_fraction" = some (.ref f__law_fraction)
  b__law_fraction : L2.Binds K d__law_fraction ["_law_deal", "_law_great"] []
  f__law_divided : Addr
  d__law_divided : FuncData
  F__law_divided : Fun K "_law_divided" "_law_divided" s__law_divided f__law_divided d__law_divided
  g__law_divided : mg "_law_divided" = some (.ref f__law_divided)
  b__law_divided : L2.Binds K d__law_divided ["_law_one", "_law_other"] []
  f__law_undone : Addr
  d__law_undone : FuncData
  F__law_undone : Fun K "_law_undone" "_law_undone" s__law_undone f__law_undone d__law_undone
  g__law_undone : mg "_law_undone" = some (.ref f__law_undone)
  b__law_undone : L2.Binds K d__law_undone ["_law_one", "_law_other", "_law_third"] []
  f__law_pair_right : Addr
  d__law_pair_right : FuncData
  F__law_pair_right : Fun K "_law_pair_right" "_law_pair_right" s__law_pair_right f__law_pair_right d__law_pair_right
  g__law_pair_right : mg "_law_pair_right" = some (.ref f__law_pair_right)
  b__law_pair_right : L2.Binds K d__law_pair_right ["_law_one", "_law_other"] []
  f__law_row_right : Addr
  d__law_row_right : FuncData
  F__law_row_right : Fun K "_law_row_right" "_law_row_right" s__law_row_right f__law_row_right d__law_row_right
  g__law_row_right : mg "_law_row_right" = some (.ref f__law_row_right)
  b__law_row_right : L2.Binds K d__law_row_right ["_law_some", "_law_row"] []
  f_law : Addr
  d_law : FuncData
  F_law : Fun K "law" "law" s_law f_law d_law
  b_law : ∀ (s : Shared) (u : Value), BindsTo s d_law ⟨[u], []⟩ [("_law_script", u)]
  kb_negative_0 : KBinds K d_negative ["one"] ["one"] (fun us ws => if us = [] then FL.pick [0] ws else []) (fun vs zs => if vs = [] then FL.pick [0] zs else [])
  kb_sign_of_0 : KBinds K d_sign_of ["one"] ["one"] (fun us ws => if us = [] then FL.pick [0] ws else []) (fun vs zs => if vs = [] then FL.pick [0] zs else [])
  kb_compared_1_0 : KBinds K d_compared ["one", "other"] ["other", "one"] (fun us ws => if us = [] then FL.pick [1, 0] ws else []) (fun vs zs => if vs = [] then FL.pick [1, 0] zs else [])
  kb_floor_of_0 : KBinds K d_floor_of ["one"] ["one"] (fun us ws => if us = [] then FL.pick [0] ws else []) (fun vs zs => if vs = [] then FL.pick [0] zs else [])
  kb_ceiling_of_0 : KBinds K d_ceiling_of ["one"] ["one"] (fun us ws => if us = [] then FL.pick [0] ws else []) (fun vs zs => if vs = [] then FL.pick [0] zs else [])
  kb_least_of_0 : KBinds K d_least_of ["some"] ["some"] (fun us ws => if us = [] then FL.pick [0] ws else []) (fun vs zs => if vs = [] then FL.pick [0] zs else [])
  kb_greatest_of_0 : KBinds K d_greatest_of ["some"] ["some"] (fun us ws => if us = [] then FL.pick [0] ws else []) (fun vs zs => if vs = [] then FL.pick [0] zs else [])
  kb_plus_1_0 : KBinds K d_plus ["one", "other"] ["other", "one"] (fun us ws => if us = [] then FL.pick [1, 0] ws else []) (fun vs zs => if vs = [] then FL.pick [1, 0] zs else [])
  kb_minus_1_0 : KBinds K d_minus ["one", "other"] ["other", "one"] (fun us ws => if us = [] then FL.pick [1, 0] ws else []) (fun vs zs => if vs = [] then FL.pick [1, 0] zs else [])
  kb_times_1_0 : KBinds K d_times ["one", "other"] ["other", "one"] (fun us ws => if us = [] then FL.pick [1, 0] ws else []) (fun vs zs => if vs = [] then FL.pick [1, 0] zs else [])
  kb_over_1_0 : KBinds K d_over ["one", "other"] ["other", "one"] (fun us ws => if us = [] then FL.pick [1, 0] ws else []) (fun vs zs => if vs = [] then FL.pick [1, 0] zs else [])
  kb_total_of_0 : KBinds K d_total_of ["some"] ["some"] (fun us ws => if us = [] then FL.pick [0] ws else []) (fun vs zs => if vs = [] then FL.pick [0] zs else [])
  z_abs : mg "abs" = none
  z_bool : mg "bool" = none
  z_int : mg "int" = none
  z_isinstance : mg "isinstance" = none
  z_len : mg "len" = none
  z_list : mg "list" = none
  z_range : mg "range" = none
  z_repr : mg "repr" = none
  z_tuple : mg "tuple" = none
/-! ### the mirrors -/
def mb_negative : SM := (mRet (mTup (mCons (mUn gNeg (mOp gIx (mVar 0) (mC (.int 0)))) (mCons (mOp gIx (mVar 0) (mC (.int 1))) mNil))))
def m_negative : List D → M D := fnM 1 1 mb_negative
def mb_sign_of : SM := (mSeq (mIfS (mB (mOp gEq (mOp gIx (mVar 0) (mC (.int 0))) (mC (.int 0)))) (mRet (mC (.int 0))) mNext)
  (mRet (mIf (mB (mOp gGt (mOp gIx (mVar 0) (mC (.int 0))) (mC (.int 0)))) (mC (.int 1)) (mUn gNeg (mC (.int 1))))))
def m_sign_of : List D → M D := fnM 1 1 mb_sign_of
def mb_compared : SM := (mSeq (mAsg (mOp gSub (mOp gMulW (mOp gIx (mVar 0) (mC (.int 0))) (mOp gIx (mVar 1) (mC (.int 1)))) (mOp gMulW (mOp gIx (mVar 1) (mC (.int 0))) (mOp gIx (mVar 0) (mC (.int 1))))) (mgName 2))
  (mSeq (mIfS (mB (mOp gEq (mVar 2) (mC (.int 0)))) (mRet (mC (.int 0))) mNext)
  (mRet (mIf (mB (mOp gGt (mVar 2) (mC (.int 0)))) (mC (.int 1)) (mUn gNeg (mC (.int 1)))))))
def m_compared : List D → M D := fnM 2 3 mb_compared
def mb_floor_of : SM := (mRet (mOp gDivW (mOp gIx (mVar 0) (mC (.int 0))) (mOp gIx (mVar 0) (mC (.int 1)))))
def m_floor_of : List D → M D := fnM 1 1 mb_floor_of
def mb_ceiling_of : SM := (mRet (mUn gNeg (mOp gDivW (mUn gNeg (mOp gIx (mVar 0) (mC (.int 0)))) (mOp gIx (mVar 0) (mC (.int 1))))))
def m_ceiling_of : List D → M D := fnM 1 1 mb_ceiling_of
def mb__law_source : SM := (mSeq (mAsg (mFrz (mComp (mSeqOf (mSl (mVar 0) mNoP (mSomeP (mC (.int 63))))) (mgName 3) mYes (mCall gAbs (mCons (mCall gIntOf (mCons (mVar 3) mNil)) mNil)) [3])) (mgName 1))
  (mSeq (mAsg (mC (.int 20811)) (mgName 2))
  (mSeq (mFor (mSeqOf (mVar 1)) (mgName 3) (mAsg (mOp gMod (mCall gIntOf (mCons (mOp gAdd (mOp gAdd (mOp gMulW (mVar 2) (mC (.int 48271))) (mOp gMod (mVar 3) (mC (.int 2147483549)))) (mC (.int 41))) mNil)) (mC (.int 2147483647))) (mgName 2)))
  (mRet (mLst (mCons (mUn gRev (mFrz (mComp (mSeqOf (mVar 1)) (mgName 3) (mB (mOp gGe (mVar 3) (mOp gPow (mC (.int 10)) (mC (.int 18))))) (mVar 3) [3]))) (mCons (mVar 2) mNil)))))))
def m__law_source : List D → M D := fnM 1 4 mb__law_source
def m__law_any : List D → M D := gAnyD 41
def mb__law_common : SM := (mSeq (mPar 0 1 (mCons (mCall gAbs (mCons (mCall gIntOf (mCons (mVar 0) mNil)) mNil)) (mCons (mCall gAbs (mCons (mCall gIntOf (mCons (mVar 1) mNil)) mNil)) mNil)))
  (mSeq (mFor (mSrc gRange1 (mCons (mC (.int 9000)) mNil)) (mgName 2) (mSeq (mIfS (mB (mOp gEq (mVar 1) (mC (.int 0)))) mBreak mNext)
  (mPar 0 1 (mCons (mVar 1) (mCons (mOp gMod (mCall gIntOf (mCons (mVar 0) mNil)) (mVar 1)) mNil)))))
  (mRet (mVar 0))))
def m__law_common : List D → M D := fnM 2 3 mb__law_common
def mb__law_sign : SM := (mRet (mIf (mB (mOp gGt (mVar 0) (mC (.int 0)))) (mC (.int 1)) (mIf (mB (mOp gEq (mVar 0) (mC (.int 0)))) (mC (.int 0)) (mUn gNeg (mC (.int 1))))))
def m__law_sign : List D → M D := fnM 1 1 mb__law_sign
def mb__law_edge_right : SM := (mSeq (mIfS (mB (mOp gEq (mVar 0) (mLst mNil))) (mRet (mOp gEq (mVar 1) (mC (.str "some")))) mNext)
  (mSeq (mIfS (mB (mOp gNotIn (mCall gRepr (mCons (mVar 1) mNil)) (mFrz (mComp (mSeqOf (mVar 0)) (mgName 3) mYes (mCall gRepr (mCons (mVar 3) mNil)) [3])))) (mRet (mC (.bl false))) mNext)
  (mSeq (mFor (mSeqOf (mVar 0)) (mgName 3) (mIfS (mB (mOp gGt (mOp gMulW (mVar 2) (mOp gSub (mOp gMulW (mOp gIx (mVar 3) (mC (.int 0))) (mOp gIx (mVar 1) (mC (.int 1)))) (mOp gMulW (mOp gIx (mVar 1) (mC (.int 0))) (mOp gIx (mVar 3) (mC (.int 1)))))) (mC (.int 0)))) (mRet (mC (.bl false))) mNext))
  (mRet (mC (.bl true))))))
def m__law_edge_right : List D → M D := fnM 3 4 mb__law_edge_right
def mb_fraction : SM := (mSeq (mIfS (mB (mOp gEq (mVar 1) (mC (.int 0)))) (mRaise c_InvalidSize "word" (mC (.str "bottom"))) mNext)
  (mSeq (mIfS (mB (mOp gLt (mVar 1) (mC (.int 0)))) (mPar 0 1 (mCons (mUn gNeg (mVar 0)) (mCons (mUn gNeg (mVar 1)) mNil))) mNext)
  (mSeq (mAsg (mCall gGcd (mCons (mVar 0) (mCons (mVar 1) mNil))) (mgName 2))
  (mRet (mTup (mCons (mOp gDivW (mVar 0) (mVar 2)) (mCons (mOp gDivW (mVar 1) (mVar 2)) mNil)))))))
def m_fraction : List D → M D := fnX 2 3 mb_fraction
def mb_least_of : SM := (mSeq (mIfS (mB (mOp gEq (mCall gLen (mCons (mVar 0) mNil)) (mC (.int 0)))) (mRaise c_InvalidSize "word" (mC (.str "some"))) mNext)
  (mSeq (mAsg (mOp gIx (mVar 0) (mC (.int 0))) (mgName 1))
  (mSeq (mFor (mSeqOf (mVar 0)) (mgName 2) (mIfS (mB (mOp gLt (mCall (fun ds => nxM (m_compared ds)) (mCons (mVar 2) (mCons (mVar 1) mNil))) (mC (.int 0)))) (mAsg (mVar 2) (mgName 1)) mNext))
  (mRet (mVar 1)))))
def m_least_of : List D → M D := fnX 1 3 mb_least_of
def mb_greatest_of : SM := (mSeq (mIfS (mB (mOp gEq (mCall gLen (mCons (mVar 0) mNil)) (mC (.int 0)))) (mRaise c_InvalidSize "word" (mC (.str "some"))) mNext)
  (mSeq (mAsg (mOp gIx (mVar 0) (mC (.int 0))) (mgName 1))
  (mSeq (mFor (mSeqOf (mVar 0)) (mgName 2) (mIfS (mB (mOp gGt (mCall (fun ds => nxM (m_compared ds)) (mCons (mVar 2) (mCons (mVar 1) mNil))) (mC (.int 0)))) (mAsg (mVar 2) (mgName 1)) mNext))
  (mRet (mVar 1)))))
def m_greatest_of : List D → M D := fnX 1 3 mb_greatest_of
def mb__law_of : SM := (mRet (mOp gIx (mVar 1) (mCall (fun ds => nxM (m__law_any ds)) (mCons (mVar 0) (mCons (mCall gLen (mCons (mVar 1) mNil)) mNil)))))
def m__law_of : List D → M D := fnM 2 2 mb__law_of
def mb__law_low : SM := (mSeq (mAsg (mCall (fun ds => nxM (m__law_common ds)) (mCons (mVar 0) (mCons (mVar 1) mNil))) (mgName 2))
  (mRet (mTup (mCons (mOp gDivW (mCall gIntOf (mCons (mVar 0) mNil)) (mVar 2)) (mCons (mOp gDivW (mCall gIntOf (mCons (mVar 1) mNil)) (mVar 2)) mNil)))))
def m__law_low : List D → M D := fnM 2 3 mb__law_low
def mb__law_one_right : SM := (mSeq (mPar 1 2 (mCons (mCall (fun ds => nxM (m_floor_of ds)) (mCons (mVar 0) mNil)) (mCons (mCall (fun ds => nxM (m_ceiling_of ds)) (mCons (mVar 0) mNil)) mNil)))
  (mSeq (mIfS (mOrT (mB (mOp gNe (mCall gRepr (mCons (mCall (fun ds => nxM (m_sign_of ds)) (mCons (mVar 0) mNil)) mNil)) (mCall gRepr (mCons (mCall (fun ds => nxM (m__law_sign ds)) (mCons (mOp gIx (mVar 0) (mC (.int 0))) mNil)) mNil)))) (mOrT (mNotT (mB (mUn (gIsi "int") (mVar 1)))) (mNotT (mB (mUn (gIsi "int") (mVar 2)))))) (mRet (mC (.bl false))) mNext)
  (mSeq (mIfS (mOrT (mB (mUn (gIsi "bool") (mVar 1))) (mOrT (mB (mUn (gIsi "bool") (mVar 2))) (mOrT (mB (mOp gNe (mCall (fun ds => nxM (m_floor_of (FL.pick [0] ds))) (mCons (mVar 0) mNil)) (mVar 1))) (mB (mOp gNe (mCall (fun ds => nxM (m_ceiling_of (FL.pick [0] ds))) (mCons (mVar 0) mNil)) (mVar 2)))))) (mRet (mC (.bl false))) mNext)
  (mSeq (mIfS (mOrT (mB (mOp gGt (mOp gMulW (mVar 1) (mOp gIx (mVar 0) (mC (.int 1)))) (mOp gIx (mVar 0) (mC (.int 0))))) (mOrT (mB (mOp gGe (mOp gIx (mVar 0) (mC (.int 0))) (mOp gAdd (mOp gMulW (mVar 1) (mOp gIx (mVar 0) (mC (.int 1)))) (mOp gIx (mVar 0) (mC (.int 1)))))) (mB (mOp gNe (mCall (fun ds => nxM (m_sign_of (FL.pick [0] ds))) (mCons (mVar 0) mNil)) (mCall (fun ds => nxM (m_sign_of ds)) (mCons (mVar 0) mNil)))))) (mRet (mC (.bl false))) mNext)
  (mRet (mAnd (mOp gGe (mOp gMulW (mVar 2) (mOp gIx (mVar 0) (mC (.int 1)))) (mOp gIx (mVar 0) (mC (.int 0)))) (mOp gGt (mOp gIx (mVar 0) (mC (.int 0))) (mOp gSub (mOp gMulW (mVar 2) (mOp gIx (mVar 0) (mC (.int 1)))) (mOp gIx (mVar 0) (mC (.int 1)))))))))))
def m__law_one_right : List D → M D := fnM 1 3 mb__law_one_right
def mb_plus : SM := (mRet (mCall m_fraction (mCons (mOp gAdd (mOp gMulW (mOp gIx (mVar 0) (mC (.int 0))) (mOp gIx (mVar 1) (mC (.int 1)))) (mOp gMulW (mOp gIx (mVar 1) (mC (.int 0))) (mOp gIx (mVar 0) (mC (.int 1))))) (mCons (mOp gMulW (mOp gIx (mVar 0) (mC (.int 1))) (mOp gIx (mVar 1) (mC (.int 1)))) mNil))))
def m_plus : List D → M D := fnX 2 2 mb_plus
def mb_minus : SM := (mRet (mCall m_fraction (mCons (mOp gSub (mOp gMulW (mOp gIx (mVar 0) (mC (.int 0))) (mOp gIx (mVar 1) (mC (.int 1)))) (mOp gMulW (mOp gIx (mVar 1) (mC (.int 0))) (mOp gIx (mVar 0) (mC (.int 1))))) (mCons (mOp gMulW (mOp gIx (mVar 0) (mC (.int 1))) (mOp gIx (mVar 1) (mC (.int 1)))) mNil))))
def m_minus : List D → M D := fnX 2 2 mb_minus
def mb_times : SM := (mRet (mCall m_fraction (mCons (mOp gMulW (mOp gIx (mVar 0) (mC (.int 0))) (mOp gIx (mVar 1) (mC (.int 0)))) (mCons (mOp gMulW (mOp gIx (mVar 0) (mC (.int 1))) (mOp gIx (mVar 1) (mC (.int 1)))) mNil))))
def m_times : List D → M D := fnX 2 2 mb_times
def mb_over : SM := (mRet (mCall m_fraction (mCons (mOp gMulW (mOp gIx (mVar 0) (mC (.int 0))) (mOp gIx (mVar 1) (mC (.int 1)))) (mCons (mOp gMulW (mOp gIx (mVar 0) (mC (.int 1))) (mOp gIx (mVar 1) (mC (.int 0)))) mNil))))
def m_over : List D → M D := fnX 2 2 mb_over
def mb__law_size : SM := (mSeq (mAsg (mCall (fun ds => nxM (m__law_of ds)) (mCons (mVar 0) (mCons (mLst (mCons (mC (.int 0)) (mCons (mC (.int 1)) (mCons (mC (.int 1)) (mCons (mC (.int 2)) (mCons (mC (.int 3)) (mCons (mCall (fun ds => nxM (m__law_any ds)) (mCons (mVar 0) (mCons (mC (.int 13)) mNil))) (mCons (mCall (fun ds => nxM (m__law_any ds)) (mCons (mVar 0) (mCons (mC (.int 100)) mNil))) (mCons (mCall (fun ds => nxM (m__law_any ds)) (mCons (mVar 0) (mCons (mOp gPow (mC (.int 10)) (mC (.int 6))) mNil))) (mCons (mOp gSub (mOp gSub (mVar 1) (mC (.int 1))) (mCall (fun ds => nxM (m__law_any ds)) (mCons (mVar 0) (mCons (mVar 1) mNil)))) mNil)))))))))) mNil))) (mgName 2))
  (mRet (mIf (mB (mOp gEq (mCall (fun ds => nxM (m__law_any ds)) (mCons (mVar 0) (mCons (mC (.int 2)) mNil))) (mC (.int 0)))) (mOp gSub (mC (.int 0)) (mVar 2)) (mVar 2))))
def m__law_size : List D → M D := fnM 2 3 mb__law_size
def mb__law_quotient : SM := (mSeq (mPar 2 3 (mCons (mOp gMulW (mOp gIx (mVar 0) (mC (.int 0))) (mOp gIx (mVar 1) (mC (.int 1)))) (mCons (mOp gMulW (mOp gIx (mVar 0) (mC (.int 1))) (mOp gIx (mVar 1) (mC (.int 0)))) mNil)))
  (mSeq (mIfS (mB (mOp gEq (mVar 3) (mC (.int 0)))) (mRet (mC (.str "bottom"))) mNext)
  (mRet (mIf (mB (mOp gGt (mVar 3) (mC (.int 0)))) (mCall (fun ds => nxM (m__law_low ds)) (mCons (mVar 2) (mCons (mVar 3) mNil))) (mCall (fun ds => nxM (m__law_low ds)) (mCons (mOp gSub (mC (.int 0)) (mVar 2)) (mCons (mOp gSub (mC (.int 0)) (mVar 3)) mNil)))))))
def m__law_quotient : List D → M D := fnM 2 4 mb__law_quotient
def mb__law_edge : SM := (mTryFld (mRet (mIf (mB (mOp gLt (mVar 0) (mC (.int 0)))) (mCall m_least_of (mCons (mVar 1) mNil)) (mCall m_greatest_of (mCons (mVar 1) mNil)))) (fun C => if C = c_InvalidSize then some true else (fun _ => none) C) c_InvalidSize "word" 2)
def m__law_edge : List D → M D := fnM 2 3 mb__law_edge
def mb_total_of : SM := (mSeq (mAsg (mC (.tup ([0, 1].map D.int))) (mgName 1))
  (mSeq (mFor (mSeqOf (mVar 0)) (mgName 2) (mAsg (mCall m_plus (mCons (mVar 1) (mCons (mVar 2) mNil))) (mgName 1)))
  (mRet (mVar 1))))
def m_total_of : List D → M D := fnX 1 3 mb_total_of
def mb__law_fraction : SM := (mSeq (mPar 2 3 (mCons (mCall (fun ds => nxM (m__law_size ds)) (mCons (mVar 0) (mCons (mVar 1) mNil))) (mCons (mOp gAdd (mC (.int 1)) (mCall gAbs (mCons (mCall (fun ds => nxM (m__law_size ds)) (mCons (mVar 0) (mCons (mOp gSub (mVar 1) (mC (.int 1))) mNil))) mNil))) mNil)))
  (mRet (mCall (fun ds => nxM (m__law_low ds)) (mCons (mCall (fun ds => nxM (m__law_of ds)) (mCons (mVar 0) (mCons (mLst (mCons (mVar 2) (mCons (mVar 2) (mCons (mVar 2) (mCons (mVar 3) (mCons (mOp gSub (mVar 3) (mC (.int 1))) (mCons (mOp gSub (mC (.int 0)) (mVar 3)) (mCons (mC (.int 0)) mNil)))))))) mNil))) (mCons (mVar 3) mNil)))))
def m__law_fraction : List D → M D := fnM 2 4 mb__law_fraction
def mb__law_divided : SM := (mTryFld (mRet (mCall m_over (mCons (mVar 0) (mCons (mVar 1) mNil)))) (fun C => if C = c_InvalidSize then some true else (fun _ => none) C) c_InvalidSize "word" 2)
def m__law_divided : List D → M D := fnM 2 3 mb__law_divided
def mb__law_undone : SM := (mSeq (mIfS (mOrT (mB (mOp gNe (mCall m_minus (mCons (mCall m_plus (mCons (mVar 0) (mCons (mVar 1) mNil))) (mCons (mVar 1) mNil))) (mVar 0))) (mOrT (mB (mOp gNe (mCall m_plus (mCons (mCall m_minus (mCons (mVar 0) (mCons (mVar 1) mNil))) (mCons (mVar 1) mNil))) (mVar 0))) (mB (mOp gNe (mCall m_plus (mCons (mVar 0) (mCons (mCall (fun ds => nxM (m_negative ds)) (mCons (mVar 0) mNil)) mNil))) (mTup (mCons (mC (.int 0)) (mCons (mC (.int 1)) mNil))))))) (mRet (mC (.bl false))) mNext)
  (mSeq (mIfS (mAndT (mB (mOp gNe (mOp gIx (mVar 1) (mC (.int 0))) (mC (.int 0)))) (mOrT (mB (mOp gNe (mCall m_over (mCons (mCall m_times (mCons (mVar 0) (mCons (mVar 1) mNil))) (mCons (mVar 1) mNil))) (mVar 0))) (mB (mOp gNe (mCall m_times (mCons (mVar 1) (mCons (mCall m_over (mCons (mVar 0) (mCons (mVar 1) mNil))) mNil))) (mVar 0))))) (mRet (mC (.bl false))) mNext)
  (mSeq (mIfS (mOrT (mB (mOp gNe (mCall m_times (mCons (mVar 2) (mCons (mCall m_plus (mCons (mVar 0) (mCons (mVar 1) mNil))) mNil))) (mCall m_plus (mCons (mCall m_times (mCons (mVar 2) (mCons (mVar 0) mNil))) (mCons (mCall m_times (mCons (mVar 2) (mCons (mVar 1) mNil))) mNil))))) (mB (mOp gNe (mCall (fun ds => nxM (m_compared ds)) (mCons (mCall m_plus (mCons (mVar 0) (mCons (mVar 2) mNil))) (mCons (mCall m_plus (mCons (mVar 1) (mCons (mVar 2) mNil))) mNil))) (mCall (fun ds => nxM (m_compared ds)) (mCons (mVar 0) (mCons (mVar 1) mNil)))))) (mRet (mC (.bl false))) mNext)
  (mSeq (mIfS (mOrT (mB (mOp gNe (mCall m_plus (mCons (mCall m_plus (mCons (mVar 0) (mCons (mVar 1) mNil))) (mCons (mVar 2) mNil))) (mCall m_plus (mCons (mVar 0) (mCons (mCall m_plus (mCons (mVar 1) (mCons (mVar 2) mNil))) mNil))))) (mB (mOp gNe (mCall m_times (mCons (mCall m_times (mCons (mVar 0) (mCons (mVar 1) mNil))) (mCons (mVar 2) mNil))) (mCall m_times (mCons (mVar 0) (mCons (mCall m_times (mCons (mVar 1) (mCons (mVar 2) mNil))) mNil)))))) (mRet (mC (.bl false))) mNext)
  (mRet (mOp gEq (mCall (fun ds => nxM (m_compared ds)) (mCons (mCall m_times (mCons (mVar 0) (mCons (mVar 2) mNil))) (mCons (mCall m_times (mCons (mVar 1) (mCons (mVar 2) mNil))) mNil))) (mOp gMulW (mCall (fun ds => nxM (m_compared ds)) (mCons (mVar 0) (mCons (mVar 1) mNil))) (mCall (fun ds => nxM (m_sign_of ds)) (mCons (mVar 2) mNil)))))))))
def m__law_undone : List D → M D := fnX 3 3 mb__law_undone
def mb__law_pair_right : SM := (mSeq (mAsg (mTup (mCons (mVar 0) (mCons (mVar 1) mNil))) (mgTup 2 (mgCons (mgTup 2 (mgCons (mgName 2) (mgCons (mgName 3) mgNil))) (mgCons (mgTup 2 (mgCons (mgName 4) (mgCons (mgName 5) mgNil))) mgNil))))
  (mSeq (mAsg (mCall gRepr (mCons (mLst (mCons (mVar 0) (mCons (mVar 1) mNil))) mNil)) (mgName 6))
  (mSeq (mAsg (mLst (mCons (mCall (fun ds => nxM (m__law_low ds)) (mCons (mOp gAdd (mOp gMulW (mVar 2) (mVar 5)) (mOp gMulW (mVar 4) (mVar 3))) (mCons (mOp gMulW (mVar 3) (mVar 5)) mNil))) (mCons (mCall (fun ds => nxM (m__law_low ds)) (mCons (mOp gSub (mOp gMulW (mVar 2) (mVar 5)) (mOp gMulW (mVar 4) (mVar 3))) (mCons (mOp gMulW (mVar 3) (mVar 5)) mNil))) (mCons (mCall (fun ds => nxM (m__law_low ds)) (mCons (mOp gMulW (mVar 2) (mVar 4)) (mCons (mOp gMulW (mVar 3) (mVar 5)) mNil))) (mCons (mCall (fun ds => nxM (m__law_quotient ds)) (mCons (mVar 0) (mCons (mVar 1) mNil))) mNil))))) (mgName 7))
  (mSeq (mIfS (mB (mOp gNe (mCall gRepr (mCons (mLst (mCons (mCall m_plus (mCons (mVar 0) (mCons (mVar 1) mNil))) (mCons (mCall m_minus (mCons (mVar 0) (mCons (mVar 1) mNil))) (mCons (mCall m_times (mCons (mVar 0) (mCons (mVar 1) mNil))) (mCons (mCall (fun ds => nxM (m__law_divided ds)) (mCons (mVar 0) (mCons (mVar 1) mNil))) mNil))))) mNil)) (mCall gRepr (mCons (mVar 7) mNil)))) (mRet (mC (.bl false))) mNext)
  (mSeq (mIfS (mOrT (mB (mOp gNe (mCall (fun ds => m_plus (FL.pick [1, 0] ds)) (mCons (mVar 1) (mCons (mVar 0) mNil))) (mOp gIx (mVar 7) (mC (.int 0))))) (mOrT (mB (mOp gNe (mCall (fun ds => m_minus (FL.pick [1, 0] ds)) (mCons (mVar 1) (mCons (mVar 0) mNil))) (mOp gIx (mVar 7) (mC (.int 1))))) (mB (mOp gNe (mCall (fun ds => m_times (FL.pick [1, 0] ds)) (mCons (mVar 1) (mCons (mVar 0) mNil))) (mOp gIx (mVar 7) (mC (.int 2))))))) (mRet (mC (.bl false))) mNext)
  (mSeq (mIfS (mOrT (mAndT (mB (mOp gNe (mVar 4) (mC (.int 0)))) (mB (mOp gNe (mCall (fun ds => m_over (FL.pick [1, 0] ds)) (mCons (mVar 1) (mCons (mVar 0) mNil))) (mOp gIx (mVar 7) (mC (.int 3)))))) (mOrT (mB (mOp gNe (mCall gRepr (mCons (mCall (fun ds => nxM (m_negative ds)) (mCons (mVar 0) mNil)) mNil)) (mCall gRepr (mCons (mTup (mCons (mOp gSub (mC (.int 0)) (mVar 2)) (mCons (mVar 3) mNil))) mNil)))) (mB (mOp gNe (mCall (fun ds => nxM (m_negative (FL.pick [0] ds))) (mCons (mVar 0) mNil)) (mTup (mCons (mOp gSub (mC (.int 0)) (mVar 2)) (mCons (mVar 3) mNil))))))) (mRet (mC (.bl false))) mNext)
  (mSeq (mAsg (mCall (fun ds => nxM (m__law_sign ds)) (mCons (mOp gSub (mOp gMulW (mVar 2) (mVar 5)) (mOp gMulW (mVar 4) (mVar 3))) mNil)) (mgName 8))
  (mRet (mAnd (mOp gEq (mCall gRepr (mCons (mCall (fun ds => nxM (m_compared ds)) (mCons (mVar 0) (mCons (mVar 1) mNil))) mNil)) (mCall gRepr (mCons (mVar 8) mNil))) (mAnd (mOp gEq (mCall (fun ds => nxM (m_compared (FL.pick [1, 0] ds))) (mCons (mVar 0) (mCons (mVar 1) mNil))) (mOp gSub (mC (.int 0)) (mVar 8))) (mOp gEq (mCall gRepr (mCons (mLst (mCons (mVar 0) (mCons (mVar 1) mNil))) mNil)) (mVar 6))))))))))))
def m__law_pair_right : List D → M D := fnX 2 9 mb__law_pair_right
def mb__law_row_right : SM := (mSeq (mAsg (mTup (mCons (mC (.int 0)) (mCons (mC (.int 1)) mNil))) (mgTup 2 (mgCons (mgName 2) (mgCons (mgName 3) mgNil))))
  (mSeq (mFor (mSeqOf (mVar 0)) (mgName 4) (mPar 2 3 (mCons (mOp gAdd (mOp gMulW (mVar 2) (mOp gIx (mVar 4) (mC (.int 1)))) (mOp gMulW (mOp gIx (mVar 4) (mC (.int 0))) (mVar 3))) (mCons (mOp gMulW (mVar 3) (mOp gIx (mVar 4) (mC (.int 1)))) mNil))))
  (mSeq (mIfS (mOrT (mB (mOp gNe (mCall gRepr (mCons (mCall m_total_of (mCons (mVar 1) mNil)) mNil)) (mCall gRepr (mCons (mCall (fun ds => nxM (m__law_low ds)) (mCons (mVar 2) (mCons (mVar 3) mNil))) mNil)))) (mB (mOp gNe (mCall (fun ds => m_total_of (FL.pick [0] ds)) (mCons (mSl (mVar 1) mNoP (mSomeP (mC (.int 1)))) mNil)) (mIf (mB (mOp gNe (mVar 0) (mLst mNil))) (mOp gIx (mVar 0) (mC (.int 0))) (mTup (mCons (mC (.int 0)) (mCons (mC (.int 1)) mNil))))))) (mRet (mC (.bl false))) mNext)
  (mSeq (mPar 5 6 (mCons (mCall (fun ds => nxM (m__law_edge ds)) (mCons (mUn gNeg (mC (.int 1))) (mCons (mVar 1) mNil))) (mCons (mCall (fun ds => nxM (m__law_edge ds)) (mCons (mC (.int 1)) (mCons (mVar 1) mNil))) mNil)))
  (mSeq (mIfS (mOrT (mNotT (mB (mCall (fun ds => nxM (m__law_edge_right ds)) (mCons (mVar 0) (mCons (mVar 5) (mCons (mUn gNeg (mC (.int 1))) mNil)))))) (mNotT (mB (mCall (fun ds => nxM (m__law_edge_right ds)) (mCons (mVar 0) (mCons (mVar 6) (mCons (mC (.int 1)) mNil))))))) (mRet (mC (.bl false))) mNext)
  (mRet (mOr (mOp gEq (mVar 0) (mLst mNil)) (mAnd (mOp gEq (mCall (fun ds => m_least_of (FL.pick [0] ds)) (mCons (mVar 1) mNil)) (mVar 5)) (mOp gEq (mCall (fun ds => m_greatest_of (FL.pick [0] ds)) (mCons (mVar 1) mNil)) (mVar 6))))))))))
def m__law_row_right : List D → M D := fnX 2 7 mb__law_row_right
def mb_law : SM := (mSeq (mFor (mSrc gRange1 (mCons (mC (.int 3)) mNil)) (mgName 2) (mSeq (mAsg (mCall (fun ds => nxM (m__law_of ds)) (mCons (mVar 1) (mCons (mLst (mCons (mOp gPow (mC (.int 10)) (mC (.int 15))) (mCons (mOp gPow (mC (.int 10)) (mC (.int 15))) (mCons (mOp gPow (mC (.int 10)) (mC (.int 60))) mNil)))) mNil))) (mgName 3))
  (mSeq (mPar3 4 5 6 (mCons (mCall (fun ds => nxM (m__law_fraction ds)) (mCons (mVar 1) (mCons (mVar 3) mNil))) (mCons (mCall (fun ds => nxM (m__law_fraction ds)) (mCons (mVar 1) (mCons (mVar 3) mNil))) (mCons (mCall (fun ds => nxM (m__law_fraction ds)) (mCons (mVar 1) (mCons (mVar 3) mNil))) mNil))))
  (mSeq (mAsg (mCall (fun ds => nxM (m__law_of ds)) (mCons (mVar 1) (mCons (mLst (mCons (mVar 5) (mCons (mVar 5) (mCons (mVar 5) (mCons (mVar 4) (mCons (mTup (mCons (mOp gSub (mC (.int 0)) (mOp gIx (mVar 4) (mC (.int 0)))) (mCons (mOp gIx (mVar 4) (mC (.int 1))) mNil))) (mCons (mTup (mCons (mC (.int 0)) (mCons (mC (.int 1)) mNil))) mNil))))))) mNil))) (mgName 5))
  (mSeq (mIfS (mOrT (mNotT (mB (mCall (fun ds => nxM (m__law_pair_right ds)) (mCons (mVar 4) (mCons (mVar 5) mNil))))) (mOrT (mNotT (mB (mCall (fun ds => nxM (m__law_pair_right ds)) (mCons (mVar 5) (mCons (mVar 6) mNil))))) (mNotT (mB (mCall (fun ds => nxM (m__law_one_right ds)) (mCons (mVar 4) mNil)))))) (mRet (mC (.bl false))) mNext)
  (mIfS (mAndT (mB (mOp gLt (mVar 3) (mOp gPow (mC (.int 10)) (mC (.int 60))))) (mNotT (mB (mCall (fun ds => nxM (m__law_undone ds)) (mCons (mVar 4) (mCons (mVar 5) (mCons (mVar 6) mNil))))))) (mRet (mC (.bl false))) mNext))))))
  (mSeq (mAsg (mCall (fun ds => nxM (m__law_of ds)) (mCons (mVar 1) (mCons (mLst (mCons (mOp gPow (mC (.int 10)) (mC (.int 3))) (mCons (mOp gPow (mC (.int 10)) (mC (.int 9))) (mCons (mOp gPow (mC (.int 10)) (mC (.int 20))) mNil)))) mNil))) (mgName 3))
  (mSeq (mSetO 7 (mComp (mSrc gRange1 (mCons (mCall (fun ds => nxM (m__law_any ds)) (mCons (mVar 1) (mCons (mC (.int 9)) mNil))) mNil)) (mgName 2) mYes (mCall (fun ds => nxM (m__law_fraction ds)) (mCons (mVar 1) (mCons (mVar 3) mNil))) [2]))
  (mSeq (mFor (mSrc gRange1 (mCons (mCall (fun ds => nxM (m__law_any ds)) (mCons (mVar 1) (mCons (mC (.int 4)) mNil))) mNil)) (mgName 2) (mIns 7 (mBor 7 (mCall (fun ds => nxM (m__law_any ds)) (mCons (mVar 1) (mCons (mOp gAdd (mCall gLen (mCons (mVar 7) mNil)) (mC (.int 1))) mNil)))) (mBor 7 (mIf (mB (mOp gNe (mVar 7) (mLst mNil))) (mOp gIx (mVar 7) (mC (.int 0))) (mTup (mCons (mC (.int 1)) (mCons (mC (.int 2)) mNil)))))))
  (mSeq (mAsg (mBor 7 (mIf (mB (mOp gEq (mCall (fun ds => nxM (m__law_any ds)) (mCons (mVar 1) (mCons (mC (.int 2)) mNil))) (mC (.int 0)))) (mCall gTuple (mCons (mVar 7) mNil)) (mFrz (mCallO gListOf (mCons (mVar 7) mNil))))) (mgName 8))
  (mSeq (mFrzS 7 (mFor (mSeqOf (mVar 7)) (mgName 4) (mIfS (mNotT (mB (mCall (fun ds => nxM (m__law_one_right ds)) (mCons (mVar 4) mNil)))) (mRet (mC (.bl false))) mNext)))
  (mRet (mBor 7 (mAnd (mCall (fun ds => nxM (m__law_row_right ds)) (mCons (mVar 7) (mCons (mVar 8) mNil))) (mOp gEq (mFrz (mCallO gListOf (mCons (mVar 8) mNil))) (mVar 7)))))))))))
/-! ### the walks -/
section
variable {P : Program} {w : World} {K : PySem.W.Frag} {T : List (Addr × Str)} {mg : Str → Option Value} {base : Heap}
theorem ok_negative (t : Txt P K mg) : FnG P w K T mg base 1 t.f_negative t.d_negative ["one"] m_negative := by
  unfold m_negative
  refine ok_def t.F_negative sc_negative fun cdv A outer s H E on dl cl B hr gd => ?_
  exact (b_one (s_ret (e_tup (a_cons (e_neg (e_ix (e_var 0) (e_int))) (a_cons (e_ix (e_var 0) (e_int)) a_nil)))))
theorem ok_sign_of (t : Txt P K mg) : FnG P w K T mg base 1 t.f_sign_of t.d_sign_of ["one"] m_sign_of := by
  unfold m_sign_of
  refine ok_def t.F_sign_of sc_sign_of fun cdv A outer s H E on dl cl B hr gd => ?_
  exact (b_cons (s_if (t_cmp (s_eq (u64 hr)) (e_ix (e_var 0) (e_int)) (e_int)) (b_one (s_ret (e_int))) b_nil)
    (b_one (s_ret (e_if (t_cmp s_gt (e_ix (e_var 0) (e_int)) (e_int)) (e_int) (e_neg (e_int))))))
theorem ok_compared (t : Txt P K mg) : FnG P w K T mg base 1 t.f_compared t.d_compared ["one", "other"] m_compared := by
  unfold m_compared
  refine ok_def t.F_compared sc_compared fun cdv A outer s H E on dl cl B hr gd => ?_
  exact (b_cons (s_set (i := 2) sc_compared.nd (e_op s_sub (e_op s_mulW (e_ix (e_var 0) (e_int)) (e_ix (e_var 1) (e_int))) (e_op s_mulW (e_ix (e_var 1) (e_int)) (e_ix (e_var 0) (e_int)))))
    (b_cons (s_if (t_cmp (s_eq (u64 hr)) (e_var 2) (e_int)) (b_one (s_ret (e_int))) b_nil)
    (b_one (s_ret (e_if (t_cmp s_gt (e_var 2) (e_int)) (e_int) (e_neg (e_int)))))))
theorem ok_floor_of (t : Txt P K mg) : FnG P w K T mg base 1 t.f_floor_of t.d_floor_of ["one"] m_floor_of := by
  unfold m_floor_of
  refine ok_def t.F_floor_of sc_floor_of fun cdv A outer s H E on dl cl B hr gd => ?_
  exact (b_one (s_ret (e_op s_divW (e_ix (e_var 0) (e_int)) (e_ix (e_var 0) (e_int)))))
theorem ok_ceiling_of (t : Txt P K mg) : FnG P w K T mg base 1 t.f_ceiling_of t.d_ceiling_of ["one"] m_ceiling_of := by
  unfold m_ceiling_of
  refine ok_def t.F_ceiling_of sc_ceiling_of fun cdv A outer s H E on dl cl B hr gd => ?_
  exact (b_one (s_ret (e_neg (e_op s_divW (e_neg (e_ix (e_var 0) (e_int))) (e_ix (e_var 0) (e_int))))))
theorem ok__law_source (t : Txt P K mg) : FnG P w K T mg base 1 t.f__law_source t.d__law_source ["_law_script"] m__law_source := by
  unfold m__law_source
  refine ok_def t.F__law_source sc__law_source fun cdv A outer s H E on dl cl B hr gd => ?_
  exact (b_cons (s_lc rfl sc__law_source.nd (i := 1) (sw_true rfl rfl rfl (by decide +kernel)) (i_seq (e_sl (e_var 0) p_none (p_some (e_int)))) (own := [("_law_cell", 3)]) (blk_by rfl) (by decide) (fun _ _ _ _ _ => (g_name (i := 3) sc__law_source.nd)) (fun _ _ _ _ _ => ts_nil) (fun _ _ _ _ _ => (e_blt (id := "abs") c_abs (by rfl) t.z_abs bt_abs (a_cons (e_ty (T := "int") c_int (by rfl) t.z_int bt_int (a_cons (e_var 3) a_nil)) a_nil))))
    (b_cons (s_set (i := 2) sc__law_source.nd (e_int))
    (b_cons (s_for PassesOwn.never rfl (i_seq (e_var 1)) (g_name (i := 3) sc__law_source.nd) (b_one (s_set (i := 2) sc__law_source.nd (e_op s_mod (e_ty (T := "int") c_int (by rfl) t.z_int bt_int (a_cons (e_op s_add (e_op s_add (e_op s_mulW (e_var 2) (e_int)) (e_op s_mod (e_var 3) (e_int))) (e_int)) a_nil)) (e_int)))))
    (b_one (s_ret (e_lst (a_cons (e_rev (e_frz (o_comp rfl sc__law_source.nd (i_seq (e_var 1)) (own := [("_law_cell", 3)]) (blk_by rfl) (by decide) (fun _ _ _ _ _ => (g_name (i := 3) sc__law_source.nd)) (fun _ _ _ _ _ => (ts_one (t_cmp s_ge (e_var 3) (e_op s_pow (e_int) (e_int))))) (fun _ _ _ _ _ => (e_var 3))))) (a_cons (e_var 2) a_nil))))))))
theorem ok__law_any (t : Txt P K mg) : FnG P w K T mg base 1 t.f__law_any t.d__law_any ["_law_deal", "_law_bound"] m__law_any := by
  refine any_fn 41 t.F__law_any sc__law_any fun cdv A outs s H E hr => ?_
  exact pss_cons (ps_while PassesOwn.never (pw_and (pt_cmpR (op_neD (u64 hr)) (pe_ix ix_seq (pv 0) pe_int (fun _ _ => rfl)) (pe_lst pa_nil) (by first | exact nomark _ | rfl)) (pw_and1 (pt_cmpR (op_eqD (u64 hr)) (pe_ix ix_seq (pe_ix ix_seq (pv 0) pe_int (fun _ _ => rfl)) (pe_un un_neg pe_int) (fun _ _ => rfl)) pe_int (by first | exact nomark _ | rfl)))).pt
      (pss_one (ps_expr (pe_bm0 PySem.F.plainAttrs_list PySem.F.slot_list_pop PySem.F.type_list_pop mt_pop (pe_ix ix_seq (pv 0) pe_int (fun _ _ => rfl))))))
    (pss_cons (ps_if (pt_cmpR (op_neD (u64 hr)) (pe_ix ix_seq (pv 0) pe_int (fun _ _ => rfl)) (pe_lst pa_nil) (by first | exact nomark _ | rfl))
      (pss_cons (ps_set (i := 2) sc__law_any.nd rfl (.inl rfl) (pe_callTy call_int1 (by rfl) t.z_int bt_int (pa_cons (pe_bm0 PySem.F.plainAttrs_list PySem.F.slot_list_pop PySem.F.type_list_pop mt_pop (pe_ix ix_seq (pv 0) pe_int (fun _ _ => rfl))) pa_nil)))
        (pss_cons (ps_expr (pe_bm PySem.F.plainAttrs_list PySem.F.slot_list_append PySem.F.type_list_append mt_append (pe_ix ix_seq (pv 0) pe_int (fun _ _ => rfl)) (pa_cons (pe_op op_fdivW (pv 2) (pv 1)) pa_nil)))
          (pss_one (ps_ret (pe_op op_mod (pv 2) (pv 1)))))) pss_nil)
    (pss_cons (ps_asg (pe_op op_mod (pe_callTy call_int1 (by rfl) t.z_int bt_int (pa_cons (pe_op op_add (pe_op op_mul (pe_ix ix_seq (pv 0) pe_int (fun _ _ => rfl)) pe_int) pe_int) pa_nil)) pe_int) (pg_sub (pv 0) pe_int set_list))
      (pss_one (ps_ret (pe_op op_mod (pe_callTy call_int1 (by rfl) t.z_int bt_int (pa_cons (pe_op op_fdiv (pe_ix ix_seq (pv 0) pe_int (fun _ _ => rfl)) pe_int) pa_nil)) (pv 1))))))
theorem ok__law_common (t : Txt P K mg) : FnG P w K T mg base 1 t.f__law_common t.d__law_common ["_law_one", "_law_other"] m__law_common := by
  unfold m__law_common
  refine ok_def t.F__law_common sc__law_common fun cdv A outer s H E on dl cl B hr gd => ?_
  exact (b_cons (s_par (i := 0) (j := 1) rfl sc__law_common.nd (a_cons (e_blt (id := "abs") c_abs (by rfl) t.z_abs bt_abs (a_cons (e_ty (T := "int") c_int (by rfl) t.z_int bt_int (a_cons (e_var 0) a_nil)) a_nil)) (a_cons (e_blt (id := "abs") c_abs (by rfl) t.z_abs bt_abs (a_cons (e_ty (T := "int") c_int (by rfl) t.z_int bt_int (a_cons (e_var 1) a_nil)) a_nil)) a_nil)) (by decide))
    (b_cons (s_for PassesOwn.never rfl (i_range1 (by rfl) t.z_range (a_cons (e_int) a_nil)) (g_name (i := 2) sc__law_common.nd) (b_cons (s_if (t_cmp (s_eq (u64 hr)) (e_var 1) (e_int)) (b_one s_break) b_nil)
    (b_one (s_par (i := 0) (j := 1) rfl sc__law_common.nd (a_cons (e_var 1) (a_cons (e_op s_mod (e_ty (T := "int") c_int (by rfl) t.z_int bt_int (a_cons (e_var 0) a_nil)) (e_var 1)) a_nil)) (by decide)))))
    (b_one (s_ret (e_var 0)))))
theorem ok__law_sign (t : Txt P K mg) : FnG P w K T mg base 1 t.f__law_sign t.d__law_sign ["_law_number"] m__law_sign := by
  unfold m__law_sign
  refine ok_def t.F__law_sign sc__law_sign fun cdv A outer s H E on dl cl B hr gd => ?_
  exact (b_one (s_ret (e_if (t_cmp s_gt (e_var 0) (e_int)) (e_int) (e_if (t_cmp (s_eq (u64 hr)) (e_var 0) (e_int)) (e_int) (e_neg (e_int))))))
theorem ok__law_edge_right (t : Txt P K mg) : FnG P w K T mg base 1 t.f__law_edge_right t.d__law_edge_right ["_law_some", "_law_told", "_law_way"] m__law_edge_right := by
  unfold m__law_edge_right
  refine ok_def t.F__law_edge_right sc__law_edge_right fun cdv A outer s H E on dl cl B hr gd => ?_
  exact (b_cons (s_if (t_cmp (s_eq (u64 hr)) (e_var 0) (e_lst a_nil)) (b_one (s_ret (e_cmp (s_eq (u64 hr)) (e_var 1) (e_str)))) b_nil)
    (b_cons (s_if (t_cmp (s_notin (u80 hr)) (e_blt (id := "repr") (c_repr gd (u64 hr)) (by rfl) t.z_repr bt_repr (a_cons (e_var 1) a_nil)) (e_frz (o_comp rfl sc__law_edge_right.nd (i_seq (e_var 0)) (own := [("_law_one", 3)]) (blk_by rfl) (by decide) (fun _ _ _ _ _ => (g_name (i := 3) sc__law_edge_right.nd)) (fun _ _ _ _ _ => ts_nil) (fun _ _ _ _ _ => (e_blt (id := "repr") (c_repr gd (u64 hr)) (by rfl) t.z_repr bt_repr (a_cons (e_var 3) a_nil)))))) (b_one (s_ret (e_bl))) b_nil)
    (b_cons (s_for PassesOwn.never rfl (i_seq (e_var 0)) (g_name (i := 3) sc__law_edge_right.nd) (b_one (s_if (t_cmp s_gt (e_op s_mulW (e_var 2) (e_op s_sub (e_op s_mulW (e_ix (e_var 3) (e_int)) (e_ix (e_var 1) (e_int))) (e_op s_mulW (e_ix (e_var 1) (e_int)) (e_ix (e_var 3) (e_int))))) (e_int)) (b_one (s_ret (e_bl))) b_nil)))
    (b_one (s_ret (e_bl))))))
theorem ok_fraction (t : Txt P K mg) : FnG P w K T mg base 2 t.f_fraction t.d_fraction ["top", "bottom"] m_fraction := by
  unfold m_fraction
  refine ok_defX t.F_fraction sc_fraction fun cdv A outer s H E on dl cl B hr gd => ?_
  exact (b_cons (s_if (t_cmp (s_eq (u64 hr)) (e_var 1) (e_int)) (b_one (s_raise rfl (takes_of rfl rfl rfl rfl) t.X_InvalidSize hr (by decide) (e_str) (by rfl))) b_nil)
    (b_cons (s_if (t_cmp s_lt (e_var 1) (e_int)) (b_one (s_par (i := 0) (j := 1) rfl sc_fraction.nd (a_cons (e_neg (e_var 0)) (a_cons (e_neg (e_var 1)) a_nil)) (by decide))) b_nil)
    (b_cons (s_set (i := 2) sc_fraction.nd (e_gcd (by rfl) t.G_gcd (a_cons (e_var 0) (a_cons (e_var 1) a_nil))))
    (b_one (s_ret (e_tup (a_cons (e_op s_divW (e_var 0) (e_var 2)) (a_cons (e_op s_divW (e_var 1) (e_var 2)) a_nil))))))))
theorem ok_least_of (t : Txt P K mg) : FnG P w K T mg base 2 t.f_least_of t.d_least_of ["some"] m_least_of := by
  unfold m_least_of
  refine ok_defX t.F_least_of sc_least_of fun cdv A outer s H E on dl cl B hr gd => ?_
  exact (b_cons (s_if (t_cmp (s_eq (u64 hr)) (e_blt (id := "len") c_len (by rfl) t.z_len bt_len (a_cons (e_var 0) a_nil)) (e_int)) (b_one (s_raise rfl (takes_of rfl rfl rfl rfl) t.X_InvalidSize hr (by decide) (e_str) (by rfl))) b_nil)
    (b_cons (s_set (i := 1) sc_least_of.nd (e_ix (e_var 0) (e_int)))
    (b_cons (s_for (passes_of rfl) rfl (i_seq (e_var 0)) (g_name (i := 2) sc_least_of.nd) (b_one (s_if (t_cmp s_lt (e_call (ok_compared t) (hr.mono (by decide)) gd (by rfl) t.g_compared t.F_compared.kp t.b_compared (a_cons (e_var 2) (a_cons (e_var 1) a_nil))) (e_int)) (b_one (s_set (i := 1) sc_least_of.nd (e_var 2))) b_nil)))
    (b_one (s_ret (e_var 1))))))
theorem ok_greatest_of (t : Txt P K mg) : FnG P w K T mg base 2 t.f_greatest_of t.d_greatest_of ["some"] m_greatest_of := by
  unfold m_greatest_of
  refine ok_defX t.F_greatest_of sc_greatest_of fun cdv A outer s H E on dl cl B hr gd => ?_
  exact (b_cons (s_if (t_cmp (s_eq (u64 hr)) (e_blt (id := "len") c_len (by rfl) t.z_len bt_len (a_cons (e_var 0) a_nil)) (e_int)) (b_one (s_raise rfl (takes_of rfl rfl rfl rfl) t.X_InvalidSize hr (by decide) (e_str) (by rfl))) b_nil)
    (b_cons (s_set (i := 1) sc_greatest_of.nd (e_ix (e_var 0) (e_int)))
    (b_cons (s_for (passes_of rfl) rfl (i_seq (e_var 0)) (g_name (i := 2) sc_greatest_of.nd) (b_one (s_if (t_cmp s_gt (e_call (ok_compared t) (hr.mono (by decide)) gd (by rfl) t.g_compared t.F_compared.kp t.b_compared (a_cons (e_var 2) (a_cons (e_var 1) a_nil))) (e_int)) (b_one (s_set (i := 1) sc_greatest_of.nd (e_var 2))) b_nil)))
    (b_one (s_ret (e_var 1))))))
theorem ok__law_of (t : Txt P K mg) : FnG P w K T mg base 2 t.f__law_of t.d__law_of ["_law_deal", "_law_some"] m__law_of := by
  unfold m__law_of
  refine ok_def t.F__law_of sc__law_of fun cdv A outer s H E on dl cl B hr gd => ?_
  exact (b_one (s_ret (e_ix (e_var 1) (e_call (ok__law_any t) (hr.mono (by decide)) gd (by rfl) t.g__law_any t.F__law_any.kp t.b__law_any (a_cons (e_var 0) (a_cons (e_blt (id := "len") c_len (by rfl) t.z_len bt_len (a_cons (e_var 1) a_nil)) a_nil))))))
theorem ok__law_low (t : Txt P K mg) : FnG P w K T mg base 2 t.f__law_low t.d__law_low ["_law_top", "_law_bottom"] m__law_low := by
  unfold m__law_low
  refine ok_def t.F__law_low sc__law_low fun cdv A outer s H E on dl cl B hr gd => ?_
  exact (b_cons (s_set (i := 2) sc__law_low.nd (e_call (ok__law_common t) (hr.mono (by decide)) gd (by rfl) t.g__law_common t.F__law_common.kp t.b__law_common (a_cons (e_var 0) (a_cons (e_var 1) a_nil))))
    (b_one (s_ret (e_tup (a_cons (e_op s_divW (e_ty (T := "int") c_int (by rfl) t.z_int bt_int (a_cons (e_var 0) a_nil)) (e_var 2)) (a_cons (e_op s_divW (e_ty (T := "int") c_int (by rfl) t.z_int bt_int (a_cons (e_var 1) a_nil)) (e_var 2)) a_nil))))))
theorem ok__law_one_right (t : Txt P K mg) : FnG P w K T mg base 2 t.f__law_one_right t.d__law_one_right ["_law_one"] m__law_one_right := by
  unfold m__law_one_right
  refine ok_def t.F__law_one_right sc__law_one_right fun cdv A outer s H E on dl cl B hr gd => ?_
  exact (b_cons (s_par (i := 1) (j := 2) rfl sc__law_one_right.nd (a_cons (e_call (ok_floor_of t) (hr.mono (by decide)) gd (by rfl) t.g_floor_of t.F_floor_of.kp t.b_floor_of (a_cons (e_var 0) a_nil)) (a_cons (e_call (ok_ceiling_of t) (hr.mono (by decide)) gd (by rfl) t.g_ceiling_of t.F_ceiling_of.kp t.b_ceiling_of (a_cons (e_var 0) a_nil)) a_nil)) (by decide))
    (b_cons (s_if (PW.pt (w_or (t_cmp (s_ne (u64 hr)) (e_blt (id := "repr") (c_repr gd (u64 hr)) (by rfl) t.z_repr bt_repr (a_cons (e_call (ok_sign_of t) (hr.mono (by decide)) gd (by rfl) t.g_sign_of t.F_sign_of.kp t.b_sign_of (a_cons (e_var 0) a_nil)) a_nil)) (e_blt (id := "repr") (c_repr gd (u64 hr)) (by rfl) t.z_repr bt_repr (a_cons (e_call (ok__law_sign t) (hr.mono (by decide)) gd (by rfl) t.g__law_sign t.F__law_sign.kp t.b__law_sign (a_cons (e_ix (e_var 0) (e_int)) a_nil)) a_nil))) (w_or (t_not (t_val (e_isi (T := "int") (y := "int") (by rfl) t.z_isinstance (e_var 1) (by rfl) t.z_int bt_int bt_isinstance))) (w_or1 (t_not (t_val (e_isi (T := "int") (y := "int") (by rfl) t.z_isinstance (e_var 2) (by rfl) t.z_int bt_int bt_isinstance))))))) (b_one (s_ret (e_bl))) b_nil)
    (b_cons (s_if (PW.pt (w_or (t_val (e_isi (T := "bool") (y := "bool") (by rfl) t.z_isinstance (e_var 1) (by rfl) t.z_bool bt_bool bt_isinstance)) (w_or (t_val (e_isi (T := "bool") (y := "bool") (by rfl) t.z_isinstance (e_var 2) (by rfl) t.z_bool bt_bool bt_isinstance)) (w_or (t_cmp (s_ne (u64 hr)) (e_callK (π := [0]) (ok_floor_of t) (hr.mono (by decide)) gd (by rfl) t.g_floor_of t.F_floor_of.kp (t.kb_floor_of_0) (k_cons (e_var 0) k_nil)) (e_var 1)) (w_or1 (t_cmp (s_ne (u64 hr)) (e_callK (π := [0]) (ok_ceiling_of t) (hr.mono (by decide)) gd (by rfl) t.g_ceiling_of t.F_ceiling_of.kp (t.kb_ceiling_of_0) (k_cons (e_var 0) k_nil)) (e_var 2))))))) (b_one (s_ret (e_bl))) b_nil)
    (b_cons (s_if (PW.pt (w_or (t_cmp s_gt (e_op s_mulW (e_var 1) (e_ix (e_var 0) (e_int))) (e_ix (e_var 0) (e_int))) (w_or (t_cmp s_ge (e_ix (e_var 0) (e_int)) (e_op s_add (e_op s_mulW (e_var 1) (e_ix (e_var 0) (e_int))) (e_ix (e_var 0) (e_int)))) (w_or1 (t_cmp (s_ne (u64 hr)) (e_callK (π := [0]) (ok_sign_of t) (hr.mono (by decide)) gd (by rfl) t.g_sign_of t.F_sign_of.kp (t.kb_sign_of_0) (k_cons (e_var 0) k_nil)) (e_call (ok_sign_of t) (hr.mono (by decide)) gd (by rfl) t.g_sign_of t.F_sign_of.kp t.b_sign_of (a_cons (e_var 0) a_nil))))))) (b_one (s_ret (e_bl))) b_nil)
    (b_one (s_ret (e_and (e_cmp s_ge (e_op s_mulW (e_var 2) (e_ix (e_var 0) (e_int))) (e_ix (e_var 0) (e_int))) (e_one (e_cmp s_gt (e_ix (e_var 0) (e_int)) (e_op s_sub (e_op s_mulW (e_var 2) (e_ix (e_var 0) (e_int))) (e_ix (e_var 0) (e_int))))))))))))
theorem ok_plus (t : Txt P K mg) : FnG P w K T mg base 3 t.f_plus t.d_plus ["one", "other"] m_plus := by
  unfold m_plus
  refine ok_defX t.F_plus sc_plus fun cdv A outer s H E on dl cl B hr gd => ?_
  exact (b_one (s_ret (e_callX (takes_of rfl rfl rfl rfl) (ok_fraction t) (hr.mono (by decide)) gd (by rfl) t.g_fraction t.F_fraction.kp t.b_fraction (a_cons (e_op s_add (e_op s_mulW (e_ix (e_var 0) (e_int)) (e_ix (e_var 1) (e_int))) (e_op s_mulW (e_ix (e_var 1) (e_int)) (e_ix (e_var 0) (e_int)))) (a_cons (e_op s_mulW (e_ix (e_var 0) (e_int)) (e_ix (e_var 1) (e_int))) a_nil)))))
theorem ok_minus (t : Txt P K mg) : FnG P w K T mg base 3 t.f_minus t.d_minus ["one", "other"] m_minus := by
  unfold m_minus
  refine ok_defX t.F_minus sc_minus fun cdv A outer s H E on dl cl B hr gd => ?_
  exact (b_one (s_ret (e_callX (takes_of rfl rfl rfl rfl) (ok_fraction t) (hr.mono (by decide)) gd (by rfl) t.g_fraction t.F_fraction.kp t.b_fraction (a_cons (e_op s_sub (e_op s_mulW (e_ix (e_var 0) (e_int)) (e_ix (e_var 1) (e_int))) (e_op s_mulW (e_ix (e_var 1) (e_int)) (e_ix (e_var 0) (e_int)))) (a_cons (e_op s_mulW (e_ix (e_var 0) (e_int)) (e_ix (e_var 1) (e_int))) a_nil)))))
theorem ok_times (t : Txt P K mg) : FnG P w K T mg base 3 t.f_times t.d_times ["one", "other"] m_times := by
  unfold m_times
  refine ok_defX t.F_times sc_times fun cdv A outer s H E on dl cl B hr gd => ?_
  exact (b_one (s_ret (e_callX (takes_of rfl rfl rfl rfl) (ok_fraction t) (hr.mono (by decide)) gd (by rfl) t.g_fraction t.F_fraction.kp t.b_fraction (a_cons (e_op s_mulW (e_ix (e_var 0) (e_int)) (e_ix (e_var 1) (e_int))) (a_cons (e_op s_mulW (e_ix (e_var 0) (e_int)) (e_ix (e_var 1) (e_int))) a_nil)))))
theorem ok_over (t : Txt P K mg) : FnG P w K T mg base 3 t.f_over t.d_over ["one", "other"] m_over := by
  unfold m_over
  refine ok_defX t.F_over sc_over fun cdv A outer s H E on dl cl B hr gd => ?_
  exact (b_one (s_ret (e_callX (takes_of rfl rfl rfl rfl) (ok_fraction t) (hr.mono (by decide)) gd (by rfl) t.g_fraction t.F_fraction.kp t.b_fraction (a_cons (e_op s_mulW (e_ix (e_var 0) (e_int)) (e_ix (e_var 1) (e_int))) (a_cons (e_op s_mulW (e_ix (e_var 0) (e_int)) (e_ix (e_var 1) (e_int))) a_nil)))))
theorem ok__law_size (t : Txt P K mg) : FnG P w K T mg base 3 t.f__law_size t.d__law_size ["_law_deal", "_law_great"] m__law_size := by
  unfold m__law_size
  refine ok_def t.F__law_size sc__law_size fun cdv A outer s H E on dl cl B hr gd => ?_
  exact (b_cons (s_set (i := 2) sc__law_size.nd (e_call (ok__law_of t) (hr.mono (by decide)) gd (by rfl) t.g__law_of t.F__law_of.kp t.b__law_of (a_cons (e_var 0) (a_cons (e_lst (a_cons (e_int) (a_cons (e_int) (a_cons (e_int) (a_cons (e_int) (a_cons (e_int) (a_cons (e_call (ok__law_any t) (hr.mono (by decide)) gd (by rfl) t.g__law_any t.F__law_any.kp t.b__law_any (a_cons (e_var 0) (a_cons (e_int) a_nil))) (a_cons (e_call (ok__law_any t) (hr.mono (by decide)) gd (by rfl) t.g__law_any t.F__law_any.kp t.b__law_any (a_cons (e_var 0) (a_cons (e_int) a_nil))) (a_cons (e_call (ok__law_any t) (hr.mono (by decide)) gd (by rfl) t.g__law_any t.F__law_any.kp t.b__law_any (a_cons (e_var 0) (a_cons (e_op s_pow (e_int) (e_int)) a_nil))) (a_cons (e_op s_sub (e_op s_sub (e_var 1) (e_int)) (e_call (ok__law_any t) (hr.mono (by decide)) gd (by rfl) t.g__law_any t.F__law_any.kp t.b__law_any (a_cons (e_var 0) (a_cons (e_var 1) a_nil)))) a_nil)))))))))) a_nil))))
    (b_one (s_ret (e_if (t_cmp (s_eq (u64 hr)) (e_call (ok__law_any t) (hr.mono (by decide)) gd (by rfl) t.g__law_any t.F__law_any.kp t.b__law_any (a_cons (e_var 0) (a_cons (e_int) a_nil))) (e_int)) (e_op s_sub (e_int) (e_var 2)) (e_var 2)))))
theorem ok__law_quotient (t : Txt P K mg) : FnG P w K T mg base 3 t.f__law_quotient t.d__law_quotient ["_law_one", "_law_other"] m__law_quotient := by
  unfold m__law_quotient
  refine ok_def t.F__law_quotient sc__law_quotient fun cdv A outer s H E on dl cl B hr gd => ?_
  exact (b_cons (s_par (i := 2) (j := 3) rfl sc__law_quotient.nd (a_cons (e_op s_mulW (e_ix (e_var 0) (e_int)) (e_ix (e_var 1) (e_int))) (a_cons (e_op s_mulW (e_ix (e_var 0) (e_int)) (e_ix (e_var 1) (e_int))) a_nil)) (by decide))
    (b_cons (s_if (t_cmp (s_eq (u64 hr)) (e_var 3) (e_int)) (b_one (s_ret (e_str))) b_nil)
    (b_one (s_ret (e_if (t_cmp s_gt (e_var 3) (e_int)) (e_call (ok__law_low t) (hr.mono (by decide)) gd (by rfl) t.g__law_low t.F__law_low.kp t.b__law_low (a_cons (e_var 2) (a_cons (e_var 3) a_nil))) (e_call (ok__law_low t) (hr.mono (by decide)) gd (by rfl) t.g__law_low t.F__law_low.kp t.b__law_low (a_cons (e_op s_sub (e_int) (e_var 2)) (a_cons (e_op s_sub (e_int) (e_var 3)) a_nil))))))))
theorem ok__law_edge (t : Txt P K mg) : FnG P w K T mg base 3 t.f__law_edge t.d__law_edge ["_law_way", "_law_some"] m__law_edge := by
  unfold m__law_edge
  refine ok_def t.F__law_edge sc__law_edge fun cdv A outer s H E on dl cl B hr gd => ?_
  exact (b_one (s_tryIs (i := 2) rfl rfl sc__law_edge.nd rfl ⟨by rfl, by decide, .inl t.X_InvalidSize.gC⟩ takes0 t.X_InvalidSize t.I_InvalidSize t.k_InvalidSize_ServeError t.k_InvalidSize_InvalidFraction t.G_ServeError t.G_InvalidFraction t.z_isinstance (catch_cons t.xm_InvalidSize_InvalidSize catch_nil) (fun W pn xe tk po => (b_one (s_ret (e_if (t_cmp s_lt (e_var 0) (e_int)) (e_callX tk (ok_least_of t) (hr.mono (by decide)) gd (by rfl) t.g_least_of t.F_least_of.kp t.b_least_of (a_cons (e_var 1) a_nil)) (e_callX tk (ok_greatest_of t) (hr.mono (by decide)) gd (by rfl) t.g_greatest_of t.F_greatest_of.kp t.b_greatest_of (a_cons (e_var 1) a_nil))))))))
theorem ok_total_of (t : Txt P K mg) : FnG P w K T mg base 4 t.f_total_of t.d_total_of ["some"] m_total_of := by
  unfold m_total_of
  refine ok_defX t.F_total_of sc_total_of fun cdv A outer s H E on dl cl B hr gd => ?_
  exact (b_cons (s_set (i := 1) sc_total_of.nd (e_ktup (by rfl) t.K_ZERO))
    (b_cons (s_for (passes_of rfl) rfl (i_seq (e_var 0)) (g_name (i := 2) sc_total_of.nd) (b_one (s_set (i := 1) sc_total_of.nd (e_callX (takes_of rfl rfl rfl rfl) (ok_plus t) (hr.mono (by decide)) gd (by rfl) t.g_plus t.F_plus.kp t.b_plus (a_cons (e_var 1) (a_cons (e_var 2) a_nil))))))
    (b_one (s_ret (e_var 1)))))
theorem ok__law_fraction (t : Txt P K mg) : FnG P w K T mg base 4 t.f__law_fraction t.d__law_fraction ["_law_deal", "_law_great"] m__law_fraction := by
  unfold m__law_fraction
  refine ok_def t.F__law_fraction sc__law_fraction fun cdv A outer s H E on dl cl B hr gd => ?_
  exact (b_cons (s_par (i := 2) (j := 3) rfl sc__law_fraction.nd (a_cons (e_call (ok__law_size t) (hr.mono (by decide)) gd (by rfl) t.g__law_size t.F__law_size.kp t.b__law_size (a_cons (e_var 0) (a_cons (e_var 1) a_nil))) (a_cons (e_op s_add (e_int) (e_blt (id := "abs") c_abs (by rfl) t.z_abs bt_abs (a_cons (e_call (ok__law_size t) (hr.mono (by decide)) gd (by rfl) t.g__law_size t.F__law_size.kp t.b__law_size (a_cons (e_var 0) (a_cons (e_op s_sub (e_var 1) (e_int)) a_nil))) a_nil))) a_nil)) (by decide))
    (b_one (s_ret (e_call (ok__law_low t) (hr.mono (by decide)) gd (by rfl) t.g__law_low t.F__law_low.kp t.b__law_low (a_cons (e_call (ok__law_of t) (hr.mono (by decide)) gd (by rfl) t.g__law_of t.F__law_of.kp t.b__law_of (a_cons (e_var 0) (a_cons (e_lst (a_cons (e_var 2) (a_cons (e_var 2) (a_cons (e_var 2) (a_cons (e_var 3) (a_cons (e_op s_sub (e_var 3) (e_int)) (a_cons (e_op s_sub (e_int) (e_var 3)) (a_cons (e_int) a_nil)))))))) a_nil))) (a_cons (e_var 3) a_nil))))))
theorem ok__law_divided (t : Txt P K mg) : FnG P w K T mg base 4 t.f__law_divided t.d__law_divided ["_law_one", "_law_other"] m__law_divided := by
  unfold m__law_divided
  refine ok_def t.F__law_divided sc__law_divided fun cdv A outer s H E on dl cl B hr gd => ?_
  exact (b_one (s_tryIs (i := 2) rfl rfl sc__law_divided.nd rfl ⟨by rfl, by decide, .inl t.X_InvalidSize.gC⟩ takes0 t.X_InvalidSize t.I_InvalidSize t.k_InvalidSize_ServeError t.k_InvalidSize_InvalidFraction t.G_ServeError t.G_InvalidFraction t.z_isinstance (catch_cons t.xm_InvalidSize_InvalidSize catch_nil) (fun W pn xe tk po => (b_one (s_ret (e_callX tk (ok_over t) (hr.mono (by decide)) gd (by rfl) t.g_over t.F_over.kp t.b_over (a_cons (e_var 0) (a_cons (e_var 1) a_nil))))))))
theorem ok__law_undone (t : Txt P K mg) : FnG P w K T mg base 4 t.f__law_undone t.d__law_undone ["_law_one", "_law_other", "_law_third"] m__law_undone := by
  unfold m__law_undone
  refine ok_defX t.F__law_undone sc__law_undone fun cdv A outer s H E on dl cl B hr gd => ?_
  exact (b_cons (s_if (PW.pt (w_or (t_cmp (s_ne (u64 hr)) (e_callX (takes_of rfl rfl rfl rfl) (ok_minus t) (hr.mono (by decide)) gd (by rfl) t.g_minus t.F_minus.kp t.b_minus (a_cons (e_callX (takes_of rfl rfl rfl rfl) (ok_plus t) (hr.mono (by decide)) gd (by rfl) t.g_plus t.F_plus.kp t.b_plus (a_cons (e_var 0) (a_cons (e_var 1) a_nil))) (a_cons (e_var 1) a_nil))) (e_var 0)) (w_or (t_cmp (s_ne (u64 hr)) (e_callX (takes_of rfl rfl rfl rfl) (ok_plus t) (hr.mono (by decide)) gd (by rfl) t.g_plus t.F_plus.kp t.b_plus (a_cons (e_callX (takes_of rfl rfl rfl rfl) (ok_minus t) (hr.mono (by decide)) gd (by rfl) t.g_minus t.F_minus.kp t.b_minus (a_cons (e_var 0) (a_cons (e_var 1) a_nil))) (a_cons (e_var 1) a_nil))) (e_var 0)) (w_or1 (t_cmp (s_ne (u64 hr)) (e_callX (takes_of rfl rfl rfl rfl) (ok_plus t) (hr.mono (by decide)) gd (by rfl) t.g_plus t.F_plus.kp t.b_plus (a_cons (e_var 0) (a_cons (e_call (ok_negative t) (hr.mono (by decide)) gd (by rfl) t.g_negative t.F_negative.kp t.b_negative (a_cons (e_var 0) a_nil)) a_nil))) (e_tup (a_cons (e_int) (a_cons (e_int) a_nil)))))))) (b_one (s_ret (e_bl))) b_nil)
    (b_cons (s_if (PW.pt (w_and (t_cmp (s_ne (u64 hr)) (e_ix (e_var 1) (e_int)) (e_int)) (w_and1 (PW.pt (w_or (t_cmp (s_ne (u64 hr)) (e_callX (takes_of rfl rfl rfl rfl) (ok_over t) (hr.mono (by decide)) gd (by rfl) t.g_over t.F_over.kp t.b_over (a_cons (e_callX (takes_of rfl rfl rfl rfl) (ok_times t) (hr.mono (by decide)) gd (by rfl) t.g_times t.F_times.kp t.b_times (a_cons (e_var 0) (a_cons (e_var 1) a_nil))) (a_cons (e_var 1) a_nil))) (e_var 0)) (w_or1 (t_cmp (s_ne (u64 hr)) (e_callX (takes_of rfl rfl rfl rfl) (ok_times t) (hr.mono (by decide)) gd (by rfl) t.g_times t.F_times.kp t.b_times (a_cons (e_var 1) (a_cons (e_callX (takes_of rfl rfl rfl rfl) (ok_over t) (hr.mono (by decide)) gd (by rfl) t.g_over t.F_over.kp t.b_over (a_cons (e_var 0) (a_cons (e_var 1) a_nil))) a_nil))) (e_var 0)))))))) (b_one (s_ret (e_bl))) b_nil)
    (b_cons (s_if (PW.pt (w_or (t_cmp (s_ne (u64 hr)) (e_callX (takes_of rfl rfl rfl rfl) (ok_times t) (hr.mono (by decide)) gd (by rfl) t.g_times t.F_times.kp t.b_times (a_cons (e_var 2) (a_cons (e_callX (takes_of rfl rfl rfl rfl) (ok_plus t) (hr.mono (by decide)) gd (by rfl) t.g_plus t.F_plus.kp t.b_plus (a_cons (e_var 0) (a_cons (e_var 1) a_nil))) a_nil))) (e_callX (takes_of rfl rfl rfl rfl) (ok_plus t) (hr.mono (by decide)) gd (by rfl) t.g_plus t.F_plus.kp t.b_plus (a_cons (e_callX (takes_of rfl rfl rfl rfl) (ok_times t) (hr.mono (by decide)) gd (by rfl) t.g_times t.F_times.kp t.b_times (a_cons (e_var 2) (a_cons (e_var 0) a_nil))) (a_cons (e_callX (takes_of rfl rfl rfl rfl) (ok_times t) (hr.mono (by decide)) gd (by rfl) t.g_times t.F_times.kp t.b_times (a_cons (e_var 2) (a_cons (e_var 1) a_nil))) a_nil)))) (w_or1 (t_cmp (s_ne (u64 hr)) (e_call (ok_compared t) (hr.mono (by decide)) gd (by rfl) t.g_compared t.F_compared.kp t.b_compared (a_cons (e_callX (takes_of rfl rfl rfl rfl) (ok_plus t) (hr.mono (by decide)) gd (by rfl) t.g_plus t.F_plus.kp t.b_plus (a_cons (e_var 0) (a_cons (e_var 2) a_nil))) (a_cons (e_callX (takes_of rfl rfl rfl rfl) (ok_plus t) (hr.mono (by decide)) gd (by rfl) t.g_plus t.F_plus.kp t.b_plus (a_cons (e_var 1) (a_cons (e_var 2) a_nil))) a_nil))) (e_call (ok_compared t) (hr.mono (by decide)) gd (by rfl) t.g_compared t.F_compared.kp t.b_compared (a_cons (e_var 0) (a_cons (e_var 1) a_nil))))))) (b_one (s_ret (e_bl))) b_nil)
    (b_cons (s_if (PW.pt (w_or (t_cmp (s_ne (u64 hr)) (e_callX (takes_of rfl rfl rfl rfl) (ok_plus t) (hr.mono (by decide)) gd (by rfl) t.g_plus t.F_plus.kp t.b_plus (a_cons (e_callX (takes_of rfl rfl rfl rfl) (ok_plus t) (hr.mono (by decide)) gd (by rfl) t.g_plus t.F_plus.kp t.b_plus (a_cons (e_var 0) (a_cons (e_var 1) a_nil))) (a_cons (e_var 2) a_nil))) (e_callX (takes_of rfl rfl rfl rfl) (ok_plus t) (hr.mono (by decide)) gd (by rfl) t.g_plus t.F_plus.kp t.b_plus (a_cons (e_var 0) (a_cons (e_callX (takes_of rfl rfl rfl rfl) (ok_plus t) (hr.mono (by decide)) gd (by rfl) t.g_plus t.F_plus.kp t.b_plus (a_cons (e_var 1) (a_cons (e_var 2) a_nil))) a_nil)))) (w_or1 (t_cmp (s_ne (u64 hr)) (e_callX (takes_of rfl rfl rfl rfl) (ok_times t) (hr.mono (by decide)) gd (by rfl) t.g_times t.F_times.kp t.b_times (a_cons (e_callX (takes_of rfl rfl rfl rfl) (ok_times t) (hr.mono (by decide)) gd (by rfl) t.g_times t.F_times.kp t.b_times (a_cons (e_var 0) (a_cons (e_var 1) a_nil))) (a_cons (e_var 2) a_nil))) (e_callX (takes_of rfl rfl rfl rfl) (ok_times t) (hr.mono (by decide)) gd (by rfl) t.g_times t.F_times.kp t.b_times (a_cons (e_var 0) (a_cons (e_callX (takes_of rfl rfl rfl rfl) (ok_times t) (hr.mono (by decide)) gd (by rfl) t.g_times t.F_times.kp t.b_times (a_cons (e_var 1) (a_cons (e_var 2) a_nil))) a_nil))))))) (b_one (s_ret (e_bl))) b_nil)
    (b_one (s_ret (e_cmp (s_eq (u64 hr)) (e_call (ok_compared t) (hr.mono (by decide)) gd (by rfl) t.g_compared t.F_compared.kp t.b_compared (a_cons (e_callX (takes_of rfl rfl rfl rfl) (ok_times t) (hr.mono (by decide)) gd (by rfl) t.g_times t.F_times.kp t.b_times (a_cons (e_var 0) (a_cons (e_var 2) a_nil))) (a_cons (e_callX (takes_of rfl rfl rfl rfl) (ok_times t) (hr.mono (by decide)) gd (by rfl) t.g_times t.F_times.kp t.b_times (a_cons (e_var 1) (a_cons (e_var 2) a_nil))) a_nil))) (e_op s_mulW (e_call (ok_compared t) (hr.mono (by decide)) gd (by rfl) t.g_compared t.F_compared.kp t.b_compared (a_cons (e_var 0) (a_cons (e_var 1) a_nil))) (e_call (ok_sign_of t) (hr.mono (by decide)) gd (by rfl) t.g_sign_of t.F_sign_of.kp t.b_sign_of (a_cons (e_var 2) a_nil))))))))))
theorem ok__law_pair_right (t : Txt P K mg) : FnG P w K T mg base 5 t.f__law_pair_right t.d__law_pair_right ["_law_one", "_law_other"] m__law_pair_right := by
  unfold m__law_pair_right
  refine ok_defX t.F__law_pair_right sc__law_pair_right fun cdv A outer s H E on dl cl B hr gd => ?_
  exact (b_cons (s_asg (e_tup (a_cons (e_var 0) (a_cons (e_var 1) a_nil))) (g_tup rfl (gs_cons (g_tup rfl (gs_cons (g_name (i := 2) sc__law_pair_right.nd) (gs_cons (g_name (i := 3) sc__law_pair_right.nd) gs_nil))) (gs_cons (g_tup rfl (gs_cons (g_name (i := 4) sc__law_pair_right.nd) (gs_cons (g_name (i := 5) sc__law_pair_right.nd) gs_nil))) gs_nil))))
    (b_cons (s_set (i := 6) sc__law_pair_right.nd (e_blt (id := "repr") (c_repr gd (u64 hr)) (by rfl) t.z_repr bt_repr (a_cons (e_lst (a_cons (e_var 0) (a_cons (e_var 1) a_nil))) a_nil)))
    (b_cons (s_set (i := 7) sc__law_pair_right.nd (e_lst (a_cons (e_call (ok__law_low t) (hr.mono (by decide)) gd (by rfl) t.g__law_low t.F__law_low.kp t.b__law_low (a_cons (e_op s_add (e_op s_mulW (e_var 2) (e_var 5)) (e_op s_mulW (e_var 4) (e_var 3))) (a_cons (e_op s_mulW (e_var 3) (e_var 5)) a_nil))) (a_cons (e_call (ok__law_low t) (hr.mono (by decide)) gd (by rfl) t.g__law_low t.F__law_low.kp t.b__law_low (a_cons (e_op s_sub (e_op s_mulW (e_var 2) (e_var 5)) (e_op s_mulW (e_var 4) (e_var 3))) (a_cons (e_op s_mulW (e_var 3) (e_var 5)) a_nil))) (a_cons (e_call (ok__law_low t) (hr.mono (by decide)) gd (by rfl) t.g__law_low t.F__law_low.kp t.b__law_low (a_cons (e_op s_mulW (e_var 2) (e_var 4)) (a_cons (e_op s_mulW (e_var 3) (e_var 5)) a_nil))) (a_cons (e_call (ok__law_quotient t) (hr.mono (by decide)) gd (by rfl) t.g__law_quotient t.F__law_quotient.kp t.b__law_quotient (a_cons (e_var 0) (a_cons (e_var 1) a_nil))) a_nil))))))
    (b_cons (s_if (t_cmp (s_ne (u64 hr)) (e_blt (id := "repr") (c_repr gd (u64 hr)) (by rfl) t.z_repr bt_repr (a_cons (e_lst (a_cons (e_callX (takes_of rfl rfl rfl rfl) (ok_plus t) (hr.mono (by decide)) gd (by rfl) t.g_plus t.F_plus.kp t.b_plus (a_cons (e_var 0) (a_cons (e_var 1) a_nil))) (a_cons (e_callX (takes_of rfl rfl rfl rfl) (ok_minus t) (hr.mono (by decide)) gd (by rfl) t.g_minus t.F_minus.kp t.b_minus (a_cons (e_var 0) (a_cons (e_var 1) a_nil))) (a_cons (e_callX (takes_of rfl rfl rfl rfl) (ok_times t) (hr.mono (by decide)) gd (by rfl) t.g_times t.F_times.kp t.b_times (a_cons (e_var 0) (a_cons (e_var 1) a_nil))) (a_cons (e_call (ok__law_divided t) (hr.mono (by decide)) gd (by rfl) t.g__law_divided t.F__law_divided.kp t.b__law_divided (a_cons (e_var 0) (a_cons (e_var 1) a_nil))) a_nil))))) a_nil)) (e_blt (id := "repr") (c_repr gd (u64 hr)) (by rfl) t.z_repr bt_repr (a_cons (e_var 7) a_nil))) (b_one (s_ret (e_bl))) b_nil)
    (b_cons (s_if (PW.pt (w_or (t_cmp (s_ne (u64 hr)) (e_callKX (π := [1, 0]) (takes_of rfl rfl rfl rfl) (ok_plus t) (hr.mono (by decide)) gd (by rfl) t.g_plus t.F_plus.kp (t.kb_plus_1_0) (k_cons (e_var 1) (k_cons (e_var 0) k_nil))) (e_ix (e_var 7) (e_int))) (w_or (t_cmp (s_ne (u64 hr)) (e_callKX (π := [1, 0]) (takes_of rfl rfl rfl rfl) (ok_minus t) (hr.mono (by decide)) gd (by rfl) t.g_minus t.F_minus.kp (t.kb_minus_1_0) (k_cons (e_var 1) (k_cons (e_var 0) k_nil))) (e_ix (e_var 7) (e_int))) (w_or1 (t_cmp (s_ne (u64 hr)) (e_callKX (π := [1, 0]) (takes_of rfl rfl rfl rfl) (ok_times t) (hr.mono (by decide)) gd (by rfl) t.g_times t.F_times.kp (t.kb_times_1_0) (k_cons (e_var 1) (k_cons (e_var 0) k_nil))) (e_ix (e_var 7) (e_int))))))) (b_one (s_ret (e_bl))) b_nil)
    (b_cons (s_if (PW.pt (w_or (PW.pt (w_and (t_cmp (s_ne (u64 hr)) (e_var 4) (e_int)) (w_and1 (t_cmp (s_ne (u64 hr)) (e_callKX (π := [1, 0]) (takes_of rfl rfl rfl rfl) (ok_over t) (hr.mono (by decide)) gd (by rfl) t.g_over t.F_over.kp (t.kb_over_1_0) (k_cons (e_var 1) (k_cons (e_var 0) k_nil))) (e_ix (e_var 7) (e_int)))))) (w_or (t_cmp (s_ne (u64 hr)) (e_blt (id := "repr") (c_repr gd (u64 hr)) (by rfl) t.z_repr bt_repr (a_cons (e_call (ok_negative t) (hr.mono (by decide)) gd (by rfl) t.g_negative t.F_negative.kp t.b_negative (a_cons (e_var 0) a_nil)) a_nil)) (e_blt (id := "repr") (c_repr gd (u64 hr)) (by rfl) t.z_repr bt_repr (a_cons (e_tup (a_cons (e_op s_sub (e_int) (e_var 2)) (a_cons (e_var 3) a_nil))) a_nil))) (w_or1 (t_cmp (s_ne (u64 hr)) (e_callK (π := [0]) (ok_negative t) (hr.mono (by decide)) gd (by rfl) t.g_negative t.F_negative.kp (t.kb_negative_0) (k_cons (e_var 0) k_nil)) (e_tup (a_cons (e_op s_sub (e_int) (e_var 2)) (a_cons (e_var 3) a_nil)))))))) (b_one (s_ret (e_bl))) b_nil)
    (b_cons (s_set (i := 8) sc__law_pair_right.nd (e_call (ok__law_sign t) (hr.mono (by decide)) gd (by rfl) t.g__law_sign t.F__law_sign.kp t.b__law_sign (a_cons (e_op s_sub (e_op s_mulW (e_var 2) (e_var 5)) (e_op s_mulW (e_var 4) (e_var 3))) a_nil)))
    (b_one (s_ret (e_and (e_cmp (s_eq (u64 hr)) (e_blt (id := "repr") (c_repr gd (u64 hr)) (by rfl) t.z_repr bt_repr (a_cons (e_call (ok_compared t) (hr.mono (by decide)) gd (by rfl) t.g_compared t.F_compared.kp t.b_compared (a_cons (e_var 0) (a_cons (e_var 1) a_nil))) a_nil)) (e_blt (id := "repr") (c_repr gd (u64 hr)) (by rfl) t.z_repr bt_repr (a_cons (e_var 8) a_nil))) (e_and (e_cmp (s_eq (u64 hr)) (e_callK (π := [1, 0]) (ok_compared t) (hr.mono (by decide)) gd (by rfl) t.g_compared t.F_compared.kp (t.kb_compared_1_0) (k_cons (e_var 0) (k_cons (e_var 1) k_nil))) (e_op s_sub (e_int) (e_var 8))) (e_one (e_cmp (s_eq (u64 hr)) (e_blt (id := "repr") (c_repr gd (u64 hr)) (by rfl) t.z_repr bt_repr (a_cons (e_lst (a_cons (e_var 0) (a_cons (e_var 1) a_nil))) a_nil)) (e_var 6))))))))))))))
theorem ok__law_row_right (t : Txt P K mg) : FnG P w K T mg base 5 t.f__law_row_right t.d__law_row_right ["_law_some", "_law_row"] m__law_row_right := by
  unfold m__law_row_right
  refine ok_defX t.F__law_row_right sc__law_row_right fun cdv A outer s H E on dl cl B hr gd => ?_
  exact (b_cons (s_asg (e_tup (a_cons (e_int) (a_cons (e_int) a_nil))) (g_tup rfl (gs_cons (g_name (i := 2) sc__law_row_right.nd) (gs_cons (g_name (i := 3) sc__law_row_right.nd) gs_nil))))
    (b_cons (s_for (passes_of rfl) rfl (i_seq (e_var 0)) (g_name (i := 4) sc__law_row_right.nd) (b_one (s_par (i := 2) (j := 3) rfl sc__law_row_right.nd (a_cons (e_op s_add (e_op s_mulW (e_var 2) (e_ix (e_var 4) (e_int))) (e_op s_mulW (e_ix (e_var 4) (e_int)) (e_var 3))) (a_cons (e_op s_mulW (e_var 3) (e_ix (e_var 4) (e_int))) a_nil)) (by decide))))
    (b_cons (s_if (PW.pt (w_or (t_cmp (s_ne (u64 hr)) (e_blt (id := "repr") (c_repr gd (u64 hr)) (by rfl) t.z_repr bt_repr (a_cons (e_callX (takes_of rfl rfl rfl rfl) (ok_total_of t) (hr.mono (by decide)) gd (by rfl) t.g_total_of t.F_total_of.kp t.b_total_of (a_cons (e_var 1) a_nil)) a_nil)) (e_blt (id := "repr") (c_repr gd (u64 hr)) (by rfl) t.z_repr bt_repr (a_cons (e_call (ok__law_low t) (hr.mono (by decide)) gd (by rfl) t.g__law_low t.F__law_low.kp t.b__law_low (a_cons (e_var 2) (a_cons (e_var 3) a_nil))) a_nil))) (w_or1 (t_cmp (s_ne (u64 hr)) (e_callKX (π := [0]) (takes_of rfl rfl rfl rfl) (ok_total_of t) (hr.mono (by decide)) gd (by rfl) t.g_total_of t.F_total_of.kp (t.kb_total_of_0) (k_cons (e_sl (e_var 1) p_none (p_some (e_int))) k_nil)) (e_if (t_cmp (s_ne (u64 hr)) (e_var 0) (e_lst a_nil)) (e_ix (e_var 0) (e_int)) (e_tup (a_cons (e_int) (a_cons (e_int) a_nil)))))))) (b_one (s_ret (e_bl))) b_nil)
    (b_cons (s_par (i := 5) (j := 6) rfl sc__law_row_right.nd (a_cons (e_call (ok__law_edge t) (hr.mono (by decide)) gd (by rfl) t.g__law_edge t.F__law_edge.kp t.b__law_edge (a_cons (e_neg (e_int)) (a_cons (e_var 1) a_nil))) (a_cons (e_call (ok__law_edge t) (hr.mono (by decide)) gd (by rfl) t.g__law_edge t.F__law_edge.kp t.b__law_edge (a_cons (e_int) (a_cons (e_var 1) a_nil))) a_nil)) (by decide))
    (b_cons (s_if (PW.pt (w_or (t_not (t_val (e_call (ok__law_edge_right t) (hr.mono (by decide)) gd (by rfl) t.g__law_edge_right t.F__law_edge_right.kp t.b__law_edge_right (a_cons (e_var 0) (a_cons (e_var 5) (a_cons (e_neg (e_int)) a_nil)))))) (w_or1 (t_not (t_val (e_call (ok__law_edge_right t) (hr.mono (by decide)) gd (by rfl) t.g__law_edge_right t.F__law_edge_right.kp t.b__law_edge_right (a_cons (e_var 0) (a_cons (e_var 6) (a_cons (e_int) a_nil))))))))) (b_one (s_ret (e_bl))) b_nil)
    (b_one (s_ret (e_or (e_cmp (s_eq (u64 hr)) (e_var 0) (e_lst a_nil)) (e_one (e_and (e_cmp (s_eq (u64 hr)) (e_callKX (π := [0]) (takes_of rfl rfl rfl rfl) (ok_least_of t) (hr.mono (by decide)) gd (by rfl) t.g_least_of t.F_least_of.kp (t.kb_least_of_0) (k_cons (e_var 1) k_nil)) (e_var 5)) (e_one (e_cmp (s_eq (u64 hr)) (e_callKX (π := [0]) (takes_of rfl rfl rfl rfl) (ok_greatest_of t) (hr.mono (by decide)) gd (by rfl) t.g_greatest_of t.F_greatest_of.kp (t.kb_greatest_of_0) (k_cons (e_var 1) k_nil)) (e_var 6)))))))))))))
/-- what is left: the law of the mirrors -/
def Plain : Prop := ∀ ns : List Int, ns.length ≤ 63 → ∃ cs b st0 st1, cs.length ≤ 63 ∧ m__law_source (.kl (ns.map D.int) :: []) ([], 0) = .ok (.lst [.lst (cs.map D.int), .int b]) st0 ∧ mb_law ((List.replicate 9 none).set 1 (some (.dat .deal))) (cs, b) = .ok (.rt (.bl true)) st1
theorem ok_law (hp : Plain) (t : Txt P K mg) : LawG P w K T mg base 6 t.f_law t.d_law "_law_script" 63 := by
  refine law_go (gd := m__law_source) (i := 1) (mr := mb_law) (targs := L2.tCons (tVar 0) L2.tNil) [] [] t.F_law sc_law (show _ = _ :: _ from rfl) (by decide) (fun cdv A outer s H E hr gd => ?_) (fun cdv A outer s H E on dl cl B hr gd => ?_) (fun σ H Q v e q => ⟨v, e, q⟩) (fun _ _ => .nil) hp
  · exact ps_set (i := 1) sc_law.nd rfl (by first | exact Or.inl rfl | exact Or.inr rfl) (pe_fn (k := ⟨K, true, 0, 0, fun _ => none, T⟩) (ok__law_source t) (hr.mono (by decide)) gd (by rfl) t.g__law_source t.F__law_source.kp t.b__law_source (E' := fun _ => E0) (fun _ => pass0At) (pa_cons (pv 0) pa_nil))
  · exact (b_cons (s_for PassesOwn.never rfl (i_range1 (by rfl) t.z_range (a_cons (e_int) a_nil)) (g_name (i := 2) sc_law.nd) (b_cons (s_set (i := 3) sc_law.nd (e_call (ok__law_of t) (hr.mono (by decide)) gd (by rfl) t.g__law_of t.F__law_of.kp t.b__law_of (a_cons (e_var 1) (a_cons (e_lst (a_cons (e_op s_pow (e_int) (e_int)) (a_cons (e_op s_pow (e_int) (e_int)) (a_cons (e_op s_pow (e_int) (e_int)) a_nil)))) a_nil))))
    (b_cons (s_par3 (i := 4) (j := 5) (l := 6) rfl sc_law.nd (a_cons (e_call (ok__law_fraction t) (hr.mono (by decide)) gd (by rfl) t.g__law_fraction t.F__law_fraction.kp t.b__law_fraction (a_cons (e_var 1) (a_cons (e_var 3) a_nil))) (a_cons (e_call (ok__law_fraction t) (hr.mono (by decide)) gd (by rfl) t.g__law_fraction t.F__law_fraction.kp t.b__law_fraction (a_cons (e_var 1) (a_cons (e_var 3) a_nil))) (a_cons (e_call (ok__law_fraction t) (hr.mono (by decide)) gd (by rfl) t.g__law_fraction t.F__law_fraction.kp t.b__law_fraction (a_cons (e_var 1) (a_cons (e_var 3) a_nil))) a_nil))) (by decide) (by decide) (by decide))
    (b_cons (s_set (i := 5) sc_law.nd (e_call (ok__law_of t) (hr.mono (by decide)) gd (by rfl) t.g__law_of t.F__law_of.kp t.b__law_of (a_cons (e_var 1) (a_cons (e_lst (a_cons (e_var 5) (a_cons (e_var 5) (a_cons (e_var 5) (a_cons (e_var 4) (a_cons (e_tup (a_cons (e_op s_sub (e_int) (e_ix (e_var 4) (e_int))) (a_cons (e_ix (e_var 4) (e_int)) a_nil))) (a_cons (e_tup (a_cons (e_int) (a_cons (e_int) a_nil))) a_nil))))))) a_nil))))
    (b_cons (s_if (PW.pt (w_or (t_not (t_val (e_call (ok__law_pair_right t) (hr.mono (by decide)) gd (by rfl) t.g__law_pair_right t.F__law_pair_right.kp t.b__law_pair_right (a_cons (e_var 4) (a_cons (e_var 5) a_nil))))) (w_or (t_not (t_val (e_call (ok__law_pair_right t) (hr.mono (by decide)) gd (by rfl) t.g__law_pair_right t.F__law_pair_right.kp t.b__law_pair_right (a_cons (e_var 5) (a_cons (e_var 6) a_nil))))) (w_or1 (t_not (t_val (e_call (ok__law_one_right t) (hr.mono (by decide)) gd (by rfl) t.g__law_one_right t.F__law_one_right.kp t.b__law_one_right (a_cons (e_var 4) a_nil)))))))) (b_one (s_ret (e_bl))) b_nil)
    (b_one (s_if (PW.pt (w_and (t_cmp s_lt (e_var 3) (e_op s_pow (e_int) (e_int))) (w_and1 (t_not (t_val (e_call (ok__law_undone t) (hr.mono (by decide)) gd (by rfl) t.g__law_undone t.F__law_undone.kp t.b__law_undone (a_cons (e_var 4) (a_cons (e_var 5) (a_cons (e_var 6) a_nil))))))))) (b_one (s_ret (e_bl))) b_nil)))))))
    (b_cons (s_set (i := 3) sc_law.nd (e_call (ok__law_of t) (hr.mono (by decide)) gd (by rfl) t.g__law_of t.F__law_of.kp t.b__law_of (a_cons (e_var 1) (a_cons (e_lst (a_cons (e_op s_pow (e_int) (e_int)) (a_cons (e_op s_pow (e_int) (e_int)) (a_cons (e_op s_pow (e_int) (e_int)) a_nil)))) a_nil))))
    (b_cons (s_lcO rfl sc_law.nd (i := 7) (sw_true rfl rfl rfl (by decide +kernel)) (i_range1 (by rfl) t.z_range (a_cons (e_call (ok__law_any t) (hr.mono (by decide)) gd (by rfl) t.g__law_any t.F__law_any.kp t.b__law_any (a_cons (e_var 1) (a_cons (e_int) a_nil))) a_nil)) (own := [("_law_turn", 2)]) (blk_by rfl) (by decide) (fun _ _ _ _ _ => (g_name (i := 2) sc_law.nd)) (fun _ _ _ _ _ => ts_nil) (fun _ _ _ _ _ => (e_call (ok__law_fraction t) (hr.mono (by decide)) gd (by rfl) t.g__law_fraction t.F__law_fraction.kp t.b__law_fraction (a_cons (e_var 1) (a_cons (e_var 3) a_nil)))))
    (b_cons (s_for PassesOwn.never rfl (i_range1 (by rfl) t.z_range (a_cons (e_call (ok__law_any t) (hr.mono (by decide)) gd (by rfl) t.g__law_any t.F__law_any.kp t.b__law_any (a_cons (e_var 1) (a_cons (e_int) a_nil))) a_nil)) (g_name (i := 2) sc_law.nd) (b_one (s_ins 7 (e_bor 7 fun B => (e_call (ok__law_any t) (hr.mono (by decide)) gd (by rfl) t.g__law_any t.F__law_any.kp t.b__law_any (a_cons (e_var 1) (a_cons (e_op s_add (e_blt (id := "len") c_len (by rfl) t.z_len bt_len (a_cons (e_var 7) a_nil)) (e_int)) a_nil)))) (e_bor 7 fun B => (e_if (t_cmp (s_ne (u64 hr)) (e_var 7) (e_lst a_nil)) (e_ix (e_var 7) (e_int)) (e_tup (a_cons (e_int) (a_cons (e_int) a_nil))))))))
    (b_cons (s_set (i := 8) sc_law.nd (e_bor 7 fun B => (e_if (t_cmp (s_eq (u64 hr)) (e_call (ok__law_any t) (hr.mono (by decide)) gd (by rfl) t.g__law_any t.F__law_any.kp t.b__law_any (a_cons (e_var 1) (a_cons (e_int) a_nil))) (e_int)) (e_ty (T := "tuple") c_tuple (by rfl) t.z_tuple bt_tuple (a_cons (e_var 7) a_nil)) (e_frz (o_ty (T := "list") c_list (by rfl) t.z_list bt_list (a_cons (e_var 7) a_nil))))))
    (b_cons (s_frz 7 (s_for PassesOwn.never rfl (i_seq (e_var 7)) (g_name (i := 4) sc_law.nd) (b_one (s_if (t_not (t_val (e_call (ok__law_one_right t) (hr.mono (by decide)) gd (by rfl) t.g__law_one_right t.F__law_one_right.kp t.b__law_one_right (a_cons (e_var 4) a_nil)))) (b_one (s_ret (e_bl))) b_nil))))
    (b_one (s_ret (e_bor 7 fun B => (e_and (e_call (ok__law_row_right t) (hr.mono (by decide)) gd (by rfl) t.g__law_row_right t.F__law_row_right.kp t.b__law_row_right (a_cons (e_var 7) (a_cons (e_var 8) a_nil))) (e_one (e_cmp (s_eq (u64 hr)) (e_frz (o_ty (T := "list") c_list (by rfl) t.z_list bt_list (a_cons (e_var 8) a_nil))) (e_var 7)))))))))))))
end
/-! ### the top -/
set_option maxHeartbeats 0 in
theorem all_mk {P : Program} {K : PySem.W.Frag} {h : Heap} {mg : Str → Option Value} {fa : Addr} {f0 f1 f2 f3 f4 f5 f6 f7 f8 f9 f10 f11 f12 f13 f14 f15 f16 f17 f18 f19 f20 f21 f22 f23 f24 f25 f26 f27 f28 f29 : Addr} (X : K.In h) (G : h.Ns mainGlobals mg) (hfa : mg "law" = some (.ref fa)) {od0 an0 od1 an1 od2 an2 od3 an3 od4 an4 od5 an5 od6 an6 od7 an7 od8 an8 od9 an9 od10 an10 od11 an11 od12 an12 od13 an13 od14 an14 od15 an15 od16 an16 od17 an17 od18 an18 od19 an19 od20 an20 od21 an21 od22 an22 od23 an23 od24 an24 od25 an25 od26 an26 od27 an27 od28 an28 od29 an29 : Option Addr} {sl0 sl1 sl2 sl3 sl4 sl5 sl6 sl7 sl8 sl9 sl10 sl11 sl12 sl13 sl14 sl15 sl16 sl17 sl18 sl19 sl20 sl21 sl22 sl23 sl24 sl25 sl26 sl27 sl28 sl29 : Array (Option Value)} {oc0 kV0 dc0 pm0 ct0 cd0 oc1 kV1 dc1 pm1 ct1 cd1 oc2 kV2 dc2 pm2 ct2 cd2 oc3 kV3 dc3 pm3 ct3 cd3 oc4 kV4 dc4 pm4 ct4 cd4 oc5 kV5 dc5 pm5 ct5 cd5 oc6 kV6 dc6 pm6 ct6 cd6 oc7 kV7 dc7 pm7 ct7 cd7 oc8 kV8 dc8 pm8 ct8 cd8 oc9 kV9 dc9 pm9 ct9 cd9 oc10 kV10 dc10 pm10 ct10 cd10 oc11 kV11 dc11 pm11 ct11 cd11 oc12 kV12 dc12 pm12 ct12 cd12 oc13 kV13 dc13 pm13 ct13 cd13 oc14 kV14 dc14 pm14 ct14 cd14 oc15 kV15 dc15 pm15 ct15 cd15 oc16 kV16 dc16 pm16 ct16 cd16 oc17 kV17 dc17 pm17 ct17 cd17 oc18 kV18 dc18 pm18 ct18 cd18 oc19 kV19 dc19 pm19 ct19 cd19 oc20 kV20 dc20 pm20 ct20 cd20 oc21 kV21 dc21 pm21 ct21 cd21 oc22 kV22 dc22 pm22 ct22 cd22 oc23 kV23 dc23 pm23 ct23 cd23 oc24 kV24 dc24 pm24 ct24 cd24 oc25 kV25 dc25 pm25 ct25 cd25 oc26 kV26 dc26 pm26 ct26 cd26 oc27 kV27 dc27 pm27 ct27 cd27 oc28 kV28 dc28 pm28 ct28 cd28 oc29 kV29 dc29 pm29 ct29 cd29 : Value}
    (a0 : PySem.W.nsIn K mainGlobals "negative" = some (some (.ref f0))) (l0 : K.lookup f0 = some ⟨oc0, od0, .func (PySem.W.fnOf "negative" "negative" (defArgs s_negative) (defBody s_negative) (defScope s_negative) .none kV0 dc0 pm0 an0 cd0 ct0), sl0⟩) (c0 : PySem.W.codeIn K cd0 "negative" = true) (k0 : PySem.W.keepIn K (.ref f0) = true)
    (a1 : PySem.W.nsIn K mainGlobals "sign_of" = some (some (.ref f1))) (l1 : K.lookup f1 = some ⟨oc1, od1, .func (PySem.W.fnOf "sign_of" "sign_of" (defArgs s_sign_of) (defBody s_sign_of) (defScope s_sign_of) .none kV1 dc1 pm1 an1 cd1 ct1), sl1⟩) (c1 : PySem.W.codeIn K cd1 "sign_of" = true) (k1 : PySem.W.keepIn K (.ref f1) = true)
    (a2 : PySem.W.nsIn K mainGlobals "compared" = some (some (.ref f2))) (l2 : K.lookup f2 = some ⟨oc2, od2, .func (PySem.W.fnOf "compared" "compared" (defArgs s_compared) (defBody s_compared) (defScope s_compared) .none kV2 dc2 pm2 an2 cd2 ct2), sl2⟩) (c2 : PySem.W.codeIn K cd2 "compared" = true) (k2 : PySem.W.keepIn K (.ref f2) = true)
    (a3 : PySem.W.nsIn K mainGlobals "floor_of" = some (some (.ref f3))) (l3 : K.lookup f3 = some ⟨oc3, od3, .func (PySem.W.fnOf "floor_of" "floor_of" (defArgs s_floor_of) (defBody s_floor_of) (defScope s_floor_of) .none kV3 dc3 pm3 an3 cd3 ct3), sl3⟩) (c3 : PySem.W.codeIn K cd3 "floor_of" = true) (k3 : PySem.W.keepIn K (.ref f3) = true)
    (a4 : PySem.W.nsIn K mainGlobals "ceiling_of" = some (some (.ref f4))) (l4 : K.lookup f4 = some ⟨oc4, od4, .func (PySem.W.fnOf "ceiling_of" "ceiling_of" (defArgs s_ceiling_of) (defBody s_ceiling_of) (defScope s_ceiling_of) .none kV4 dc4 pm4 an4 cd4 ct4), sl4⟩) (c4 : PySem.W.codeIn K cd4 "ceiling_of" = true) (k4 : PySem.W.keepIn K (.ref f4) = true)
    (a5 : PySem.W.nsIn K mainGlobals "_law_source" = some (some (.ref f5))) (l5 : K.lookup f5 = some ⟨oc5, od5, .func (PySem.W.fnOf "_law_source" "_law_source" (defArgs s__law_source) (defBody s__law_source) (defScope s__law_source) .none kV5 dc5 pm5 an5 cd5 ct5), sl5⟩) (c5 : PySem.W.codeIn K cd5 "_law_source" = true) (k5 : PySem.W.keepIn K (.ref f5) = true)
    (a6 : PySem.W.nsIn K mainGlobals "_law_any" = some (some (.ref f6))) (l6 : K.lookup f6 = some ⟨oc6, od6, .func (PySem.W.fnOf "_law_any" "_law_any" (defArgs s__law_any) (defBody s__law_any) (defScope s__law_any) .none kV6 dc6 pm6 an6 cd6 ct6), sl6⟩) (c6 : PySem.W.codeIn K cd6 "_law_any" = true) (k6 : PySem.W.keepIn K (.ref f6) = true)
    (a7 : PySem.W.nsIn K mainGlobals "_law_common" = some (some (.ref f7))) (l7 : K.lookup f7 = some ⟨oc7, od7, .func (PySem.W.fnOf "_law_common" "_law_common" (defArgs s__law_common) (defBody s__law_common) (defScope s__law_common) .none kV7 dc7 pm7 an7 cd7 ct7), sl7⟩) (c7 : PySem.W.codeIn K cd7 "_law_common" = true) (k7 : PySem.W.keepIn K (.ref f7) = true)
    (a8 : PySem.W.nsIn K mainGlobals "_law_sign" = some (some (.ref f8))) (l8 : K.lookup f8 = some ⟨oc8, od8, .func (PySem.W.fnOf "_law_sign" "_law_sign" (defArgs s__law_sign) (defBody s__law_sign) (defScope s__law_sign) .none kV8 dc8 pm8 an8 cd8 ct8), sl8⟩) (c8 : PySem.W.codeIn K cd8 "_law_sign" = true) (k8 : PySem.W.keepIn K (.ref f8) = true)
    (a9 : PySem.W.nsIn K mainGlobals "_law_edge_right" = some (some (.ref f9))) (l9 : K.lookup f9 = some ⟨oc9, od9, .func (PySem.W.fnOf "_law_edge_right" "_law_edge_right" (defArgs s__law_edge_right) (defBody s__law_edge_right) (defScope s__law_edge_right) .none kV9 dc9 pm9 an9 cd9 ct9), sl9⟩) (c9 : PySem.W.codeIn K cd9 "_law_edge_right" = true) (k9 : PySem.W.keepIn K (.ref f9) = true)
    (a10 : PySem.W.nsIn K mainGlobals "fraction" = some (some (.ref f10))) (l10 : K.lookup f10 = some ⟨oc10, od10, .func (PySem.W.fnOf "fraction" "fraction" (defArgs s_fraction) (defBody s_fraction) (defScope s_fraction) .none kV10 dc10 pm10 an10 cd10 ct10), sl10⟩) (c10 : PySem.W.codeIn K cd10 "fraction" = true) (k10 : PySem.W.keepIn K (.ref f10) = true)
    (a11 : PySem.W.nsIn K mainGlobals "least_of" = some (some (.ref f11))) (l11 : K.lookup f11 = some ⟨oc11, od11, .func (PySem.W.fnOf "least_of" "least_of" (defArgs s_least_of) (defBody s_least_of) (defScope s_least_of) .none kV11 dc11 pm11 an11 cd11 ct11), sl11⟩) (c11 : PySem.W.codeIn K cd11 "least_of" = true) (k11 : PySem.W.keepIn K (.ref f11) = true)
    (a12 : PySem.W.nsIn K mainGlobals "greatest_of" = some (some (.ref f12))) (l12 : K.lookup f12 = some ⟨oc12, od12, .func (PySem.W.fnOf "greatest_of" "greatest_of" (defArgs s_greatest_of) (defBody s_greatest_of) (defScope s_greatest_of) .none kV12 dc12 pm12 an12 cd12 ct12), sl12⟩) (c12 : PySem.W.codeIn K cd12 "greatest_of" = true) (k12 : PySem.W.keepIn K (.ref f12) = true)
    (a13 : PySem.W.nsIn K mainGlobals "_law_of" = some (some (.ref f13))) (l13 : K.lookup f13 = some ⟨oc13, od13, .func (PySem.W.fnOf "_law_of" "_law_of" (defArgs s__law_of) (defBody s__law_of) (defScope s__law_of) .none kV13 dc13 pm13 an13 cd13 ct13), sl13⟩) (c13 : PySem.W.codeIn K cd13 "_law_of" = true) (k13 : PySem.W.keepIn K (.ref f13) = true)
    (a14 : PySem.W.nsIn K mainGlobals "_law_low" = some (some (.ref f14))) (l14 : K.lookup f14 = some ⟨oc14, od14, .func (PySem.W.fnOf "_law_low" "_law_low" (defArgs s__law_low) (defBody s__law_low) (defScope s__law_low) .none kV14 dc14 pm14 an14 cd14 ct14), sl14⟩) (c14 : PySem.W.codeIn K cd14 "_law_low" = true) (k14 : PySem.W.keepIn K (.ref f14) = true)
    (a15 : PySem.W.nsIn K mainGlobals "_law_one_right" = some (some (.ref f15))) (l15 : K.lookup f15 = some ⟨oc15, od15, .func (PySem.W.fnOf "_law_one_right" "_law_one_right" (defArgs s__law_one_right) (defBody s__law_one_right) (defScope s__law_one_right) .none kV15 dc15 pm15 an15 cd15 ct15), sl15⟩) (c15 : PySem.W.codeIn K cd15 "_law_one_right" = true) (k15 : PySem.W.keepIn K (.ref f15) = true)
    (a16 : PySem.W.nsIn K mainGlobals "plus" = some (some (.ref f16))) (l16 : K.lookup f16 = some ⟨oc16, od16, .func (PySem.W.fnOf "plus" "plus" (defArgs s_plus) (defBody s_plus) (defScope s_plus) .none kV16 dc16 pm16 an16 cd16 ct16), sl16⟩) (c16 : PySem.W.codeIn K cd16 "plus" = true) (k16 : PySem.W.keepIn K (.ref f16) = true)
    (a17 : PySem.W.nsIn K mainGlobals "minus" = some (some (.ref f17))) (l17 : K.lookup f17 = some ⟨oc17, od17, .func (PySem.W.fnOf "minus" "minus" (defArgs s_minus) (defBody s_minus) (defScope s_minus) .none kV17 dc17 pm17 an17 cd17 ct17), sl17⟩) (c17 : PySem.W.codeIn K cd17 "minus" = true) (k17 : PySem.W.keepIn K (.ref f17) = true)
    (a18 : PySem.W.nsIn K mainGlobals "times" = some (some (.ref f18))) (l18 : K.lookup f18 = some ⟨oc18, od18, .func (PySem.W.fnOf "times" "times" (defArgs s_times) (defBody s_times) (defScope s_times) .none kV18 dc18 pm18 an18 cd18 ct18), sl18⟩) (c18 : PySem.W.codeIn K cd18 "times" = true) (k18 : PySem.W.keepIn K (.ref f18) = true)
    (a19 : PySem.W.nsIn K mainGlobals "over" = some (some (.ref f19))) (l19 : K.lookup f19 = some ⟨oc19, od19, .func (PySem.W.fnOf "over" "over" (defArgs s_over) (defBody s_over) (defScope s_over) .none kV19 dc19 pm19 an19 cd19 ct19), sl19⟩) (c19 : PySem.W.codeIn K cd19 "over" = true) (k19 : PySem.W.keepIn K (.ref f19) = true)
    (a20 : PySem.W.nsIn K mainGlobals "_law_size" = some (some (.ref f20))) (l20 : K.lookup f20 = some ⟨oc20, od20, .func (PySem.W.fnOf "_law_size" "_law_size" (defArgs s__law_size) (defBody s__law_size) (defScope s__law_size) .none kV20 dc20 pm20 an20 cd20 ct20), sl20⟩) (c20 : PySem.W.codeIn K cd20 "_law_size" = true) (k20 : PySem.W.keepIn K (.ref f20) = true)
    (a21 : PySem.W.nsIn K mainGlobals "_law_quotient" = some (some (.ref f21))) (l21 : K.lookup f21 = some ⟨oc21, od21, .func (PySem.W.fnOf "_law_quotient" "_law_quotient" (defArgs s__law_quotient) (defBody s__law_quotient) (defScope s__law_quotient) .none kV21 dc21 pm21 an21 cd21 ct21), sl21⟩) (c21 : PySem.W.codeIn K cd21 "_law_quotient" = true) (k21 : PySem.W.keepIn K (.ref f21) = true)
    (a22 : PySem.W.nsIn K mainGlobals "_law_edge" = some (some (.ref f22))) (l22 : K.lookup f22 = some ⟨oc22, od22, .func (PySem.W.fnOf "_law_edge" "_law_edge" (defArgs s__law_edge) (defBody s__law_edge) (defScope s__law_edge) .none kV22 dc22 pm22 an22 cd22 ct22), sl22⟩) (c22 : PySem.W.codeIn K cd22 "_law_edge" = true) (k22 : PySem.W.keepIn K (.ref f22) = true)
    (a23 : PySem.W.nsIn K mainGlobals "total_of" = some (some (.ref f23))) (l23 : K.lookup f23 = some ⟨oc23, od23, .func (PySem.W.fnOf "total_of" "total_of" (defArgs s_total_of) (defBody s_total_of) (defScope s_total_of) .none kV23 dc23 pm23 an23 cd23 ct23), sl23⟩) (c23 : PySem.W.codeIn K cd23 "total_of" = true) (k23 : PySem.W.keepIn K (.ref f23) = true)
    (a24 : PySem.W.nsIn K mainGlobals "_law_fraction" = some (some (.ref f24))) (l24 : K.lookup f24 = some ⟨oc24, od24, .func (PySem.W.fnOf "_law_fraction" "_law_fraction" (defArgs s__law_fraction) (defBody s__law_fraction) (defScope s__law_fraction) .none kV24 dc24 pm24 an24 cd24 ct24), sl24⟩) (c24 : PySem.W.codeIn K cd24 "_law_fraction" = true) (k24 : PySem.W.keepIn K (.ref f24) = true)
    (a25 : PySem.W.nsIn K mainGlobals "_law_divided" = some (some (.ref f25))) (l25 : K.lookup f25 = some ⟨oc25, od25, .func (PySem.W.fnOf "_law_divided" "_law_divided" (defArgs s__law_divided) (defBody s__law_divided) (defScope s__law_divided) .none kV25 dc25 pm25 an25 cd25 ct25), sl25⟩) (c25 : PySem.W.codeIn K cd25 "_law_divided" = true) (k25 : PySem.W.keepIn K (.ref f25) = true)
    (a26 : PySem.W.nsIn K mainGlobals "_law_undone" = some (some (.ref f26))) (l26 : K.lookup f26 = some ⟨oc26, od26, .func (PySem.W.fnOf "_law_undone" "_law_undone" (defArgs s__law_undone) (defBody s__law_undone) (defScope s__law_undone) .none kV26 dc26 pm26 an26 cd26 ct26), sl26⟩) (c26 : PySem.W.codeIn K cd26 "_law_undone" = true) (k26 : PySem.W.keepIn K (.ref f26) = true)
    (a27 : PySem.W.nsIn K mainGlobals "_law_pair_right" = some (some (.ref f27))) (l27 : K.lookup f27 = some ⟨oc27, od27, .func (PySem.W.fnOf "_law_pair_right" "_law_pair_right" (defArgs s__law_pair_right) (defBody s__law_pair_right) (defScope s__law_pair_right) .none kV27 dc27 pm27 an27 cd27 ct27), sl27⟩) (c27 : PySem.W.codeIn K cd27 "_law_pair_right" = true) (k27 : PySem.W.keepIn K (.ref f27) = true)
    (a28 : PySem.W.nsIn K mainGlobals "_law_row_right" = some (some (.ref f28))) (l28 : K.lookup f28 = some ⟨oc28, od28, .func (PySem.W.fnOf "_law_row_right" "_law_row_right" (defArgs s__law_row_right) (defBody s__law_row_right) (defScope s__law_row_right) .none kV28 dc28 pm28 an28 cd28 ct28), sl28⟩) (c28 : PySem.W.codeIn K cd28 "_law_row_right" = true) (k28 : PySem.W.keepIn K (.ref f28) = true)
    (a29 : PySem.W.nsIn K mainGlobals "law" = some (some (.ref f29))) (l29 : K.lookup f29 = some ⟨oc29, od29, .func (PySem.W.fnOf "law" "law" (defArgs s_law) (defBody s_law) (defScope s_law) .none kV29 dc29 pm29 an29 cd29 ct29), sl29⟩) (c29 : PySem.W.codeIn K cd29 "law" = true) (k29 : PySem.W.keepIn K (.ref f29) = true)
    (z0 : PySem.W.nsIn K mainGlobals "abs" = some none)
    (z1 : PySem.W.nsIn K mainGlobals "bool" = some none)
    (z2 : PySem.W.nsIn K mainGlobals "int" = some none)
    (z3 : PySem.W.nsIn K mainGlobals "isinstance" = some none)
    (z4 : PySem.W.nsIn K mainGlobals "len" = some none)
    (z5 : PySem.W.nsIn K mainGlobals "list" = some none)
    (z6 : PySem.W.nsIn K mainGlobals "range" = some none)
    (z7 : PySem.W.nsIn K mainGlobals "repr" = some none)
    (z8 : PySem.W.nsIn K mainGlobals "tuple" = some none)
    (g_InvalidFraction : PySem.W.nsIn K mainGlobals "InvalidFraction" = some (some (.ref c_InvalidFraction)))
    (g_ServeError : PySem.W.nsIn K mainGlobals "ServeError" = some (some (.ref c_ServeError)))
    (x_InvalidSize : XTxt P K mg "InvalidSize" "word" c_InvalidSize)
    (y_InvalidSize : ITxt K c_InvalidSize)
    (yk_InvalidSize_InvalidFraction : PySem.W.kitOne K (.ref c_InvalidSize) (.ref c_InvalidFraction) = some false)
    (yk_InvalidSize_ServeError : PySem.W.kitOne K (.ref c_InvalidSize) (.ref c_ServeError) = some true)
    (yg_gcd : PySem.W.nsIn K mainGlobals "gcd" = some (some (.builtin "math.gcd")))
    (yt_ZERO : KTup K mg "ZERO" [0, 1])
    (xm_InvalidSize_InvalidSize : PySem.W.exmOne K (.ref c_InvalidSize) (.ref c_InvalidSize) = some true)
    : ∃ t : Txt P K mg, t.f_law = fa := by
  have e := hfa.symm.trans (PySem.W.mg_of X G a29)
  cases e
  exact ⟨{
    X_InvalidSize := x_InvalidSize
    G_InvalidFraction := PySem.W.mg_of X G g_InvalidFraction
    G_ServeError := PySem.W.mg_of X G g_ServeError
    I_InvalidSize := y_InvalidSize
    k_InvalidSize_InvalidFraction := yk_InvalidSize_InvalidFraction
    k_InvalidSize_ServeError := yk_InvalidSize_ServeError
    G_gcd := PySem.W.mg_of X G yg_gcd
    K_ZERO := yt_ZERO
    xm_InvalidSize_InvalidSize := xm_InvalidSize_InvalidSize
    f_negative := f0, d_negative := _, F_negative := fun_mk (st := s_negative) l0 c0 k0
    g_negative := PySem.W.mg_of X G a0
    b_negative := (fun_mk (st := s_negative) l0 c0 k0).binds (ps := ["one"]) fun _ _ _ _ _ _ us hl => match us, hl with | [_], _ => rfl
    kb_negative_0 := kbinds [0] (by decide) fun ws hl => match ws, hl with | [_], _ => rfl
    f_sign_of := f1, d_sign_of := _, F_sign_of := fun_mk (st := s_sign_of) l1 c1 k1
    g_sign_of := PySem.W.mg_of X G a1
    b_sign_of := (fun_mk (st := s_sign_of) l1 c1 k1).binds (ps := ["one"]) fun _ _ _ _ _ _ us hl => match us, hl with | [_], _ => rfl
    kb_sign_of_0 := kbinds [0] (by decide) fun ws hl => match ws, hl with | [_], _ => rfl
    f_compared := f2, d_compared := _, F_compared := fun_mk (st := s_compared) l2 c2 k2
    g_compared := PySem.W.mg_of X G a2
    b_compared := (fun_mk (st := s_compared) l2 c2 k2).binds (ps := ["one", "other"]) fun _ _ _ _ _ _ us hl => match us, hl with | [_, _], _ => rfl
    kb_compared_1_0 := kbinds [1, 0] (by decide) fun ws hl => match ws, hl with | [_, _], _ => rfl
    f_floor_of := f3, d_floor_of := _, F_floor_of := fun_mk (st := s_floor_of) l3 c3 k3
    g_floor_of := PySem.W.mg_of X G a3
    b_floor_of := (fun_mk (st := s_floor_of) l3 c3 k3).binds (ps := ["one"]) fun _ _ _ _ _ _ us hl => match us, hl with | [_], _ => rfl
    kb_floor_of_0 := kbinds [0] (by decide) fun ws hl => match ws, hl with | [_], _ => rfl
    f_ceiling_of := f4, d_ceiling_of := _, F_ceiling_of := fun_mk (st := s_ceiling_of) l4 c4 k4
    g_ceiling_of := PySem.W.mg_of X G a4
    b_ceiling_of := (fun_mk (st := s_ceiling_of) l4 c4 k4).binds (ps := ["one"]) fun _ _ _ _ _ _ us hl => match us, hl with | [_], _ => rfl
    kb_ceiling_of_0 := kbinds [0] (by decide) fun ws hl => match ws, hl with | [_], _ => rfl
    f__law_source := f5, d__law_source := _, F__law_source := fun_mk (st := s__law_source) l5 c5 k5
    g__law_source := PySem.W.mg_of X G a5
    b__law_source := (fun_mk (st := s__law_source) l5 c5 k5).binds (ps := ["_law_script"]) fun _ _ _ _ _ _ us hl => match us, hl with | [_], _ => rfl
    f__law_any := f6, d__law_any := _, F__law_any := fun_mk (st := s__law_any) l6 c6 k6
    g__law_any := PySem.W.mg_of X G a6
    b__law_any := (fun_mk (st := s__law_any) l6 c6 k6).binds (ps := ["_law_deal", "_law_bound"]) fun _ _ _ _ _ _ us hl => match us, hl with | [_, _], _ => rfl
    f__law_common := f7, d__law_common := _, F__law_common := fun_mk (st := s__law_common) l7 c7 k7
    g__law_common := PySem.W.mg_of X G a7
    b__law_common := (fun_mk (st := s__law_common) l7 c7 k7).binds (ps := ["_law_one", "_law_other"]) fun _ _ _ _ _ _ us hl => match us, hl with | [_, _], _ => rfl
    f__law_sign := f8, d__law_sign := _, F__law_sign := fun_mk (st := s__law_sign) l8 c8 k8
    g__law_sign := PySem.W.mg_of X G a8
    b__law_sign := (fun_mk (st := s__law_sign) l8 c8 k8).binds (ps := ["_law_number"]) fun _ _ _ _ _ _ us hl => match us, hl with | [_], _ => rfl
    f__law_edge_right := f9, d__law_edge_right := _, F__law_edge_right := fun_mk (st := s__law_edge_right) l9 c9 k9
    g__law_edge_right := PySem.W.mg_of X G a9
    b__law_edge_right := (fun_mk (st := s__law_edge_right) l9 c9 k9).binds (ps := ["_law_some", "_law_told", "_law_way"]) fun _ _ _ _ _ _ us hl => match us, hl with | [_, _, _], _ => rfl
    f_fraction := f10, d_fraction := _, F_fraction := fun_mk (st := s_fraction) l10 c10 k10
    g_fraction := PySem.W.mg_of X G a10
    b_fraction := (fun_mk (st := s_fraction) l10 c10 k10).binds (ps := ["top", "bottom"]) fun _ _ _ _ _ _ us hl => match us, hl with | [_, _], _ => rfl
    f_least_of := f11, d_least_of := _, F_least_of := fun_mk (st := s_least_of) l11 c11 k11
    g_least_of := PySem.W.mg_of X G a11
    b_least_of := (fun_mk (st := s_least_of) l11 c11 k11).binds (ps := ["some"]) fun _ _ _ _ _ _ us hl => match us, hl with | [_], _ => rfl
    kb_least_of_0 := kbinds [0] (by decide) fun ws hl => match ws, hl with | [_], _ => rfl
    f_greatest_of := f12, d_greatest_of := _, F_greatest_of := fun_mk (st := s_greatest_of) l12 c12 k12
    g_greatest_of := PySem.W.mg_of X G a12
    b_greatest_of := (fun_mk (st := s_greatest_of) l12 c12 k12).binds (ps := ["some"]) fun _ _ _ _ _ _ us hl => match us, hl with | [_], _ => rfl
    kb_greatest_of_0 := kbinds [0] (by decide) fun ws hl => match ws, hl with | [_], _ => rfl
    f__law_of := f13, d__law_of := _, F__law_of := fun_mk (st := s__law_of) l13 c13 k13
    g__law_of := PySem.W.mg_of X G a13
    b__law_of := (fun_mk (st := s__law_of) l13 c13 k13).binds (ps := ["_law_deal", "_law_some"]) fun _ _ _ _ _ _ us hl => match us, hl with | [_, _], _ => rfl
    f__law_low := f14, d__law_low := _, F__law_low := fun_mk (st := s__law_low) l14 c14 k14
    g__law_low := PySem.W.mg_of X G a14
    b__law_low := (fun_mk (st := s__law_low) l14 c14 k14).binds (ps := ["_law_top", "_law_bottom"]) fun _ _ _ _ _ _ us hl => match us, hl with | [_, _], _ => rfl
    f__law_one_right := f15, d__law_one_right := _, F__law_one_right := fun_mk (st := s__law_one_right) l15 c15 k15
    g__law_one_right := PySem.W.mg_of X G a15
    b__law_one_right := (fun_mk (st := s__law_one_right) l15 c15 k15).binds (ps := ["_law_one"]) fun _ _ _ _ _ _ us hl => match us, hl with | [_], _ => rfl
    f_plus := f16, d_plus := _, F_plus := fun_mk (st := s_plus) l16 c16 k16
    g_plus := PySem.W.mg_of X G a16
    b_plus := (fun_mk (st := s_plus) l16 c16 k16).binds (ps := ["one", "other"]) fun _ _ _ _ _ _ us hl => match us, hl with | [_, _], _ => rfl
    kb_plus_1_0 := kbinds [1, 0] (by decide) fun ws hl => match ws, hl with | [_, _], _ => rfl
    f_minus := f17, d_minus := _, F_minus := fun_mk (st := s_minus) l17 c17 k17
    g_minus := PySem.W.mg_of X G a17
    b_minus := (fun_mk (st := s_minus) l17 c17 k17).binds (ps := ["one", "other"]) fun _ _ _ _ _ _ us hl => match us, hl with | [_, _], _ => rfl
    kb_minus_1_0 := kbinds [1, 0] (by decide) fun ws hl => match ws, hl with | [_, _], _ => rfl
    f_times := f18, d_times := _, F_times := fun_mk (st := s_times) l18 c18 k18
    g_times := PySem.W.mg_of X G a18
    b_times := (fun_mk (st := s_times) l18 c18 k18).binds (ps := ["one", "other"]) fun _ _ _ _ _ _ us hl => match us, hl with | [_, _], _ => rfl
    kb_times_1_0 := kbinds [1, 0] (by decide) fun ws hl => match ws, hl with | [_, _], _ => rfl
    f_over := f19, d_over := _, F_over := fun_mk (st := s_over) l19 c19 k19
    g_over := PySem.W.mg_of X G a19
    b_over := (fun_mk (st := s_over) l19 c19 k19).binds (ps := ["one", "other"]) fun _ _ _ _ _ _ us hl => match us, hl with | [_, _], _ => rfl
    kb_over_1_0 := kbinds [1, 0] (by decide) fun ws hl => match ws, hl with | [_, _], _ => rfl
    f__law_size := f20, d__law_size := _, F__law_size := fun_mk (st := s__law_size) l20 c20 k20
    g__law_size := PySem.W.mg_of X G a20
    b__law_size := (fun_mk (st := s__law_size) l20 c20 k20).binds (ps := ["_law_deal", "_law_great"]) fun _ _ _ _ _ _ us hl => match us, hl with | [_, _], _ => rfl
    f__law_quotient := f21, d__law_quotient := _, F__law_quotient := fun_mk (st := s__law_quotient) l21 c21 k21
    g__law_quotient := PySem.W.mg_of X G a21
    b__law_quotient := (fun_mk (st := s__law_quotient) l21 c21 k21).binds (ps := ["_law_one", "_law_other"]) fun _ _ _ _ _ _ us hl => match us, hl with | [_, _], _ => rfl
    f__law_edge := f22, d__law_edge := _, F__law_edge := fun_mk (st := s__law_edge) l22 c22 k22
    g__law_edge := PySem.W.mg_of X G a22
    b__law_edge := (fun_mk (st := s__law_edge) l22 c22 k22).binds (ps := ["_law_way", "_law_some"]) fun _ _ _ _ _ _ us hl => match us, hl with | [_, _], _ => rfl
    f_total_of := f23, d_total_of := _, F_total_of := fun_mk (st := s_total_of) l23 c23 k23
    g_total_of := PySem.W.mg_of X G a23
    b_total_of := (fun_mk (st := s_total_of) l23 c23 k23).binds (ps := ["some"]) fun _ _ _ _ _ _ us hl => match us, hl with | [_], _ => rfl
    kb_total_of_0 := kbinds [0] (by decide) fun ws hl => match ws, hl with | [_], _ => rfl
    f__law_fraction := f24, d__law_fraction := _, F__law_fraction := fun_mk (st := s__law_fraction) l24 c24 k24
    g__law_fraction := PySem.W.mg_of X G a24
    b__law_fraction := (fun_mk (st := s__law_fraction) l24 c24 k24).binds (ps := ["_law_deal", "_law_great"]) fun _ _ _ _ _ _ us hl => match us, hl with | [_, _], _ => rfl
    f__law_divided := f25, d__law_divided := _, F__law_divided := fun_mk (st := s__law_divided) l25 c25 k25
    g__law_divided := PySem.W.mg_of X G a25
    b__law_divided := (fun_mk (st := s__law_divided) l25 c25 k25).binds (ps := ["_law_one", "_law_other"]) fun _ _ _ _ _ _ us hl => match us, hl with | [_, _], _ => rfl
    f__law_undone := f26, d__law_undone := _, F__law_undone := fun_mk (st := s__law_undone) l26 c26 k26
    g__law_undone := PySem.W.mg_of X G a26
    b__law_undone := (fun_mk (st := s__law_undone) l26 c26 k26).binds (ps := ["_law_one", "_law_other", "_law_third"]) fun _ _ _ _ _ _ us hl => match us, hl with | [_, _, _], _ => rfl
    f__law_pair_right := f27, d__law_pair_right := _, F__law_pair_right := fun_mk (st := s__law_pair_right) l27 c27 k27
    g__law_pair_right := PySem.W.mg_of X G a27
    b__law_pair_right := (fun_mk (st := s__law_pair_right) l27 c27 k27).binds (ps := ["_law_one", "_law_other"]) fun _ _ _ _ _ _ us hl => match us, hl with | [_, _], _ => rfl
    f__law_row_right := f28, d__law_row_right := _, F__law_row_right := fun_mk (st := s__law_row_right) l28 c28 k28
    g__law_row_right := PySem.W.mg_of X G a28
    b__law_row_right := (fun_mk (st := s__law_row_right) l28 c28 k28).binds (ps := ["_law_some", "_law_row"]) fun _ _ _ _ _ _ us hl => match us, hl with | [_, _], _ => rfl
    f_law := fa, d_law := _, F_law := fun_mk (st := s_law) l29 c29 k29
    b_law := fun s v => .of_eq rfl
    z_abs := PySem.W.mg_none_of X G z0
    z_bool := PySem.W.mg_none_of X G z1
    z_int := PySem.W.mg_none_of X G z2
    z_isinstance := PySem.W.mg_none_of X G z3
    z_len := PySem.W.mg_none_of X G z4
    z_list := PySem.W.mg_none_of X G z5
    z_range := PySem.W.mg_none_of X G z6
    z_repr := PySem.W.mg_none_of X G z7
    z_tuple := PySem.W.mg_none_of X G z8
    }, rfl⟩
end Lk02

/-! P02a: fractions as rational numbers -/
namespace Lk02
open PySem FL
/-- a fraction in lowest terms -/
def fr (q : Rat) : D := .tup [.int q.num, .int q.den]
structure Bd (n : Nat) (q : Rat) : Prop where
  top : q.num.natAbs < 2 ^ n
  bot : q.den < 2 ^ n
theorem p2 {a b : Nat} (h : a ≤ b) : 2 ^ a ≤ 2 ^ b := Nat.pow_le_pow_right (by decide) h
theorem Bd.mono {n m : Nat} {q : Rat} (b : Bd n q) (h : n ≤ m) : Bd m q := ⟨Nat.lt_of_lt_of_le b.top (p2 h), Nat.lt_of_lt_of_le b.bot (p2 h)⟩
theorem Bd.neg {n : Nat} {q : Rat} (b : Bd n q) : Bd n (-q) := ⟨by rw [Rat.neg_num, Int.natAbs_neg]; exact b.top, by rw [Rat.neg_den]; exact b.bot⟩
theorem den0 (q : Rat) : (q.den : Int) ≠ 0 := by have := q.den_pos; omega
theorem den1 (q : Rat) : 0 < (q.den : Int) := by have := q.den_pos; omega
theorem bd_div {n : Nat} {T B : Int} (hB : B ≠ 0) (h1 : T.natAbs < 2 ^ n) (h2 : B.natAbs < 2 ^ n) : Bd n (Rat.divInt T B) := by
  refine ⟨?_, ?_⟩
  · rw [Rat.num_divInt]
    refine Nat.lt_of_le_of_lt ?_ h1
    rw [Int.natAbs_ediv_of_dvd]
    · refine Nat.le_trans (Nat.div_le_self _ _) ?_
      rw [Int.natAbs_mul, Int.natAbs_sign_of_ne_zero hB, Nat.one_mul]
      exact Nat.le_refl _
    · exact Int.dvd_trans (Int.gcd_dvd_right _ _) (Int.dvd_mul_left _ _)
  · rw [Rat.den_divInt, if_neg hB]
    exact Nat.lt_of_le_of_lt (Nat.div_le_self _ _) h2
/-- T/B as the program brings it to lowest terms -/
theorem low_num {T B : Int} (hB : 0 < B) : T / ((Nat.gcd T.natAbs B.natAbs : Nat) : Int) = (Rat.divInt T B).num := by
  rw [Rat.num_divInt, Int.sign_eq_one_of_pos hB, Int.one_mul]
  congr 2
  exact Nat.gcd_comm _ _
theorem low_den {T B : Int} (hB : 0 < B) : B / ((Nat.gcd T.natAbs B.natAbs : Nat) : Int) = ((Rat.divInt T B).den : Int) := by
  rw [Rat.den_divInt, if_neg (by omega)]
  have e : B.gcd T = Nat.gcd T.natAbs B.natAbs := Nat.gcd_comm _ _
  rw [e, Int.natCast_ediv]
  congr 1
  omega
theorem low_fr {T B : Int} (hB : 0 < B) : D.tup [.int (T / ((Nat.gcd T.natAbs B.natAbs : Nat) : Int)), .int (B / ((Nat.gcd T.natAbs B.natAbs : Nat) : Int))] = fr (Rat.divInt T B) := by
  rw [low_num hB, low_den hB]
  rfl
theorem add_fr (x y : Rat) : Rat.divInt (x.num * y.den + y.num * x.den) (x.den * y.den) = x + y := by
  rw [← Rat.divInt_add_divInt _ _ (den0 x) (den0 y), Rat.num_divInt_den, Rat.num_divInt_den]
theorem sub_fr (x y : Rat) : Rat.divInt (x.num * y.den - y.num * x.den) (x.den * y.den) = x - y := by
  rw [← Rat.divInt_sub_divInt _ _ (den0 x) (den0 y), Rat.num_divInt_den, Rat.num_divInt_den]
theorem mul_fr (x y : Rat) : Rat.divInt (x.num * y.num) (x.den * y.den) = x * y := by
  rw [← Rat.divInt_mul_divInt, Rat.num_divInt_den, Rat.num_divInt_den]
theorem div_fr (x y : Rat) : Rat.divInt (x.num * y.den) (x.den * y.num) = x / y := by
  rw [Rat.div_def, Rat.inv_def, ← Rat.divInt_mul_divInt, Rat.num_divInt_den]
theorem mul_lt {a b n m : Nat} (h1 : a < 2 ^ n) (h2 : b < 2 ^ m) : a * b < 2 ^ (n + m) := by
  rw [Nat.pow_add]
  exact Nat.mul_lt_mul'' h1 h2
theorem sm_mul {i j : Int} {n m : Nat} (h1 : i.natAbs < 2 ^ n) (h2 : j.natAbs < 2 ^ m) : (i * j).natAbs < 2 ^ (n + m) := by
  rw [Int.natAbs_mul]
  exact mul_lt h1 h2
theorem sm_add {i j : Int} {n : Nat} (h1 : i.natAbs < 2 ^ n) (h2 : j.natAbs < 2 ^ n) : (i + j).natAbs < 2 ^ (n + 1) := by
  have := Int.natAbs_add_le i j
  rw [Nat.pow_succ]
  omega
theorem sm_sub {i j : Int} {n : Nat} (h1 : i.natAbs < 2 ^ n) (h2 : j.natAbs < 2 ^ n) : (i - j).natAbs < 2 ^ (n + 1) := by
  have := Int.natAbs_sub_le i j
  rw [Nat.pow_succ]
  omega
theorem sm_up {i : Nat} {n m : Nat} (h : i < 2 ^ n) (hm : n ≤ m) : i < 2 ^ m := Nat.lt_of_lt_of_le h (p2 hm)
theorem sm_den {x : Rat} {n : Nat} (h : Bd n x) : (x.den : Int).natAbs < 2 ^ n := by simpa using h.bot
theorem Bd.addT {n m : Nat} {x y : Rat} (a : Bd n x) (b : Bd m y) : (x.num * y.den + y.num * x.den).natAbs < 2 ^ (n + m + 1) :=
  sm_add (sm_mul a.top (sm_den b)) (by rw [Nat.add_comm n m]; exact sm_mul b.top (sm_den a))
theorem Bd.subT {n m : Nat} {x y : Rat} (a : Bd n x) (b : Bd m y) : (x.num * y.den - y.num * x.den).natAbs < 2 ^ (n + m + 1) :=
  sm_sub (sm_mul a.top (sm_den b)) (by rw [Nat.add_comm n m]; exact sm_mul b.top (sm_den a))
theorem Bd.denT {n m : Nat} {x y : Rat} (a : Bd n x) (b : Bd m y) : ((x.den : Int) * y.den).natAbs < 2 ^ (n + m + 1) := sm_up (sm_mul (sm_den a) (sm_den b)) (Nat.le_succ _)
theorem denP (x y : Rat) : 0 < (x.den : Int) * y.den := Int.mul_pos (den1 x) (den1 y)
theorem Bd.add {n m : Nat} {x y : Rat} (a : Bd n x) (b : Bd m y) : Bd (n + m + 1) (x + y) := by
  rw [← add_fr]
  exact bd_div (Int.ne_of_gt (denP x y)) (a.addT b) (a.denT b)
theorem Bd.sub {n m : Nat} {x y : Rat} (a : Bd n x) (b : Bd m y) : Bd (n + m + 1) (x - y) := by
  rw [← sub_fr]
  exact bd_div (Int.ne_of_gt (denP x y)) (a.subT b) (a.denT b)
theorem Bd.mul {n m : Nat} {x y : Rat} (a : Bd n x) (b : Bd m y) : Bd (n + m + 1) (x * y) := by
  rw [← mul_fr]
  exact bd_div (Int.ne_of_gt (denP x y)) (sm_up (sm_mul a.top b.top) (Nat.le_succ _)) (a.denT b)
theorem Bd.div {n m : Nat} {x y : Rat} (a : Bd n x) (b : Bd m y) (h : y.num ≠ 0) : Bd (n + m + 1) (x / y) := by
  rw [← div_fr]
  exact bd_div (Int.mul_ne_zero (den0 x) h) (sm_up (sm_mul a.top (sm_den b)) (Nat.le_succ _)) (sm_up (sm_mul (sm_den a) b.top) (Nat.le_succ _))
/-- 1, 0 or -1 -/
def sgn (i : Int) : Int := if i = 0 then 0 else if i > 0 then 1 else -1
theorem sgn_pos {i : Int} (h : 0 < i) : sgn i = 1 := by unfold sgn; rw [if_neg (by omega), if_pos h]
theorem sgn_neg {i : Int} (h : i < 0) : sgn i = -1 := by unfold sgn; rw [if_neg (by omega), if_neg (by omega)]
def sgQ (q : Rat) : Int := sgn q.num
theorem cross_lt (x y : Rat) : (x.num * y.den - y.num * x.den < 0) ↔ x < y := by rw [Rat.lt_iff]; omega
/-- the cross's sign is the difference's -/
theorem cross_sgn (x y : Rat) : sgn (x.num * y.den - y.num * x.den) = sgQ (x - y) := by
  have e : (x - y).num * ((x.den : Int) * y.den) = (x.num * y.den - y.num * x.den) * (x - y).den := by
    have h := Rat.num_divInt_den (x - y)
    rw [← sub_fr x y] at h
    have := (Rat.divInt_eq_divInt_iff (den0 _) (Int.ne_of_gt (denP x y))).mp h
    rw [sub_fr x y] at this
    exact this
  have hb := denP x y
  have hd := den1 (x - y)
  unfold sgQ
  rcases Int.lt_trichotomy ((x - y).num) 0 with h | h | h
  · rw [sgn_neg h, sgn_neg]
    have := Int.mul_neg_of_neg_of_pos h hb
    rw [e] at this
    exact Int.neg_of_mul_neg_left this hd
  · rw [h, Int.zero_mul] at e
    rcases Int.mul_eq_zero.mp e.symm with z | z
    · rw [h, z]
    · omega
  · rw [sgn_pos h, sgn_pos]
    have := Int.mul_pos h hb
    rw [e] at this
    exact Int.pos_of_mul_pos_left this hd
theorem sgQ_pos {q : Rat} (h : 0 < q) : sgQ q = 1 := by
  apply sgn_pos
  have h1 := (Rat.lt_iff 0 q).mp h
  simpa using h1
theorem sgQ_neg {q : Rat} (h : q < 0) : sgQ q = -1 := by
  apply sgn_neg
  have h1 := (Rat.lt_iff q 0).mp h
  simpa using h1
theorem sgQ_zero : sgQ 0 = 0 := rfl
theorem rat_tri (q : Rat) : q < 0 ∨ q = 0 ∨ 0 < q := by grind
theorem sgQ_mul (x y : Rat) : sgQ (x * y) = sgQ x * sgQ y := by
  rcases rat_tri x with h | h | h <;> rcases rat_tri y with k | k | k
  · have : 0 < x * y := by have := Rat.mul_pos (a := -x) (b := -y) (by grind) (by grind); grind
    rw [sgQ_pos this, sgQ_neg h, sgQ_neg k]; rfl
  · rw [k, Rat.mul_zero, sgQ_zero, Int.mul_zero]
  · have : x * y < 0 := by have := Rat.mul_pos (a := -x) (b := y) (by grind) (by grind); grind
    rw [sgQ_neg this, sgQ_neg h, sgQ_pos k]; rfl
  · rw [h, Rat.zero_mul, sgQ_zero, Int.zero_mul]
  · rw [h, Rat.zero_mul, sgQ_zero, Int.zero_mul]
  · rw [h, Rat.zero_mul, sgQ_zero, Int.zero_mul]
  · have : x * y < 0 := by have := Rat.mul_pos (a := x) (b := -y) (by grind) (by grind); grind
    rw [sgQ_neg this, sgQ_neg k, sgQ_pos h]; rfl
  · rw [k, Rat.mul_zero, sgQ_zero, Int.mul_zero]
  · rw [sgQ_pos (Rat.mul_pos h k), sgQ_pos h, sgQ_pos k]; rfl
end Lk02

/-! P02b: fraction(..), the law's own lowest terms -/
namespace Lk02
open PySem FL
theorem fnX_ret {np n : Nat} {mb : SM} {ds : List D} {st st' : DS} {d : D} (hl : ds.length = np) (h : mb (startE n ds) st = .ok (.rt d) st') : fnX np n mb ds st = .ok d st' := by
  unfold fnX
  rw [if_pos hl, h]
theorem fnX_err {np n : Nat} {mb : SM} {ds : List D} {st st' : DS} {C : Addr} {fs : List (Str × D)} {Γ : Ev} (hl : ds.length = np) (h : mb (startE n ds) st = .ok (.xc C fs Γ) st') : fnX np n mb ds st = .err C fs st' := by
  unfold fnX
  rw [if_pos hl, h]
theorem mulW {i j : Int} {n m : Nat} {st : DS} (h1 : i.natAbs < 2 ^ n) (h2 : j.natAbs < 2 ^ m) (h : n + m ≤ 900000) : gMulW (.int i) (.int j) st = .ok (.int (i * j)) st := by
  have a := PySem.Flt.log2_lt_of (Nat.succ_pos n) (sm_up h1 (Nat.le_succ n))
  have b := PySem.Flt.log2_lt_of (Nat.succ_pos m) (sm_up h2 (Nat.le_succ m))
  have c : decide (i.natAbs.log2 + j.natAbs.log2 < 1000000) = true := decide_eq_true (by omega)
  show (if decide (i.natAbs.log2 + j.natAbs.log2 < 1000000) = true then _ else _ : Out D) = _
  rw [if_pos c]
theorem divW {i j : Int} {n : Nat} {st : DS} (h0 : 0 < j) (h2 : j.natAbs < 2 ^ n) (h : n ≤ 8000) : gDivW (.int i) (.int j) st = .ok (.int (i / j)) st := by
  have b := PySem.Flt.log2_lt_of (Nat.succ_pos n) (sm_up h2 (Nat.le_succ n))
  have c : decide (0 < j ∧ j.natAbs.log2 < 9000) = true := decide_eq_true ⟨h0, by omega⟩
  show (if decide (0 < j ∧ j.natAbs.log2 < 9000) = true then _ else _ : Out D) = _
  rw [if_pos c]
theorem gcd_pos {T B : Int} (h : B ≠ 0) : 0 < ((Nat.gcd T.natAbs B.natAbs : Nat) : Int) := by
  have := Nat.gcd_pos_of_pos_right (m := T.natAbs) (n := B.natAbs) (by omega)
  omega
theorem gcd_lt {T B : Int} {n : Nat} (h : B ≠ 0) (hb : B.natAbs < 2 ^ n) : ((Nat.gcd T.natAbs B.natAbs : Nat) : Int).natAbs < 2 ^ n := by
  have := Nat.gcd_le_right (n := B.natAbs) T.natAbs (by omega)
  omega
/-- the rest of fraction(..): a bottom above 0 -/
theorem frac_tail {T B : Int} {n : Nat} {Γ : Ev} {st : DS} (h0 : Γ[0]? = some (some (.dat (.int T)))) (h1 : Γ[1]? = some (some (.dat (.int B)))) (hl : 3 ≤ Γ.length) (hB : 0 < B) (hb : B.natAbs < 2 ^ n) (hn : n ≤ 8000) :
    mSeq (mAsg (mCall gGcd (mCons (mVar 0) (mCons (mVar 1) mNil))) (mgName 2)) (mRet (mTup (mCons (mOp gDivW (mVar 0) (mVar 2)) (mCons (mOp gDivW (mVar 1) (mVar 2)) mNil)))) Γ st = .ok (.rt (fr (Rat.divInt T B))) st := by
  refine mSeq_at (asg_at (mCall2 (mVar_at h0) (mVar_at h1) rfl) rfl) ?_
  have a0 : (Γ.set 2 (some (.dat (.int ((Nat.gcd T.natAbs B.natAbs : Nat) : Int)))))[0]? = some (some (.dat (.int T))) := by rw [List.getElem?_set_ne (by decide)]; exact h0
  have a1 : (Γ.set 2 (some (.dat (.int ((Nat.gcd T.natAbs B.natAbs : Nat) : Int)))))[1]? = some (some (.dat (.int B))) := by rw [List.getElem?_set_ne (by decide)]; exact h1
  have a2 : (Γ.set 2 (some (.dat (.int ((Nat.gcd T.natAbs B.natAbs : Nat) : Int)))))[2]? = some (some (.dat (.int ((Nat.gcd T.natAbs B.natAbs : Nat) : Int)))) := by rw [List.getElem?_set_self (by omega)]
  have g0 := gcd_pos (T := T) (B := B) (by omega)
  have g1 := gcd_lt (T := T) (by omega) hb
  rw [← low_fr hB]
  exact mRet_at (mTup_at (mCons_at (mOp_at (mVar_at a0) (mVar_at a2) (divW g0 g1 hn)) (mCons_at (mOp_at (mVar_at a1) (mVar_at a2) (divW g0 g1 hn)) rfl)) (by simp))
theorem lt_int {a b : Int} {st : DS} : gLt (.int a) (.int b) st = .ok (.bl (decide (a < b))) st := rfl
theorem gt_int {a b : Int} {st : DS} : gGt (.int a) (.int b) st = .ok (.bl (decide (a > b))) st := rfl
theorem ge_int {a b : Int} {st : DS} : gGe (.int a) (.int b) st = .ok (.bl (decide (a ≥ b))) st := rfl
theorem frac_at {T B : Int} {n : Nat} {st : DS} (hB : B ≠ 0) (hb : B.natAbs < 2 ^ n) (hn : n ≤ 8000) : m_fraction [.int T, .int B] st = .ok (fr (Rat.divInt T B)) st := by
  have z : (B == 0) = false := by simpa using hB
  refine fnX_ret rfl (mSeq_at (Γ' := [some (.dat (.int T)), some (.dat (.int B)), none]) (tests_f (mB_at (mOp_at (mVar_at (d := .int B) rfl) rfl (eq_int.trans (by rw [z])))) rfl) ?_)
  by_cases h : B < 0
  · refine mSeq_at (Γ' := [some (.dat (.int (-T))), some (.dat (.int (-B))), none]) (tests_t (mB_at (mOp_at (mVar_at (d := .int B) rfl) rfl (lt_int.trans (by rw [decide_eq_true h])))) rfl) ?_
    rw [← Rat.neg_divInt_neg]
    exact frac_tail (n := n) rfl rfl (Nat.le_refl 3) (by omega) (by rw [Int.natAbs_neg]; exact hb) hn
  · refine mSeq_at (Γ' := [some (.dat (.int T)), some (.dat (.int B)), none]) (tests_f (mB_at (mOp_at (mVar_at (d := .int B) rfl) rfl (lt_int.trans (by rw [decide_eq_false h])))) rfl) ?_
    exact frac_tail (n := n) rfl rfl (Nat.le_refl 3) (by omega) hb hn
theorem frac_0 {T : Int} {st : DS} : m_fraction [.int T, .int 0] st = .err c_InvalidSize [("word", .str "bottom")] st := rfl
end Lk02

/-! P02c: the law's own greatest common divisor, its lowest terms -/
namespace Lk02
open PySem FL
def stepB : SM := mSeq (mIfS (mB (mOp gEq (mVar 1) (mC (.int 0)))) mBreak mNext) (mPar 0 1 (mCons (mVar 1) (mCons (mOp gMod (mCall gIntOf (mCons (mVar 0) mNil)) (mVar 1)) mNil)))
abbrev en3 (a b : Nat) (x : Option Sl) : Ev := [some (.dat (.int (a : Nat))), some (.dat (.int (b : Nat))), x]
theorem natInt_zero {b : Nat} : (((b : Nat) : Int) == 0) = decide (b = 0) := by
  cases b with
  | zero => rfl
  | succ n => simp; omega
theorem step_0 {a : Nat} {x : Option Sl} {st : DS} : stepB (en3 a 0 x) st = .ok (.bk (en3 a 0 x)) st := by
  have h : mIfS (mB (mOp gEq (mVar 1) (mC (.int 0)))) mBreak mNext (en3 a 0 x) st = .ok (.bk (en3 a 0 x)) st := tests_t (s1 := st) (mB_at (mOp_at (mVar_at (d := .int ((0 : Nat) : Int)) rfl) rfl eq_int)) rfl
  unfold stepB mSeq
  rw [M.bind_at, h]
  rfl
theorem step_p {a b : Nat} {x : Option Sl} {st : DS} (h : 0 < b) : stepB (en3 a b x) st = .ok (.nx (en3 b (a % b) x)) st := by
  have z : (((b : Nat) : Int) == 0) = false := by rw [natInt_zero]; exact decide_eq_false (by omega)
  refine mSeq_at (Γ' := en3 a b x) (tests_f (mB_at (mOp_at (mVar_at (d := .int ((b : Nat) : Int)) rfl) rfl (eq_int.trans (by rw [z])))) rfl) ?_
  have e : mCons (mVar 1) (mCons (mOp gMod (mCall gIntOf (mCons (mVar 0) mNil)) (mVar 1)) mNil) (en3 a b x) st = .ok [.int (b : Nat), .int ((a % b : Nat) : Int)] st :=
    mCons_at (mVar_at rfl) (mCons_at (mOp_at (mCall1 (mVar_at (d := .int ((a : Nat) : Int)) rfl) rfl) (mVar_at (d := .int ((b : Nat) : Int)) rfl) (gMod_at (by omega))) rfl)
  show sE _ _ _ st = _
  rw [sE_ok e]
  rfl
theorem euclid {st : DS} : ∀ {xs : List D} {k a b : Nat} {x : Option Sl}, a ≥ b → a * b < 2 ^ k → k < xs.length → ∃ x' b', loopS (mgName 2) stepB xs (en3 a b x) st = .ok (.nx (en3 (Nat.gcd a b) b' x')) st
  | [], _, _, _, _, _, _, h => by simp at h
  | d :: r, k, a, b, x, hab, hk, hl => by
    by_cases hb : b = 0
    · subst hb
      refine ⟨some (.dat d), 0, ?_⟩
      show (match mgName 2 d (en3 a 0 x) with | none => halt | some Γ1 => (stepB Γ1 >>= kLoop (loopS (mgName 2) stepB r) : M Fl)) st = _
      show Out.bind (stepB (en3 a 0 (some (.dat d))) st) _ = _
      rw [step_0, Nat.gcd_zero_right]
      rfl
    · have hb : 0 < b := by omega
      have hm : a % b < b := Nat.mod_lt _ hb
      obtain ⟨k', rfl⟩ : ∃ k', k = k' + 1 := by
        cases k with
        | zero =>
          have : 0 < a * b := Nat.mul_pos (by omega) hb
          omega
        | succ k' => exact ⟨k', rfl⟩
      have half : b * (a % b) < 2 ^ k' := by
        have h1 : a / b ≥ 1 := Nat.div_pos hab hb
        have h2 := Nat.div_add_mod a b
        have h3 : b * 1 ≤ b * (a / b) := Nat.mul_le_mul_left b h1
        have h4 : 2 * (a % b) ≤ a := by omega
        have h5 : b * (2 * (a % b)) ≤ b * a := Nat.mul_le_mul_left b h4
        have h6 : b * (2 * (a % b)) = 2 * (b * (a % b)) := by rw [Nat.mul_left_comm]
        rw [Nat.pow_succ, Nat.mul_comm a b] at hk
        omega
      obtain ⟨x', b', e⟩ := euclid (st := st) (xs := r) (k := k') (a := b) (b := a % b) (x := some (.dat d)) (by omega) half (by simpa using hl)
      refine ⟨x', b', ?_⟩
      show Out.bind (stepB (en3 a b (some (.dat d))) st) _ = _
      rw [step_p hb]
      show loopS (mgName 2) stepB r (en3 b (a % b) (some (.dat d))) st = _
      rw [e, show Nat.gcd a b = Nat.gcd b (a % b) by rw [Nat.gcd_comm a b, Nat.gcd_rec b a, Nat.gcd_comm]]
theorem euclid0 {st : DS} {xs : List D} {k a b : Nat} {x : Option Sl} (hk : a * b < 2 ^ k) (hb : b * (a % b) < 2 ^ k) (hl : k + 1 < xs.length) : ∃ x' b', loopS (mgName 2) stepB xs (en3 a b x) st = .ok (.nx (en3 (Nat.gcd a b) b' x')) st := by
  by_cases h : a ≥ b
  · exact euclid h hk (by omega)
  · cases xs with
    | nil => simp at hl
    | cons d r =>
      have hm : a % b < b := Nat.mod_lt _ (by omega)
      obtain ⟨x', b', e⟩ := euclid (st := st) (xs := r) (k := k) (a := b) (b := a % b) (x := some (.dat d)) (by omega) hb (by simpa using hl)
      refine ⟨x', b', ?_⟩
      show Out.bind (stepB (en3 a b (some (.dat d))) st) _ = _
      rw [step_p (by omega)]
      show loopS (mgName 2) stepB r (en3 b (a % b) (some (.dat d))) st = _
      rw [e, show Nat.gcd a b = Nat.gcd b (a % b) by rw [Nat.gcd_comm a b, Nat.gcd_rec b a, Nat.gcd_comm]]
theorem abs_nat (i : Int) : (if i < 0 then -i else i) = ((i.natAbs : Nat) : Int) := by split <;> omega
theorem common_at {T B : Int} {n : Nat} {st : DS} (h1 : T.natAbs < 2 ^ n) (h2 : B.natAbs < 2 ^ n) (hn : n ≤ 4000) : m__law_common [.int T, .int B] st = .ok (.int ((Nat.gcd T.natAbs B.natAbs : Nat) : Int)) st := by
  have hk : T.natAbs * B.natAbs < 2 ^ (n + n) := mul_lt h1 h2
  have hb : B.natAbs * (T.natAbs % B.natAbs) < 2 ^ (n + n) := mul_lt h2 (Nat.lt_of_le_of_lt (Nat.mod_le _ _) h1)
  obtain ⟨x', b', e⟩ := euclid0 (st := st) (xs := (List.range 9000).map fun i => D.int ((i : Nat) : Int)) (x := none) hk hb (by rw [List.length_map, List.length_range]; omega)
  have e1 : mCons (mCall gAbs (mCons (mCall gIntOf (mCons (mVar 0) mNil)) mNil)) (mCons (mCall gAbs (mCons (mCall gIntOf (mCons (mVar 1) mNil)) mNil)) mNil) (startE 3 [.int T, .int B]) st = .ok [.int ((T.natAbs : Nat) : Int), .int ((B.natAbs : Nat) : Int)] st := by
    rw [← abs_nat, ← abs_nat]
    exact mCons_at (mCall1 (mCall1 (mVar_at (d := .int T) rfl) rfl) rfl) (mCons_at (mCall1 (mCall1 (mVar_at (d := .int B) rfl) rfl) rfl) rfl)
  refine fnM_ret rfl (mSeq_at (Γ' := en3 T.natAbs B.natAbs none) ?_ (mSeq_at (mFor_at (mSrc_at (mCons_at rfl rfl) (range1_at (n := 9000) (by decide))) e) (mRet_at (mVar_at rfl))))
  show sE _ _ _ st = _
  rw [sE_ok e1]
  rfl
theorem low_at {T B : Int} {n : Nat} {st : DS} (h1 : T.natAbs < 2 ^ n) (hB : 0 < B) (h2 : B.natAbs < 2 ^ n) (hn : n ≤ 4000) : m__law_low [.int T, .int B] st = .ok (fr (Rat.divInt T B)) st := by
  have g0 := gcd_pos (T := T) (B := B) (by omega)
  have g1 := gcd_lt (T := T) (by omega) h2
  rw [← low_fr hB]
  refine fnM_ret rfl (mSeq_at (asg_at (mCall2 (mVar_at (d := .int T) rfl) (mVar_at (d := .int B) rfl) (nxM_ok (common_at h1 h2 hn))) rfl) ?_)
  exact mRet_at (mTup_at (mCons_at (mOp_at (mCall1 (mVar_at (d := .int T) rfl) rfl) (mVar_at (d := .int ((Nat.gcd T.natAbs B.natAbs : Nat) : Int)) rfl) (divW g0 g1 (by omega))) (mCons_at (mOp_at (mCall1 (mVar_at (d := .int B) rfl) rfl) (mVar_at (d := .int ((Nat.gcd T.natAbs B.natAbs : Nat) : Int)) rfl) (divW g0 g1 (by omega))) rfl)) (by simp))
end Lk02

/-! P02d: the program's functions on fractions -/
namespace Lk02
open PySem FL
section
variable {Γ : Ev} {st : DS} {i j : Nat} {x y : Rat} {n m : Nat}
theorem top_at (h : Γ[i]? = some (some (.dat (fr x)))) : mOp gIx (mVar i) (mC (.int 0)) Γ st = .ok (.int x.num) st := mOp_at (mVar_at h) rfl (gIx_tup (i := 0) rfl)
theorem bot_at (h : Γ[i]? = some (some (.dat (fr x)))) : mOp gIx (mVar i) (mC (.int 1)) Γ st = .ok (.int x.den) st := mOp_at (mVar_at h) rfl (gIx_tup (i := 1) rfl)
theorem tb_at (h : Γ[i]? = some (some (.dat (fr x)))) (h' : Γ[j]? = some (some (.dat (fr y)))) (a : Bd n x) (b : Bd m y) (hn : n + m ≤ 900000) : mOp gMulW (mOp gIx (mVar i) (mC (.int 0))) (mOp gIx (mVar j) (mC (.int 1))) Γ st = .ok (.int (x.num * y.den)) st :=
  mOp_at (top_at h) (bot_at h') (mulW a.top (sm_den b) hn)
theorem tt_at (h : Γ[i]? = some (some (.dat (fr x)))) (h' : Γ[j]? = some (some (.dat (fr y)))) (a : Bd n x) (b : Bd m y) (hn : n + m ≤ 900000) : mOp gMulW (mOp gIx (mVar i) (mC (.int 0))) (mOp gIx (mVar j) (mC (.int 0))) Γ st = .ok (.int (x.num * y.num)) st :=
  mOp_at (top_at h) (top_at h') (mulW a.top b.top hn)
theorem bb_at (h : Γ[i]? = some (some (.dat (fr x)))) (h' : Γ[j]? = some (some (.dat (fr y)))) (a : Bd n x) (b : Bd m y) (hn : n + m ≤ 900000) : mOp gMulW (mOp gIx (mVar i) (mC (.int 1))) (mOp gIx (mVar j) (mC (.int 1))) Γ st = .ok (.int ((x.den : Int) * y.den)) st :=
  mOp_at (bot_at h) (bot_at h') (mulW (sm_den a) (sm_den b) hn)
theorem bt_at (h : Γ[i]? = some (some (.dat (fr x)))) (h' : Γ[j]? = some (some (.dat (fr y)))) (a : Bd n x) (b : Bd m y) (hn : n + m ≤ 900000) : mOp gMulW (mOp gIx (mVar i) (mC (.int 1))) (mOp gIx (mVar j) (mC (.int 0))) Γ st = .ok (.int ((x.den : Int) * y.num)) st :=
  mOp_at (bot_at h) (top_at h') (mulW (sm_den a) b.top hn)
theorem add_int {a b : Int} : gAdd (.int a) (.int b) st = .ok (.int (a + b)) st := rfl
theorem sub_int {a b : Int} : gSub (.int a) (.int b) st = .ok (.int (a - b)) st := rfl
theorem plus_at (a : Bd n x) (b : Bd m y) (hn : n + m + 1 ≤ 8000) : m_plus [fr x, fr y] st = .ok (fr (x + y)) st := by
  rw [← add_fr]
  exact fnX_ret rfl (mRet_at (mCall2 (mOp_at (tb_at rfl rfl a b (by omega)) (tb_at rfl rfl b a (by omega)) add_int) (bb_at rfl rfl a b (by omega)) (frac_at (Int.ne_of_gt (denP x y)) (a.denT b) (by omega))))
theorem minus_at (a : Bd n x) (b : Bd m y) (hn : n + m + 1 ≤ 8000) : m_minus [fr x, fr y] st = .ok (fr (x - y)) st := by
  rw [← sub_fr]
  exact fnX_ret rfl (mRet_at (mCall2 (mOp_at (tb_at rfl rfl a b (by omega)) (tb_at rfl rfl b a (by omega)) sub_int) (bb_at rfl rfl a b (by omega)) (frac_at (Int.ne_of_gt (denP x y)) (a.denT b) (by omega))))
theorem times_at (a : Bd n x) (b : Bd m y) (hn : n + m + 1 ≤ 8000) : m_times [fr x, fr y] st = .ok (fr (x * y)) st := by
  rw [← mul_fr]
  exact fnX_ret rfl (mRet_at (mCall2 (tt_at rfl rfl a b (by omega)) (bb_at rfl rfl a b (by omega)) (frac_at (Int.ne_of_gt (denP x y)) (a.denT b) (by omega))))
theorem over_at (a : Bd n x) (b : Bd m y) (hy : y.num ≠ 0) (hn : n + m + 1 ≤ 8000) : m_over [fr x, fr y] st = .ok (fr (x / y)) st := by
  rw [← div_fr]
  exact fnX_ret rfl (mRet_at (mCall2 (tb_at rfl rfl a b (by omega)) (bt_at rfl rfl a b (by omega)) (frac_at (n := n + m) (Int.mul_ne_zero (den0 x) hy) (sm_mul (sm_den a) b.top) (by omega))))
theorem over_0 (a : Bd n x) (b : Bd m y) (hy : y.num = 0) (hn : n + m + 1 ≤ 8000) : m_over [fr x, fr y] st = .err c_InvalidSize [("word", .str "bottom")] st := by
  have e : mCall m_fraction (mCons (mOp gMulW (mOp gIx (mVar 0) (mC (.int 0))) (mOp gIx (mVar 1) (mC (.int 1)))) (mCons (mOp gMulW (mOp gIx (mVar 0) (mC (.int 1))) (mOp gIx (mVar 1) (mC (.int 0)))) mNil)) (startE 2 [fr x, fr y]) st = .err c_InvalidSize [("word", .str "bottom")] st := by
    have e1 : mCons (mOp gMulW (mOp gIx (mVar 0) (mC (.int 0))) (mOp gIx (mVar 1) (mC (.int 1)))) (mCons (mOp gMulW (mOp gIx (mVar 0) (mC (.int 1))) (mOp gIx (mVar 1) (mC (.int 0)))) mNil) (startE 2 [fr x, fr y]) st = .ok [.int (x.num * y.den), .int ((x.den : Int) * y.num)] st :=
      mCons_at (tb_at rfl rfl a b (by omega)) (mCons_at (bt_at rfl rfl a b (by omega)) rfl)
    unfold mCall
    rw [M.bind_at, e1, hy, Int.mul_zero]
    rfl
  refine fnX_err (Γ := startE 2 [fr x, fr y]) rfl ?_
  show sE _ _ _ st = _
  unfold sE
  rw [e]
theorem neg_at : m_negative [fr x] st = .ok (fr (-x)) st := by
  have e : fr (-x) = .tup [.int (-x.num), .int x.den] := by unfold fr; rw [Rat.neg_num, Rat.neg_den]
  rw [e]
  exact fnM_ret rfl (mRet_at (mTup_at (mCons_at (mUn_at (top_at rfl) rfl) (mCons_at (bot_at rfl) rfl)) (by simp)))
theorem sgn_if {i : Int} {Γ : Ev} {me : EM} (h : me Γ st = .ok (.int i) st) (h0 : i ≠ 0) : mIf (mB (mOp gGt me (mC (.int 0)))) (mC (.int 1)) (mUn gNeg (mC (.int 1))) Γ st = .ok (.int (sgn i)) st := by
  have e : mB (mOp gGt me (mC (.int 0))) Γ st = .ok (decide (i > 0)) st := mB_at (mOp_at h rfl gt_int)
  unfold mIf
  rw [M.bind_at, e]
  show (if decide (i > 0) = true then mC (.int 1) Γ else mUn gNeg (mC (.int 1)) Γ : M D) st = _
  by_cases p : i > 0
  · rw [if_pos (decide_eq_true p), sgn_pos p]; rfl
  · rw [if_neg (by simpa using p), sgn_neg (by omega)]; rfl
theorem sgn_zero {i : Int} (h : i = 0) : sgn i = 0 := by rw [h]; rfl
theorem sgn_tail {i : Int} {Γ : Ev} {me : EM} (h : me Γ st = .ok (.int i) st) : mSeq (mIfS (mB (mOp gEq me (mC (.int 0)))) (mRet (mC (.int 0))) mNext) (mRet (mIf (mB (mOp gGt me (mC (.int 0)))) (mC (.int 1)) (mUn gNeg (mC (.int 1))))) Γ st = .ok (.rt (.int (sgn i))) st := by
  by_cases h0 : i = 0
  · rw [sgn_zero h0]
    exact mSeq_rt (tests_t (mB_at (mOp_at h rfl (eq_int.trans (by rw [h0]; rfl)))) rfl)
  · have z : (i == 0) = false := by simpa using h0
    exact mSeq_at (tests_f (mB_at (mOp_at h rfl (eq_int.trans (by rw [z])))) rfl) (mRet_at (sgn_if h h0))
theorem sign_at : m_sign_of [fr x] st = .ok (.int (sgQ x)) st := fnM_ret rfl (sgn_tail (top_at rfl))
theorem lawsign_at {i : Int} : m__law_sign [.int i] st = .ok (.int (sgn i)) st := by
  refine fnM_ret rfl (mRet_at ?_)
  have e : mB (mOp gGt (mVar 0) (mC (.int 0))) (startE 1 [.int i]) st = .ok (decide (i > 0)) st := mB_at (mOp_at (mVar_at (d := .int i) rfl) rfl gt_int)
  have e2 : mB (mOp gEq (mVar 0) (mC (.int 0))) (startE 1 [.int i]) st = .ok (i == 0) st := mB_at (mOp_at (mVar_at (d := .int i) rfl) rfl eq_int)
  unfold mIf
  rw [M.bind_at, e]
  show (if decide (i > 0) = true then mC (.int 1) _ else mIf _ _ _ _ : M D) st = _
  by_cases p : i > 0
  · rw [if_pos (decide_eq_true p), sgn_pos p]; rfl
  · rw [if_neg (by simpa using p)]
    unfold mIf
    rw [M.bind_at, e2]
    show (if (i == 0) = true then mC (.int 0) _ else mUn _ _ _ : M D) st = _
    by_cases z : i = 0
    · rw [if_pos (by simpa using z), sgn_zero z]; rfl
    · rw [if_neg (by simpa using z), sgn_neg (by omega)]; rfl
theorem compared_at (a : Bd n x) (b : Bd m y) (hn : n + m + 1 ≤ 8000) : m_compared [fr x, fr y] st = .ok (.int (sgQ (x - y))) st := by
  rw [← cross_sgn]
  refine fnM_ret rfl (mSeq_at (asg_at (mOp_at (tb_at rfl rfl a b (by omega)) (tb_at rfl rfl b a (by omega)) sub_int) rfl) ?_)
  exact sgn_tail (mVar_at rfl)
theorem floor_at (a : Bd n x) (hn : n ≤ 8000) : m_floor_of [fr x] st = .ok (.int (x.num / x.den)) st :=
  fnM_ret rfl (mRet_at (mOp_at (top_at rfl) (bot_at rfl) (divW (den1 x) (sm_den a) hn)))
theorem ceil_at (a : Bd n x) (hn : n ≤ 8000) : m_ceiling_of [fr x] st = .ok (.int (-(-x.num / x.den))) st :=
  fnM_ret rfl (mRet_at (mUn_at (mOp_at (mUn_at (top_at rfl) rfl) (bot_at rfl) (divW (den1 x) (sm_den a) hn)) rfl))
end
end Lk02

/-! P02e: two fractions -/
namespace Lk02
open PySem FL
section
variable {Γ : Ev} {st : DS} {i j : Nat} {x y : Rat} {n m : Nat}
theorem wid_fr (a : Bd n x) (h : n ≤ 1900) : Wid 1 3802 (fr x) := .tup (v := 1900) (fun d hd => by
  simp only [List.mem_cons, List.not_mem_nil, or_false] at hd
  rcases hd with rfl | rfl
  · exact .int (sm_up a.top h) (Nat.le_refl _)
  · exact .int (sm_up (sm_den a) h) (Nat.le_refl _)) (by simp)
theorem eqOk_fr (x y : Rat) : eqOk (fr x) (fr y) = true := by
  simp [eqOk, fr, twoStr, D.plain, D.plains, D.py, D.pys, SeqAt.shaped, PyData.canLay0, PyData.canLayAll0, PyData.depth, PyData.depthAll]
theorem eqD_fr (x y : Rat) : eqD (fr x) (fr y) = decide (x = y) := by
  have e : eqD (fr x) (fr y) = (x.num == y.num && (x.den : Int) == y.den) := by
    simp [eqD, fr, D.py, D.pys, PyData.eqv, PyData.eqvAll]
  rw [e]
  by_cases h : x = y
  · rw [h, decide_eq_true rfl]; simp
  · rw [decide_eq_false h]
    refine Bool.eq_false_iff.mpr fun z => h ?_
    simp only [Bool.and_eq_true, beq_iff_eq] at z
    exact Rat.ext z.1 (by omega)
theorem ne_fr : gNe (fr x) (fr x) st = .ok (.bl false) st := gNe_at ⟨eqOk_fr x x, by rw [eqD_fr]; simp⟩
theorem neT_fr {ma mb : EM} {x : Rat} (h1 : ma Γ st = .ok (fr x) st) (h2 : mb Γ st = .ok (fr x) st) : mB (mOp gNe ma mb) Γ st = .ok false st := mB_at (mOp_at h1 h2 ne_fr)
theorem neT_int {ma mb : EM} {x : Int} (h1 : ma Γ st = .ok (.int x) st) (h2 : mb Γ st = .ok (.int x) st) : mB (mOp gNe ma mb) Γ st = .ok false st := mB_at (mOp_at h1 h2 (ne_int.trans (by simp)))
theorem quot_0 (a : Bd n x) (b : Bd m y) (hy : y.num = 0) (hn : n + m + 1 ≤ 4000) : m__law_quotient [fr x, fr y] st = .ok (.str "bottom") st := by
  have e : mCons (mOp gMulW (mOp gIx (mVar 0) (mC (.int 0))) (mOp gIx (mVar 1) (mC (.int 1)))) (mCons (mOp gMulW (mOp gIx (mVar 0) (mC (.int 1))) (mOp gIx (mVar 1) (mC (.int 0)))) mNil) (startE 4 [fr x, fr y]) st = .ok [.int (x.num * y.den), .int ((x.den : Int) * y.num)] st :=
    mCons_at (tb_at rfl rfl a b (by omega)) (mCons_at (bt_at rfl rfl a b (by omega)) rfl)
  rw [hy, Int.mul_zero] at e
  refine fnM_ret rfl (mSeq_at (Γ' := [some (.dat (fr x)), some (.dat (fr y)), some (.dat (.int (x.num * y.den))), some (.dat (.int 0))]) ?_ (mSeq_rt (tests_t (mB_at (mOp_at (mVar_at (d := .int 0) rfl) rfl eq_int)) rfl)))
  show sE _ _ _ st = _
  rw [sE_ok e]
  rfl
theorem quot_at (a : Bd n x) (b : Bd m y) (hy : y.num ≠ 0) (hn : n + m + 1 ≤ 4000) : m__law_quotient [fr x, fr y] st = .ok (fr (x / y)) st := by
  have e : mCons (mOp gMulW (mOp gIx (mVar 0) (mC (.int 0))) (mOp gIx (mVar 1) (mC (.int 1)))) (mCons (mOp gMulW (mOp gIx (mVar 0) (mC (.int 1))) (mOp gIx (mVar 1) (mC (.int 0)))) mNil) (startE 4 [fr x, fr y]) st = .ok [.int (x.num * y.den), .int ((x.den : Int) * y.num)] st :=
    mCons_at (tb_at rfl rfl a b (by omega)) (mCons_at (bt_at rfl rfl a b (by omega)) rfl)
  have hB : (x.den : Int) * y.num ≠ 0 := Int.mul_ne_zero (den0 x) hy
  have z : ((x.den : Int) * y.num == 0) = false := by simpa using hB
  have h1 : (x.num * (y.den : Int)).natAbs < 2 ^ (n + m) := sm_mul a.top (sm_den b)
  have h2 : ((x.den : Int) * y.num).natAbs < 2 ^ (n + m) := sm_mul (sm_den a) b.top
  refine fnM_ret rfl (mSeq_at (st' := st) (Γ' := [some (.dat (fr x)), some (.dat (fr y)), some (.dat (.int (x.num * y.den))), some (.dat (.int ((x.den : Int) * y.num)))]) ?_ (mSeq_at (tests_f (mB_at (mOp_at (mVar_at (d := .int ((x.den : Int) * y.num)) rfl) rfl (eq_int.trans (by rw [z])))) rfl) (mRet_at ?_)))
  · show sE _ _ _ st = _
    rw [sE_ok e]
    rfl
  · rw [← div_fr]
    unfold mIf
    rw [M.bind_at, mB_at (mOp_at (mVar_at (d := .int ((x.den : Int) * y.num)) rfl) rfl gt_int)]
    show (if decide ((x.den : Int) * y.num > 0) = true then mCall _ _ _ else mCall _ _ _ : M D) st = _
    by_cases p : (x.den : Int) * y.num > 0
    · rw [if_pos (decide_eq_true p)]
      exact mCall2 (mVar_at rfl) (mVar_at rfl) (nxM_ok (low_at h1 p h2 (by omega)))
    · rw [if_neg (by simpa using p), ← Rat.neg_divInt_neg]
      have s1 : ∀ i : Int, gSub (.int 0) (.int i) st = .ok (.int (-i)) st := fun i => by
        show Out.ok (D.int (0 - i)) st = _
        rw [Int.zero_sub]
      exact mCall2 (mOp_at rfl (mVar_at rfl) (s1 _)) (mOp_at rfl (mVar_at rfl) (s1 _)) (nxM_ok (low_at (n := n + m) (by rw [Int.natAbs_neg]; exact h1) (by omega) (by rw [Int.natAbs_neg]; exact h2) (by omega)))
theorem div_at (a : Bd n x) (b : Bd m y) (hy : y.num ≠ 0) (hn : n + m + 1 ≤ 4000) : m__law_divided [fr x, fr y] st = .ok (fr (x / y)) st := by
  refine fnM_ret rfl ?_
  have e : mRet (mCall m_over (mCons (mVar 0) (mCons (mVar 1) mNil))) (startE 3 [fr x, fr y]) st = .ok (.rt (fr (x / y))) st := mRet_at (mCall2 (mVar_at rfl) (mVar_at rfl) (over_at a b hy (by omega)))
  unfold mb__law_divided mTryFld
  rw [e]
theorem div_0 (a : Bd n x) (b : Bd m y) (hy : y.num = 0) (hn : n + m + 1 ≤ 4000) : m__law_divided [fr x, fr y] st = .ok (.str "bottom") st := by
  refine fnM_ret rfl ?_
  have e : mRet (mCall m_over (mCons (mVar 0) (mCons (mVar 1) mNil))) (startE 3 [fr x, fr y]) st = .ok (.xc c_InvalidSize [("word", .str "bottom")] (startE 3 [fr x, fr y])) st := by
    have e1 : mCall m_over (mCons (mVar 0) (mCons (mVar 1) mNil)) (startE 3 [fr x, fr y]) st = .err c_InvalidSize [("word", .str "bottom")] st := by
      unfold mCall
      rw [M.bind_at, mCons_at (mVar_at (d := fr x) rfl) (mCons_at (mVar_at (d := fr y) rfl) rfl)]
      exact over_0 a b hy (by omega)
    show sE _ _ _ st = _
    unfold sE
    rw [e1]
  unfold mb__law_divided mTryFld
  rw [e]
  rfl
end
end Lk02

/-! P02f: _law_pair_right -/
namespace Lk02
open PySem FL
/-- the quotient or the error's word -/
def quo (x y : Rat) : D := if y.num = 0 then .str "bottom" else fr (x / y)
section
variable {Γ : Ev} {st : DS} {i j : Nat} {x y : Rat} {n : Nat}
theorem quo_law (a : Bd n x) (b : Bd n y) (hn : n + n + 1 ≤ 1900) : m__law_quotient [fr x, fr y] st = .ok (quo x y) st := by
  unfold quo
  split
  · exact quot_0 a b (by assumption) (by omega)
  · exact quot_at a b (by assumption) (by omega)
theorem quo_div (a : Bd n x) (b : Bd n y) (hn : n + n + 1 ≤ 1900) : m__law_divided [fr x, fr y] st = .ok (quo x y) st := by
  unfold quo
  split
  · exact div_0 a b (by assumption) (by omega)
  · exact div_at a b (by assumption) (by omega)
theorem wid_str : Wid 1 3802 (.str "bottom") := .str (by decide +kernel) (by decide +kernel)
theorem wid_quo (a : Bd n x) (b : Bd n y) (hn : n + n + 1 ≤ 1900) : Wid 1 3802 (quo x y) := by
  unfold quo
  split
  · exact wid_str
  · exact wid_fr (a.div b (by assumption)) hn
def due (x y : Rat) : List D := [fr (x + y), fr (x - y), fr (x * y), quo x y]
theorem wid_due (a : Bd n x) (b : Bd n y) (hn : n + n + 1 ≤ 1900) : reprOk (.lst (due x y)) = true :=
  Wid.repr (d := 2) (w := 15212) (.lst (v := 3802) (fun d hd => by
    simp only [due, List.mem_cons, List.not_mem_nil, or_false] at hd
    rcases hd with rfl | rfl | rfl | rfl
    · exact wid_fr (a.add b) hn
    · exact wid_fr (a.sub b) hn
    · exact wid_fr (a.mul b) hn
    · exact wid_quo a b hn) (by simp [due])) (by decide) (by decide)
theorem wid_two (a : Bd n x) (b : Bd n y) (hn : n ≤ 1900) : reprOk (.lst [fr x, fr y]) = true :=
  Wid.repr (d := 2) (w := 7606) (.lst (v := 3802) (fun d hd => by
    simp only [List.mem_cons, List.not_mem_nil, or_false] at hd
    rcases hd with rfl | rfl
    · exact wid_fr a hn
    · exact wid_fr b hn) (by simp)) (by decide) (by decide)
theorem repr_fr (a : Bd n x) (hn : n ≤ 1900) : reprOk (fr x) = true := (wid_fr a hn).repr (by decide) (by decide)
theorem repr_wide {i : Int} (h : i.natAbs < 2 ^ 1900) : reprOk (.int i) = true := Wid.repr (d := 1) (w := 1900) (.int h (Nat.le_refl _)) (by decide) (by decide)
theorem sgn_small (i : Int) : (sgn i).natAbs < 10 ^ 12 := by
  unfold sgn
  split
  · decide
  · split <;> decide
theorem sgn_flip (i : Int) : sgn (-i) = -sgn i := by
  unfold sgn
  repeat' split
  all_goals omega
theorem eqq {ma mb : EM} {d : D} (h1 : ma Γ st = .ok (.str d.py.shown) st) (h2 : mb Γ st = .ok (.str d.py.shown) st) : mOp gEq ma mb Γ st = .ok (.bl true) st := mOp_at h1 h2 (by
  show (if eqOk (.str d.py.shown) (.str d.py.shown) = true then _ else _ : Out D) = _
  rw [eqD_same, if_pos (by simp [eqOk, twoStr])])
theorem four {p q r s : D} {e : Ev} (i : Nat) {d : D} (h : e[7]? = some (some (.dat (.lst [p, q, r, s])))) (hd : [p, q, r, s][i]? = some d) : mOp gIx (mVar 7) (mC (.int (i : Nat))) e st = .ok d st := mOp_at (mVar_at h) rfl (gIx_lst hd)
def Γ9 (x y : Rat) (s8 : Option Sl) : Ev := [some (.dat (fr x)), some (.dat (fr y)), some (.dat (.int x.num)), some (.dat (.int x.den)), some (.dat (.int y.num)), some (.dat (.int y.den)), some (.dat (.str (D.lst [fr x, fr y]).py.shown)), some (.dat (.lst (due x y))), s8]
theorem pair_at (a : Bd n x) (b : Bd n y) (hn : n + n + 1 ≤ 1900) : m__law_pair_right [fr x, fr y] st = .ok (.bl true) st := by
  have hd := denP x y
  have lo : ∀ {T : Int} {Γ : Ev} {mt mb : EM} (q : Rat), mt Γ st = .ok (.int T) st → mb Γ st = .ok (.int ((x.den : Int) * y.den)) st → T.natAbs < 2 ^ (n + n + 1) → Rat.divInt T (x.den * y.den) = q → mCall (fun ds => nxM (m__law_low ds)) (mCons mt (mCons mb mNil)) Γ st = .ok (fr q) st := fun q h1 h2 h3 e => by
    subst e
    exact mCall2 h1 h2 (nxM_ok (low_at h3 hd (a.denT b) (by omega)))
  have ma : ∀ {Γ : Ev} {i j : Nat} {u v : Int}, Γ[i]? = some (some (.dat (.int u))) → Γ[j]? = some (some (.dat (.int v))) → u.natAbs < 2 ^ n → v.natAbs < 2 ^ n → mOp gMulW (mVar i) (mVar j) Γ st = .ok (.int (u * v)) st := fun h1 h2 h3 h4 => mOp_at (mVar_at h1) (mVar_at h2) (mulW h3 h4 (by omega))
  refine fnX_ret rfl (mSeq_at (Γ' := [some (.dat (fr x)), some (.dat (fr y)), some (.dat (.int x.num)), some (.dat (.int x.den)), some (.dat (.int y.num)), some (.dat (.int y.den)), none, none, none]) (asg_at (mTup_at (mCons_at (mVar_at (d := fr x) rfl) (mCons_at (mVar_at (d := fr y) rfl) rfl)) (by simp)) rfl) ?_)
  refine mSeq_at (asg_at (mCall1 (mLst_at (mCons_at (mVar_at (d := fr x) rfl) (mCons_at (mVar_at (d := fr y) rfl) rfl)) (by simp)) (gRepr_at (wid_two a b (by omega)))) rfl) ?_
  refine mSeq_at (Γ' := Γ9 x y none) (asg_at (d := .lst (due x y)) (mLst_at (mCons_at (lo (x + y) (mOp_at (ma rfl rfl a.top (sm_den b)) (ma rfl rfl b.top (sm_den a)) add_int) (ma rfl rfl (sm_den a) (sm_den b)) (a.addT b) (add_fr x y)) (mCons_at (lo (x - y) (mOp_at (ma rfl rfl a.top (sm_den b)) (ma rfl rfl b.top (sm_den a)) sub_int) (ma rfl rfl (sm_den a) (sm_den b)) (a.subT b) (sub_fr x y)) (mCons_at (lo (x * y) (ma rfl rfl a.top b.top) (ma rfl rfl (sm_den a) (sm_den b)) (sm_up (sm_mul a.top b.top) (Nat.le_succ _)) (mul_fr x y)) (mCons_at (mCall2 (mVar_at rfl) (mVar_at rfl) (nxM_ok (quo_law a b hn))) rfl)))) (by simp [due])) rfl) ?_
  refine mSeq_at (tests_f (repr_ne (d := .lst (due x y)) (mLst_at (mCons_at (mCall2 (mVar_at (d := fr x) rfl) (mVar_at (d := fr y) rfl) (plus_at a b (by omega))) (mCons_at (mCall2 (mVar_at (d := fr x) rfl) (mVar_at (d := fr y) rfl) (minus_at a b (by omega))) (mCons_at (mCall2 (mVar_at (d := fr x) rfl) (mVar_at (d := fr y) rfl) (times_at a b (by omega))) (mCons_at (mCall2 (mVar_at (d := fr x) rfl) (mVar_at (d := fr y) rfl) (nxM_ok (quo_div a b hn))) rfl)))) (by simp [due])) (mVar_at rfl) (wid_due a b hn)) rfl) ?_
  refine mSeq_at (tests_f (or_f (neT_fr (mCall2 (mVar_at (d := fr y) rfl) (mVar_at (d := fr x) rfl) (plus_at a b (by omega))) (four 0 rfl rfl)) (or_f (neT_fr (mCall2 (mVar_at (d := fr y) rfl) (mVar_at (d := fr x) rfl) (minus_at a b (by omega))) (four 1 rfl rfl)) (neT_fr (mCall2 (mVar_at (d := fr y) rfl) (mVar_at (d := fr x) rfl) (times_at a b (by omega))) (four 2 rfl rfl)))) rfl) ?_
  have s0 : ∀ i : Int, gSub (.int 0) (.int i) st = .ok (.int (-i)) st := fun i => by
    show Out.ok (D.int (0 - i)) st = _
    rw [Int.zero_sub]
  have en : fr (-x) = .tup [.int (-x.num), .int x.den] := by unfold fr; rw [Rat.neg_num, Rat.neg_den]
  have ne : mTup (mCons (mOp gSub (mC (.int 0)) (mVar 2)) (mCons (mVar 3) mNil)) (Γ9 x y none) st = .ok (fr (-x)) st := by
    rw [en]
    exact mTup_at (mCons_at (mOp_at rfl (mVar_at (d := .int x.num) rfl) (s0 _)) (mCons_at (mVar_at rfl) rfl)) (by simp)
  refine mSeq_at (tests_f (or_f (s1 := st) ?_ (or_f (repr_ne (mCall1 (mVar_at (d := fr x) rfl) (nxM_ok neg_at)) ne (repr_fr a.neg (by omega))) (neT_fr (mCall1 (mVar_at (d := fr x) rfl) (nxM_ok neg_at)) ne))) rfl) ?_
  · by_cases hy : y.num = 0
    · exact andT_f (mB_at (mOp_at (mVar_at (d := .int y.num) rfl) rfl (ne_int.trans (by rw [hy]; rfl))))
    · have z : (y.num == 0) = false := by simpa using hy
      refine andT_t (mB_at (mOp_at (mVar_at (d := .int y.num) rfl) rfl (ne_int.trans (by rw [z]; rfl)))) (neT_fr (mCall2 (mVar_at (d := fr y) rfl) (mVar_at (d := fr x) rfl) (over_at a b hy (by omega))) (four 3 rfl ?_))
      show some (quo x y) = some (fr (x / y))
      rw [quo, if_neg hy]
  refine mSeq_at (Γ' := Γ9 x y (some (.dat (.int (sgQ (x - y)))))) (asg_at (d := .int (sgQ (x - y))) (mCall1 (mOp_at (ma rfl rfl a.top (sm_den b)) (ma rfl rfl b.top (sm_den a)) sub_int) (nxM_ok (by rw [← cross_sgn]; exact lawsign_at))) rfl) ?_
  refine mRet_at (mAnd_t (eqq (d := .int (sgQ (x - y))) (mCall1 (mCall2 (mVar_at (d := fr x) rfl) (mVar_at (d := fr y) rfl) (nxM_ok (compared_at a b (by omega)))) (gRepr_at (reprOk_int (sgn_small _)))) (mCall1 (mVar_at rfl) (gRepr_at (reprOk_int (sgn_small _))))) (mAnd_t (mOp_at (mCall2 (mVar_at (d := fr x) rfl) (mVar_at (d := fr y) rfl) (nxM_ok (compared_at b a (by omega)))) (mOp_at rfl (mVar_at (d := .int (sgQ (x - y))) rfl) (s0 _)) (eq_int.trans ?_)) (eqq (d := .lst [fr x, fr y]) (mCall1 (mLst_at (mCons_at (mVar_at (d := fr x) rfl) (mCons_at (mVar_at (d := fr y) rfl) rfl)) (by simp)) (gRepr_at (wid_two a b (by omega)))) (mVar_at rfl))))
  have e : y - x = -(x - y) := by grind
  have e2 : sgQ (y - x) = -sgQ (x - y) := by
    rw [e]
    unfold sgQ
    rw [Rat.neg_num, sgn_flip]
  rw [e2]
  simp
end
end Lk02

/-! P02g: _law_one_right, _law_undone -/
namespace Lk02
open PySem FL
section
variable {Γ : Ev} {st : DS} {i j : Nat} {x y z : Rat} {n : Nat}
theorem neT_eq {ma mb : EM} {x y : Rat} (h1 : ma Γ st = .ok (fr x) st) (h2 : mb Γ st = .ok (fr y) st) (e : x = y) : mB (mOp gNe ma mb) Γ st = .ok false st := neT_fr h1 (e ▸ h2)
theorem zero_fr : D.tup [.int 0, .int 1] = fr 0 := rfl
theorem floor_sm (a : Bd n x) : (x.num / (x.den : Int)).natAbs < 2 ^ (n + 1) := by
  have h := a.top
  have hp := den1 x
  have h1 := Int.mul_ediv_add_emod x.num x.den
  have h2 := Int.emod_nonneg x.num (den0 x)
  have h3 := Int.emod_lt_of_pos x.num hp
  generalize x.num / (x.den : Int) = q at *
  generalize x.num % (x.den : Int) = r at *
  rw [Nat.pow_succ]
  have k1 : q.natAbs ≤ ((x.den : Int) * q).natAbs := by
    rw [Int.natAbs_mul]
    exact Nat.le_mul_of_pos_left _ (by omega)
  have k2 := sm_den a
  omega
theorem one_at (a : Bd n x) (hn : n ≤ 1800) : m__law_one_right [fr x] st = .ok (.bl true) st := by
  have fl := floor_at (st := st) a (by omega)
  have ce := ceil_at (st := st) a (by omega)
  have hp := den1 x
  have f1 := Int.mul_ediv_add_emod x.num x.den
  have f2 := Int.emod_nonneg x.num (den0 x)
  have f3 := Int.emod_lt_of_pos x.num hp
  have c1 := Int.mul_ediv_add_emod (-x.num) x.den
  have c2 := Int.emod_nonneg (-x.num) (den0 x)
  have c3 := Int.emod_lt_of_pos (-x.num) hp
  have g1 : (x.num / (x.den : Int)).natAbs < 2 ^ (n + 1) := floor_sm a
  have g2 : (-(-x.num / (x.den : Int))).natAbs < 2 ^ (n + 1) := by
    rw [Int.natAbs_neg, ← Rat.neg_num, ← Rat.neg_den]
    exact floor_sm a.neg
  have e1 : mCons (mCall (fun ds => nxM (m_floor_of ds)) (mCons (mVar 0) mNil)) (mCons (mCall (fun ds => nxM (m_ceiling_of ds)) (mCons (mVar 0) mNil)) mNil) (startE 3 [fr x]) st = .ok [.int (x.num / x.den), .int (-(-x.num / x.den))] st :=
    mCons_at (mCall1 (mVar_at rfl) (nxM_ok fl)) (mCons_at (mCall1 (mVar_at rfl) (nxM_ok ce)) rfl)
  refine fnM_ret rfl (mSeq_at (st' := st) (Γ' := [some (.dat (fr x)), some (.dat (.int (x.num / x.den))), some (.dat (.int (-(-x.num / x.den))))]) ?_ ?_)
  · show sE _ _ _ st = _
    rw [sE_ok e1]
    rfl
  have vx : mVar 0 [some (.dat (fr x)), some (.dat (.int (x.num / x.den))), some (.dat (.int (-(-x.num / x.den))))] st = .ok (fr x) st := mVar_at rfl
  generalize x.num / (x.den : Int) = q at *
  generalize -x.num / (x.den : Int) = r at *
  have v1 : mVar 1 [some (.dat (fr x)), some (.dat (.int q)), some (.dat (.int (-r)))] st = .ok (.int q) st := mVar_at rfl
  have v2 : mVar 2 [some (.dat (fr x)), some (.dat (.int q)), some (.dat (.int (-r)))] st = .ok (.int (-r)) st := mVar_at rfl
  have tx : mOp gIx (mVar 0) (mC (.int 0)) [some (.dat (fr x)), some (.dat (.int q)), some (.dat (.int (-r)))] st = .ok (.int x.num) st := top_at rfl
  have bx : mOp gIx (mVar 0) (mC (.int 1)) [some (.dat (fr x)), some (.dat (.int q)), some (.dat (.int (-r)))] st = .ok (.int x.den) st := bot_at rfl
  have p1 : mOp gMulW (mVar 1) (mOp gIx (mVar 0) (mC (.int 1))) [some (.dat (fr x)), some (.dat (.int q)), some (.dat (.int (-r)))] st = .ok (.int (q * x.den)) st := mOp_at v1 bx (mulW g1 (sm_den a) (by omega))
  have p2 : mOp gMulW (mVar 2) (mOp gIx (mVar 0) (mC (.int 1))) [some (.dat (fr x)), some (.dat (.int q)), some (.dat (.int (-r)))] st = .ok (.int (-r * x.den)) st := mOp_at v2 bx (mulW g2 (sm_den a) (by omega))
  have sg := sign_at (st := st) (x := x)
  have cq : q * (x.den : Int) = (x.den : Int) * q := Int.mul_comm _ _
  have cr : -r * (x.den : Int) = -((x.den : Int) * r) := by rw [Int.neg_mul, Int.mul_comm]
  refine mSeq_at (tests_f (or_f (repr_ne (d := .int (sgQ x)) (mCall1 vx (nxM_ok sg)) (mCall1 tx (nxM_ok lawsign_at)) (reprOk_int (sgn_small _))) (or_f (not_at (b := true) (mB_at (mUn_at v1 rfl))) (not_at (b := true) (mB_at (mUn_at v2 rfl))))) rfl) ?_
  refine mSeq_at (tests_f (or_f (mB_at (mUn_at v1 rfl)) (or_f (mB_at (mUn_at v2 rfl)) (or_f (neT_int (mCall1 vx (nxM_ok fl)) v1) (neT_int (mCall1 vx (nxM_ok ce)) v2)))) rfl) ?_
  refine mSeq_at (tests_f (or_f (mB_at (mOp_at p1 tx (gt_int.trans (by rw [decide_eq_false (by omega)])))) (or_f (mB_at (mOp_at tx (mOp_at p1 bx add_int) (ge_int.trans (by rw [decide_eq_false (by omega)])))) (neT_int (mCall1 vx (nxM_ok sg)) (mCall1 vx (nxM_ok sg))))) rfl) ?_
  exact mRet_at (mAnd_t (mOp_at p2 tx (ge_int.trans (by rw [decide_eq_true (by omega)]))) (mOp_at tx (mOp_at p2 bx sub_int) (gt_int.trans (by rw [decide_eq_true (by omega)]))))
theorem num0 {q : Rat} (h : q.num ≠ 0) : q ≠ 0 := fun e => h (by rw [e]; rfl)
theorem undone_at (a : Bd n x) (b : Bd n y) (c : Bd n z) (hn : n ≤ 100) : m__law_undone [fr x, fr y, fr z] st = .ok (.bl true) st := by
  have vx : mVar 0 [some (.dat (fr x)), some (.dat (fr y)), some (.dat (fr z))] st = .ok (fr x) st := mVar_at rfl
  have vy : mVar 1 [some (.dat (fr x)), some (.dat (fr y)), some (.dat (fr z))] st = .ok (fr y) st := mVar_at rfl
  have vz : mVar 2 [some (.dat (fr x)), some (.dat (fr y)), some (.dat (fr z))] st = .ok (fr z) st := mVar_at rfl
  have P : ∀ {ma mb : EM} {u v : Rat} {k l : Nat}, ma [some (.dat (fr x)), some (.dat (fr y)), some (.dat (fr z))] st = .ok (fr u) st → mb [some (.dat (fr x)), some (.dat (fr y)), some (.dat (fr z))] st = .ok (fr v) st → Bd k u → Bd l v → k + l + 1 ≤ 8000 → mCall m_plus (mCons ma (mCons mb mNil)) [some (.dat (fr x)), some (.dat (fr y)), some (.dat (fr z))] st = .ok (fr (u + v)) st := fun h1 h2 b1 b2 hb => mCall2 h1 h2 (plus_at b1 b2 hb)
  have Mi : ∀ {ma mb : EM} {u v : Rat} {k l : Nat}, ma [some (.dat (fr x)), some (.dat (fr y)), some (.dat (fr z))] st = .ok (fr u) st → mb [some (.dat (fr x)), some (.dat (fr y)), some (.dat (fr z))] st = .ok (fr v) st → Bd k u → Bd l v → k + l + 1 ≤ 8000 → mCall m_minus (mCons ma (mCons mb mNil)) [some (.dat (fr x)), some (.dat (fr y)), some (.dat (fr z))] st = .ok (fr (u - v)) st := fun h1 h2 b1 b2 hb => mCall2 h1 h2 (minus_at b1 b2 hb)
  have T : ∀ {ma mb : EM} {u v : Rat} {k l : Nat}, ma [some (.dat (fr x)), some (.dat (fr y)), some (.dat (fr z))] st = .ok (fr u) st → mb [some (.dat (fr x)), some (.dat (fr y)), some (.dat (fr z))] st = .ok (fr v) st → Bd k u → Bd l v → k + l + 1 ≤ 8000 → mCall m_times (mCons ma (mCons mb mNil)) [some (.dat (fr x)), some (.dat (fr y)), some (.dat (fr z))] st = .ok (fr (u * v)) st := fun h1 h2 b1 b2 hb => mCall2 h1 h2 (times_at b1 b2 hb)
  have C : ∀ {ma mb : EM} {u v : Rat} {k l : Nat}, ma [some (.dat (fr x)), some (.dat (fr y)), some (.dat (fr z))] st = .ok (fr u) st → mb [some (.dat (fr x)), some (.dat (fr y)), some (.dat (fr z))] st = .ok (fr v) st → Bd k u → Bd l v → k + l + 1 ≤ 8000 → mCall (fun ds => nxM (m_compared ds)) (mCons ma (mCons mb mNil)) [some (.dat (fr x)), some (.dat (fr y)), some (.dat (fr z))] st = .ok (.int (sgQ (u - v))) st := fun h1 h2 b1 b2 hb => mCall2 h1 h2 (nxM_ok (compared_at b1 b2 hb))
  refine fnX_ret rfl (mSeq_at (Γ' := [some (.dat (fr x)), some (.dat (fr y)), some (.dat (fr z))]) (tests_f (or_f (neT_eq (Mi (P vx vy a b (by omega)) vy (a.add b) b (by omega)) vx (by grind)) (or_f (neT_eq (P (Mi vx vy a b (by omega)) vy (a.sub b) b (by omega)) vx (by grind)) (neT_eq (y := 0) (P vx (mCall1 vx (nxM_ok neg_at)) a a.neg (by omega)) (mTup_at (mCons_at rfl (mCons_at rfl rfl)) (by decide)) (by grind)))) rfl) ?_)
  refine mSeq_at (Γ' := [some (.dat (fr x)), some (.dat (fr y)), some (.dat (fr z))]) (tests_f (s1 := st) ?_ rfl) ?_
  · by_cases hy : y.num = 0
    · exact andT_f (mB_at (mOp_at (top_at rfl) rfl (ne_int.trans (by rw [hy]; rfl))))
    · have zz : (y.num == 0) = false := by simpa using hy
      have y0 := num0 hy
      exact andT_t (mB_at (mOp_at (top_at rfl) rfl (ne_int.trans (by rw [zz]; rfl)))) (or_f (neT_eq (mCall2 (T vx vy a b (by omega)) vy (over_at (a.mul b) b hy (by omega))) vx (by grind)) (neT_eq (T vy (mCall2 vx vy (over_at a b hy (by omega))) b (a.div b hy) (by omega)) vx (by grind)))
  refine mSeq_at (Γ' := [some (.dat (fr x)), some (.dat (fr y)), some (.dat (fr z))]) (tests_f (or_f (neT_eq (T vz (P vx vy a b (by omega)) c (a.add b) (by omega)) (P (T vz vx c a (by omega)) (T vz vy c b (by omega)) (c.mul a) (c.mul b) (by omega)) (by grind)) (neT_int (x := sgQ (x - y)) ?_ (C vx vy a b (by omega)))) rfl) ?_
  · have := C (P vx vz a c (by omega)) (P vy vz b c (by omega)) (a.add c) (b.add c) (by omega)
    rw [show x + z - (y + z) = x - y by grind] at this
    exact this
  refine mSeq_at (Γ' := [some (.dat (fr x)), some (.dat (fr y)), some (.dat (fr z))]) (tests_f (or_f (neT_eq (P (P vx vy a b (by omega)) vz (a.add b) c (by omega)) (P vx (P vy vz b c (by omega)) a (b.add c) (by omega)) (by grind)) (neT_eq (T (T vx vy a b (by omega)) vz (a.mul b) c (by omega)) (T vx (T vy vz b c (by omega)) a (b.mul c) (by omega)) (by grind))) rfl) ?_
  have sm : ∀ i : Int, (sgn i).natAbs < 2 ^ 1 := fun i => by
    unfold sgn
    split
    · decide
    · split <;> decide
  refine mRet_at (mOp_at (C (T vx vz a c (by omega)) (T vy vz b c (by omega)) (a.mul c) (b.mul c) (by omega)) (mOp_at (C vx vy a b (by omega)) (mCall1 vz (nxM_ok sign_at)) (mulW (sm _) (sm _) (by decide))) (eq_int.trans ?_))
  rw [show x * z - y * z = (x - y) * z by grind, sgQ_mul]
  simp
end
end Lk02

/-! P02h: rows of fractions -/
namespace Lk02
open PySem FL
abbrev frs (qs : List Rat) : List D := qs.map fr
/-- a row as a value -/
def IsRow (d : D) (qs : List Rat) : Prop := d = .tup (frs qs) ∨ d = .lst (frs qs) ∨ d = .bor (frs qs)
section
variable {Γ : Ev} {st : DS} {i j : Nat} {x y z : Rat} {n : Nat} {qs : List Rat} {d : D}
theorem IsRow.seq (h : IsRow d qs) : gSeq d st = .ok (frs qs) st := by rcases h with rfl | rfl | rfl <;> rfl
theorem IsRow.len (h : IsRow d qs) : gLen [d] st = .ok (.int (qs.length : Nat)) st := by
  rcases h with rfl | rfl | rfl
  · show Out.ok (D.int ((frs qs).length : Nat)) st = _
    rw [List.length_map]
  · show Out.ok (D.int ((frs qs).length : Nat)) st = _
    rw [List.length_map]
  · show Out.ok (D.int ((frs qs).length : Nat)) st = _
    rw [List.length_map]
theorem IsRow.first (h : IsRow d (x :: qs)) : gIx d (.int 0) st = .ok (fr x) st := by
  rcases h with rfl | rfl | rfl
  · exact gIx_tup (i := 0) rfl
  · exact gIx_lst (i := 0) rfl
  · exact gIx_bor (i := 0) rfl
/-! ### sums -/
def sumQ (qs : List Rat) (x : Rat) : Rat := qs.foldl (· + ·) x
theorem sum_loop : ∀ {qs : List Rat} {k : Nat} {x : Rat} {r : D} {s : Option Sl}, Bd k x → (∀ q ∈ qs, Bd n q) → k + qs.length * (n + 1) ≤ 7000 → ∃ s', loopS (mgName 2) (mAsg (mCall m_plus (mCons (mVar 1) (mCons (mVar 2) mNil))) (mgName 1)) (frs qs) [some (.dat r), some (.dat (fr x)), s] st = .ok (.nx [some (.dat r), some (.dat (fr (sumQ qs x))), s']) st ∧ Bd (k + qs.length * (n + 1)) (sumQ qs x)
  | [], k, x, r, s, hx, _, _ => ⟨s, rfl, by simpa [sumQ] using hx⟩
  | q :: qs, k, x, r, s, hx, hq, hk => by
    rw [List.length_cons, Nat.succ_mul] at hk
    have b := hq q List.mem_cons_self
    obtain ⟨s', e, b'⟩ := sum_loop (qs := qs) (k := k + n + 1) (x := x + q) (r := r) (s := some (.dat (fr q))) (hx.add b) (fun q' h => hq q' (List.mem_cons_of_mem _ h)) (by omega)
    refine ⟨s', ?_, by rw [List.length_cons, Nat.succ_mul, show k + (qs.length * (n + 1) + (n + 1)) = k + n + 1 + qs.length * (n + 1) by omega]; exact b'⟩
    show Out.bind (mAsg _ _ [some (.dat r), some (.dat (fr x)), some (.dat (fr q))] st) _ = _
    rw [asg_at (mCall2 (mVar_at (d := fr x) rfl) (mVar_at (d := fr q) rfl) (plus_at hx b (by omega))) rfl]
    exact e
theorem bd0 : Bd 1 0 := ⟨by decide, by decide⟩
theorem total_at (h : IsRow d qs) (hq : ∀ q ∈ qs, Bd n q) (hn : 1 + qs.length * (n + 1) ≤ 1900) : m_total_of [d] st = .ok (fr (sumQ qs 0)) st ∧ Bd (1 + qs.length * (n + 1)) (sumQ qs 0) := by
  obtain ⟨s', e, b⟩ := sum_loop (st := st) (qs := qs) (k := 1) (x := 0) (r := d) (s := none) bd0 hq (by omega)
  refine ⟨fnX_ret rfl (mSeq_at (Γ' := [some (.dat d), some (.dat (fr 0)), none]) (asg_at rfl rfl) (mSeq_at (mFor_at (mSeqOf_at (mVar_at rfl) h.seq) e) (mRet_at (mVar_at rfl)))), b⟩
/-! ### the law's own sum -/
theorem cross_loop {r0 r1 : D} {s5 s6 : Option Sl} : ∀ {qs : List Rat} {k : Nat} {T B : Int} {s : Option Sl}, 0 < B → T.natAbs < 2 ^ k → B.natAbs < 2 ^ k → (∀ q ∈ qs, Bd n q) → k + qs.length * (n + 1) ≤ 7000 → ∃ T' B' s', loopS (mgName 4) (mPar 2 3 (mCons (mOp gAdd (mOp gMulW (mVar 2) (mOp gIx (mVar 4) (mC (.int 1)))) (mOp gMulW (mOp gIx (mVar 4) (mC (.int 0))) (mVar 3))) (mCons (mOp gMulW (mVar 3) (mOp gIx (mVar 4) (mC (.int 1)))) mNil))) (frs qs) [some (.dat r0), some (.dat r1), some (.dat (.int T)), some (.dat (.int B)), s, s5, s6] st = .ok (.nx [some (.dat r0), some (.dat r1), some (.dat (.int T')), some (.dat (.int B')), s', s5, s6]) st ∧ 0 < B' ∧ T'.natAbs < 2 ^ (k + qs.length * (n + 1)) ∧ B'.natAbs < 2 ^ (k + qs.length * (n + 1)) ∧ Rat.divInt T' B' = sumQ qs (Rat.divInt T B)
  | [], k, T, B, s, hB, hT, hb, _, _ => ⟨T, B, s, rfl, hB, by simpa using hT, by simpa using hb, rfl⟩
  | q :: qs, k, T, B, s, hB, hT, hb, hq, hk => by
    rw [List.length_cons, Nat.succ_mul] at hk
    have b := hq q List.mem_cons_self
    have hB' : 0 < B * q.den := Int.mul_pos hB (den1 q)
    have e0 : Rat.divInt (T * q.den + q.num * B) (B * q.den) = Rat.divInt T B + q := by
      rw [← Rat.divInt_add_divInt _ _ (by omega) (den0 q), Rat.num_divInt_den]
    obtain ⟨T', B', s', e, h1, h2, h3, h4⟩ := cross_loop (qs := qs) (k := k + n + 1) (T := T * q.den + q.num * B) (B := B * q.den) (s := some (.dat (fr q))) hB'
      (sm_add (sm_mul hT (sm_den b)) (by rw [Nat.add_comm k n]; exact sm_mul b.top hb)) (sm_up (sm_mul hb (sm_den b)) (Nat.le_succ _)) (fun q' h => hq q' (List.mem_cons_of_mem _ h)) (by omega)
    refine ⟨T', B', s', ?_, h1, by rw [List.length_cons, Nat.succ_mul, show k + (qs.length * (n + 1) + (n + 1)) = k + n + 1 + qs.length * (n + 1) by omega]; exact h2, by rw [List.length_cons, Nat.succ_mul, show k + (qs.length * (n + 1) + (n + 1)) = k + n + 1 + qs.length * (n + 1) by omega]; exact h3, by rw [h4, e0]; rfl⟩
    have em : mCons (mOp gAdd (mOp gMulW (mVar 2) (mOp gIx (mVar 4) (mC (.int 1)))) (mOp gMulW (mOp gIx (mVar 4) (mC (.int 0))) (mVar 3))) (mCons (mOp gMulW (mVar 3) (mOp gIx (mVar 4) (mC (.int 1)))) mNil) [some (.dat r0), some (.dat r1), some (.dat (.int T)), some (.dat (.int B)), some (.dat (fr q)), s5, s6] st = .ok [.int (T * q.den + q.num * B), .int (B * q.den)] st :=
      mCons_at (mOp_at (mOp_at (mVar_at (d := .int T) rfl) (bot_at rfl) (mulW hT (sm_den b) (by omega))) (mOp_at (top_at rfl) (mVar_at (d := .int B) rfl) (mulW b.top hb (by omega))) add_int) (mCons_at (mOp_at (mVar_at (d := .int B) rfl) (bot_at rfl) (mulW hb (sm_den b) (by omega))) rfl)
    show Out.bind (mPar _ _ _ [some (.dat r0), some (.dat r1), some (.dat (.int T)), some (.dat (.int B)), some (.dat (fr q)), s5, s6] st) _ = _
    have ep : mPar 2 3 (mCons (mOp gAdd (mOp gMulW (mVar 2) (mOp gIx (mVar 4) (mC (.int 1)))) (mOp gMulW (mOp gIx (mVar 4) (mC (.int 0))) (mVar 3))) (mCons (mOp gMulW (mVar 3) (mOp gIx (mVar 4) (mC (.int 1)))) mNil)) [some (.dat r0), some (.dat r1), some (.dat (.int T)), some (.dat (.int B)), some (.dat (fr q)), s5, s6] st = .ok (.nx [some (.dat r0), some (.dat r1), some (.dat (.int (T * q.den + q.num * B))), some (.dat (.int (B * q.den))), some (.dat (fr q)), s5, s6]) st := by
      show sE _ _ _ st = _
      rw [sE_ok em]
      rfl
    rw [ep]
    exact e
/-! ### least and greatest -/
def minQ : List Rat → Rat → Rat := fun qs x => qs.foldl (fun b q => if q < b then q else b) x
def maxQ : List Rat → Rat → Rat := fun qs x => qs.foldl (fun b q => if b < q then q else b) x
theorem sg_lt (x y : Rat) : decide (sgQ (x - y) < 0) = decide (x < y) := by
  rcases rat_tri (x - y) with h | h | h
  · rw [sgQ_neg h, decide_eq_true (by decide), decide_eq_true (by grind)]
  · rw [h, sgQ_zero, decide_eq_false (by decide), decide_eq_false (by grind)]
  · rw [sgQ_pos h, decide_eq_false (by decide), decide_eq_false (by grind)]
theorem sg_gt (x y : Rat) : decide (sgQ (x - y) > 0) = decide (y < x) := by
  rcases rat_tri (x - y) with h | h | h
  · rw [sgQ_neg h, decide_eq_false (by decide), decide_eq_false (by grind)]
  · rw [h, sgQ_zero, decide_eq_false (by decide), decide_eq_false (by grind)]
  · rw [sgQ_pos h, decide_eq_true (by decide), decide_eq_true (by grind)]
theorem min_loop {r : D} (hn : n + n + 1 ≤ 8000) : ∀ {qs : List Rat} {x : Rat} {s : Option Sl}, Bd n x → (∀ q ∈ qs, Bd n q) → ∃ s', loopS (mgName 2) (mIfS (mB (mOp gLt (mCall (fun ds => nxM (m_compared ds)) (mCons (mVar 2) (mCons (mVar 1) mNil))) (mC (.int 0)))) (mAsg (mVar 2) (mgName 1)) mNext) (frs qs) [some (.dat r), some (.dat (fr x)), s] st = .ok (.nx [some (.dat r), some (.dat (fr (minQ qs x))), s']) st
  | [], x, s, _, _ => ⟨s, rfl⟩
  | q :: qs, x, s, hx, hq => by
    have b := hq q List.mem_cons_self
    have hq' : ∀ q' ∈ qs, Bd n q' := fun q' h => hq q' (List.mem_cons_of_mem _ h)
    have t : mB (mOp gLt (mCall (fun ds => nxM (m_compared ds)) (mCons (mVar 2) (mCons (mVar 1) mNil))) (mC (.int 0))) [some (.dat r), some (.dat (fr x)), some (.dat (fr q))] st = .ok (decide (q < x)) st :=
      mB_at (mOp_at (mCall2 (mVar_at (d := fr q) rfl) (mVar_at (d := fr x) rfl) (nxM_ok (compared_at b hx hn))) rfl (lt_int.trans (by rw [sg_lt])))
    by_cases h : q < x
    · rw [decide_eq_true h] at t
      obtain ⟨s', e⟩ := min_loop hn (r := r) (qs := qs) (x := q) (s := some (.dat (fr q))) b hq'
      refine ⟨s', ?_⟩
      show Out.bind (mIfS _ _ _ [some (.dat r), some (.dat (fr x)), some (.dat (fr q))] st) _ = _
      rw [tests_t t (asg_at (mVar_at rfl) rfl)]
      have : minQ (q :: qs) x = minQ qs q := by show minQ qs (if q < x then q else x) = _; rw [if_pos h]
      rw [this]
      exact e
    · rw [decide_eq_false h] at t
      obtain ⟨s', e⟩ := min_loop hn (r := r) (qs := qs) (x := x) (s := some (.dat (fr q))) hx hq'
      refine ⟨s', ?_⟩
      show Out.bind (mIfS _ _ _ [some (.dat r), some (.dat (fr x)), some (.dat (fr q))] st) _ = _
      rw [tests_f t rfl]
      have : minQ (q :: qs) x = minQ qs x := by show minQ qs (if q < x then q else x) = _; rw [if_neg h]
      rw [this]
      exact e
theorem max_loop {r : D} (hn : n + n + 1 ≤ 8000) : ∀ {qs : List Rat} {x : Rat} {s : Option Sl}, Bd n x → (∀ q ∈ qs, Bd n q) → ∃ s', loopS (mgName 2) (mIfS (mB (mOp gGt (mCall (fun ds => nxM (m_compared ds)) (mCons (mVar 2) (mCons (mVar 1) mNil))) (mC (.int 0)))) (mAsg (mVar 2) (mgName 1)) mNext) (frs qs) [some (.dat r), some (.dat (fr x)), s] st = .ok (.nx [some (.dat r), some (.dat (fr (maxQ qs x))), s']) st
  | [], x, s, _, _ => ⟨s, rfl⟩
  | q :: qs, x, s, hx, hq => by
    have b := hq q List.mem_cons_self
    have hq' : ∀ q' ∈ qs, Bd n q' := fun q' h => hq q' (List.mem_cons_of_mem _ h)
    have t : mB (mOp gGt (mCall (fun ds => nxM (m_compared ds)) (mCons (mVar 2) (mCons (mVar 1) mNil))) (mC (.int 0))) [some (.dat r), some (.dat (fr x)), some (.dat (fr q))] st = .ok (decide (x < q)) st :=
      mB_at (mOp_at (mCall2 (mVar_at (d := fr q) rfl) (mVar_at (d := fr x) rfl) (nxM_ok (compared_at b hx hn))) rfl (gt_int.trans (by rw [sg_gt])))
    by_cases h : x < q
    · rw [decide_eq_true h] at t
      obtain ⟨s', e⟩ := max_loop hn (r := r) (qs := qs) (x := q) (s := some (.dat (fr q))) b hq'
      refine ⟨s', ?_⟩
      show Out.bind (mIfS _ _ _ [some (.dat r), some (.dat (fr x)), some (.dat (fr q))] st) _ = _
      rw [tests_t t (asg_at (mVar_at rfl) rfl)]
      have : maxQ (q :: qs) x = maxQ qs q := by show maxQ qs (if x < q then q else x) = _; rw [if_pos h]
      rw [this]
      exact e
    · rw [decide_eq_false h] at t
      obtain ⟨s', e⟩ := max_loop hn (r := r) (qs := qs) (x := x) (s := some (.dat (fr q))) hx hq'
      refine ⟨s', ?_⟩
      show Out.bind (mIfS _ _ _ [some (.dat r), some (.dat (fr x)), some (.dat (fr q))] st) _ = _
      rw [tests_f t rfl]
      have : maxQ (q :: qs) x = maxQ qs x := by show maxQ qs (if x < q then q else x) = _; rw [if_neg h]
      rw [this]
      exact e
theorem minQ_spec : ∀ (qs : List Rat) (x : Rat), (minQ qs x = x ∨ minQ qs x ∈ qs) ∧ minQ qs x ≤ x ∧ ∀ q ∈ qs, minQ qs x ≤ q
  | [], x => ⟨.inl rfl, Rat.le_refl, fun q h => by cases h⟩
  | q :: qs, x => by
    obtain ⟨h1, h2, h3⟩ := minQ_spec qs (if q < x then q else x)
    have e : minQ (q :: qs) x = minQ qs (if q < x then q else x) := rfl
    rw [e]
    by_cases h : q < x
    · rw [if_pos h] at h1 h2 h3 ⊢
      refine ⟨.inr ?_, by grind, fun q' hq => ?_⟩
      · rcases h1 with z | z
        · rw [z]; exact List.mem_cons_self
        · exact List.mem_cons_of_mem _ z
      · rcases List.mem_cons.mp hq with rfl | z
        · exact h2
        · exact h3 _ z
    · rw [if_neg h] at h1 h2 h3 ⊢
      refine ⟨h1.imp id fun z => List.mem_cons_of_mem _ z, h2, fun q' hq => ?_⟩
      rcases List.mem_cons.mp hq with rfl | z
      · grind
      · exact h3 _ z
theorem maxQ_spec : ∀ (qs : List Rat) (x : Rat), (maxQ qs x = x ∨ maxQ qs x ∈ qs) ∧ x ≤ maxQ qs x ∧ ∀ q ∈ qs, q ≤ maxQ qs x
  | [], x => ⟨.inl rfl, Rat.le_refl, fun q h => by cases h⟩
  | q :: qs, x => by
    obtain ⟨h1, h2, h3⟩ := maxQ_spec qs (if x < q then q else x)
    have e : maxQ (q :: qs) x = maxQ qs (if x < q then q else x) := rfl
    rw [e]
    by_cases h : x < q
    · rw [if_pos h] at h1 h2 h3 ⊢
      refine ⟨.inr ?_, by grind, fun q' hq => ?_⟩
      · rcases h1 with z | z
        · rw [z]; exact List.mem_cons_self
        · exact List.mem_cons_of_mem _ z
      · rcases List.mem_cons.mp hq with rfl | z
        · exact h2
        · exact h3 _ z
    · rw [if_neg h] at h1 h2 h3 ⊢
      refine ⟨h1.imp id fun z => List.mem_cons_of_mem _ z, h2, fun q' hq => ?_⟩
      rcases List.mem_cons.mp hq with rfl | z
      · grind
      · exact h3 _ z
theorem least_at (h : IsRow d (x :: qs)) (hq : ∀ q ∈ x :: qs, Bd n q) (hn : n + n + 1 ≤ 8000) : m_least_of [d] st = .ok (fr (minQ (x :: qs) x)) st := by
  obtain ⟨s', e⟩ := min_loop hn (st := st) (r := d) (qs := x :: qs) (x := x) (s := none) (hq x List.mem_cons_self) hq
  have z : ((((x :: qs).length : Nat) : Int) == 0) = false := by rw [natInt_zero]; simp
  exact fnX_ret rfl (mSeq_at (tests_f (mB_at (mOp_at (mCall1 (mVar_at rfl) h.len) rfl (eq_int.trans (by rw [z])))) rfl) (mSeq_at (Γ' := [some (.dat d), some (.dat (fr x)), none]) (asg_at (mOp_at (mVar_at rfl) rfl h.first) rfl) (mSeq_at (mFor_at (mSeqOf_at (mVar_at rfl) h.seq) e) (mRet_at (mVar_at rfl)))))
theorem greatest_at (h : IsRow d (x :: qs)) (hq : ∀ q ∈ x :: qs, Bd n q) (hn : n + n + 1 ≤ 8000) : m_greatest_of [d] st = .ok (fr (maxQ (x :: qs) x)) st := by
  obtain ⟨s', e⟩ := max_loop hn (st := st) (r := d) (qs := x :: qs) (x := x) (s := none) (hq x List.mem_cons_self) hq
  have z : ((((x :: qs).length : Nat) : Int) == 0) = false := by rw [natInt_zero]; simp
  exact fnX_ret rfl (mSeq_at (tests_f (mB_at (mOp_at (mCall1 (mVar_at rfl) h.len) rfl (eq_int.trans (by rw [z])))) rfl) (mSeq_at (Γ' := [some (.dat d), some (.dat (fr x)), none]) (asg_at (mOp_at (mVar_at rfl) rfl h.first) rfl) (mSeq_at (mFor_at (mSeqOf_at (mVar_at rfl) h.seq) e) (mRet_at (mVar_at rfl)))))
theorem least_0 (h : IsRow d []) : m_least_of [d] st = .err c_InvalidSize [("word", .str "some")] st := by
  rcases h with rfl | rfl | rfl <;> rfl
theorem greatest_0 (h : IsRow d []) : m_greatest_of [d] st = .err c_InvalidSize [("word", .str "some")] st := by
  rcases h with rfl | rfl | rfl <;> rfl
end
end Lk02

/-! P02i: least and greatest of a row, the whole row -/
namespace Lk02
open PySem FL
theorem ok_of (s : String) : PyData.strOk (Str.ofString s) = true := by
  rw [Str.ofString_eq_toList]
  unfold PyData.strOk
  simp only [List.all_toArray, List.all_map, List.all_eq_true, Function.comp, decide_eq_true_eq]
  intro c _
  have := c.valid
  have e : c.toNat = c.val.toNat := rfl
  rcases this with h | h
  · have h : c.val.toNat < 0xd800 := h
    omega
  · have h : c.val.toNat < 0x110000 := h.2
    omega
theorem ok_app {a b : Str} (h : PyData.strOk a = true) (h2 : PyData.strOk b = true) : PyData.strOk (a ++ b) = true := by
  show (a.cps ++ b.cps).all _ = true
  rw [Array.all_append]
  simp only [PyData.strOk] at h h2
  rw [h, h2]
  rfl
theorem tt2 (a b : Str) : tupleText [a, b] = (("(" : Str) ++ (a ++ (", " : Str) ++ b)) ++ (")" : Str) := rfl
theorem shown_ok (x : Rat) : PyData.strOk (fr x).py.shown = true := by
  have e : (fr x).py.shown = tupleText [Str.ofString (toString x.num), Str.ofString (toString (x.den : Int))] := by
    simp [fr, D.py, D.pys, PyData.shown, PyData.shownAll]
  rw [e, tt2]
  exact ok_app (ok_app (ok_of _) (ok_app (ok_app (ok_of _) (ok_of _)) (ok_of _))) (ok_of _)
section
variable {Γ : Ev} {st : DS} {i j : Nat} {x y z t : Rat} {n : Nat} {qs : List Rat} {d : D}
abbrev shT (q : Rat) : D := .str (fr q).py.shown
theorem plains_sh : ∀ qs : List Rat, D.plains (qs.map shT) = true
  | [] => rfl
  | q :: qs => by rw [List.map_cons, D.plains, plains_sh qs]; simp [D.plain]
theorem lay_sh : ∀ qs : List Rat, PyData.canLayAll0 (D.pys (qs.map shT)) = true
  | [] => rfl
  | q :: qs => by rw [List.map_cons, D.pys, PyData.canLayAll0, lay_sh qs, D.py, PyData.canLay0, shown_ok]; rfl
theorem depth_sh : ∀ qs : List Rat, PyData.depthAll (D.pys (qs.map shT)) = 0
  | [] => rfl
  | q :: qs => by rw [List.map_cons, D.pys, PyData.depthAll, depth_sh qs, D.py, PyData.depth]; rfl
theorem any_sh (t : Rat) : ∀ {qs : List Rat}, t ∈ qs → ((D.pys (qs.map shT)).any fun z => PyData.eqv z (.str (fr t).py.shown)) = true
  | q :: qs, h => by
    rw [List.map_cons, D.pys, List.any_cons]
    rcases List.mem_cons.mp h with rfl | h
    · rw [D.py, show PyData.eqv (.str (fr t).py.shown) (.str (fr t).py.shown) = true from eqD_same _]; rfl
    · rw [any_sh t h, Bool.or_true]
theorem notin_at (h : t ∈ qs) : gNotIn (shT t) (.lst (qs.map shT)) st = .ok (.bl false) st := by
  have s1 : SeqAt.shaped (PyData.list (D.pys (qs.map shT))) = true := by
    unfold SeqAt.shaped
    rw [PyData.canLay0, lay_sh, PyData.depth, depth_sh]; rfl
  have s2 : SeqAt.shaped (shT t).py = true := by
    unfold SeqAt.shaped
    rw [D.py, PyData.canLay0, shown_ok, PyData.depth]; rfl
  show (if ((shT t).plain && D.plains (qs.map shT) && SeqAt.shaped (shT t).py && SeqAt.shaped (.list (D.pys (qs.map shT)))) = true then Out.ok (D.bl (true != (D.pys (qs.map shT)).any fun z => PyData.eqv z (shT t).py)) st else .stuck : Out D) = _
  rw [s1, s2, plains_sh, if_pos (by simp [D.plain]), D.py, any_sh t h]
  rfl
theorem wid_frs (hq : ∀ q ∈ qs, Bd n q) (hn : n ≤ 1900) : Wid 2 (qs.length * 3803) (.lst (frs qs)) := .lst (v := 3802) (fun d hd => by
  obtain ⟨q, hq', rfl⟩ := List.mem_map.mp hd
  exact wid_fr (hq q hq') hn) (by rw [List.length_map]; exact Nat.le_refl _)
theorem wid_nil : Wid 1 0 (.lst []) := .lst (v := 0) (fun x hx => by cases hx) (by simp)
theorem eqD_nilL (xs : List D) : eqD (.lst xs) (.lst []) = xs.isEmpty := by
  cases xs with
  | nil => simp [eqD, D.py, D.pys, PyData.eqv, PyData.eqvAll]
  | cons x xs => simp [eqD, D.py, D.pys, PyData.eqv, PyData.eqvAll]
theorem eq_nilL (hq : ∀ q ∈ qs, Bd n q) (hn : n ≤ 1900) : gEq (.lst (frs qs)) (.lst []) st = .ok (.bl qs.isEmpty) st := by
  unfold gEq
  rw [if_pos ((wid_frs hq hn).eqOk wid_nil (by decide) (by decide)), eqD_nilL]
  cases qs <;> rfl
theorem ne_nilL (hq : ∀ q ∈ qs, Bd n q) (hn : n ≤ 1900) : gNe (.lst (frs qs)) (.lst []) st = .ok (.bl (!qs.isEmpty)) st := by
  unfold gNe
  rw [if_pos ((wid_frs hq hn).eqOk wid_nil (by decide) (by decide)), eqD_nilL]
  cases qs <;> rfl
theorem eqvs (qs : List Rat) : PyData.eqvAll (D.pys (frs qs)) (D.pys (frs qs)) = true := by
  induction qs with
  | nil => simp [D.pys, PyData.eqvAll]
  | cons q qs ih =>
    have e : PyData.eqv (fr q).py (fr q).py = true := by
      have := eqD_fr q q
      rw [decide_eq_true rfl] at this
      exact this
    rw [frs, List.map_cons, D.pys, PyData.eqvAll, e]
    exact ih
theorem eq_frs (hq : ∀ q ∈ qs, Bd n q) (hn : n ≤ 1900) : gEq (.lst (frs qs)) (.lst (frs qs)) st = .ok (.bl true) st := by
  unfold gEq
  rw [if_pos ((wid_frs hq hn).eqOk (wid_frs hq hn) (by decide) (by decide))]
  have : eqD (.lst (frs qs)) (.lst (frs qs)) = true := by
    unfold eqD
    rw [D.py, PyData.eqv]
    exact eqvs qs
  rw [this]
/-! ### what the try answers -/
def edgeV (lo : Bool) : List Rat → D
  | [] => .str "some"
  | x :: qs => fr (if lo then minQ (x :: qs) x else maxQ (x :: qs) x)
def wayI (lo : Bool) : Int := if lo then -1 else 1
theorem edge_at (lo : Bool) (h : IsRow d qs) (hq : ∀ q ∈ qs, Bd n q) (hn : n + n + 1 ≤ 8000) : m__law_edge [.int (wayI lo), d] st = .ok (edgeV lo qs) st := by
  refine fnM_ret rfl ?_
  have tt : mB (mOp gLt (mVar 0) (mC (.int 0))) (startE 3 [.int (wayI lo), d]) st = .ok lo st := mB_at (mOp_at (mVar_at (d := .int (wayI lo)) rfl) rfl (by cases lo <;> rfl))
  have ei : ∀ {o : Out D}, (if lo then mCall m_least_of (mCons (mVar 1) mNil) (startE 3 [.int (wayI lo), d]) else mCall m_greatest_of (mCons (mVar 1) mNil) (startE 3 [.int (wayI lo), d]) : M D) st = o → mIf (mB (mOp gLt (mVar 0) (mC (.int 0)))) (mCall m_least_of (mCons (mVar 1) mNil)) (mCall m_greatest_of (mCons (mVar 1) mNil)) (startE 3 [.int (wayI lo), d]) st = o := fun e => by
    unfold mIf
    rw [M.bind_at, tt]
    exact e
  cases qs with
  | cons x qs =>
    have e : mRet (mIf (mB (mOp gLt (mVar 0) (mC (.int 0)))) (mCall m_least_of (mCons (mVar 1) mNil)) (mCall m_greatest_of (mCons (mVar 1) mNil))) (startE 3 [.int (wayI lo), d]) st = .ok (.rt (edgeV lo (x :: qs))) st := mRet_at (ei (by
      cases lo with
      | true => exact mCall1 (mVar_at (d := d) rfl) (least_at h hq hn)
      | false => exact mCall1 (mVar_at (d := d) rfl) (greatest_at h hq hn)))
    unfold mb__law_edge mTryFld
    rw [e]
  | nil =>
    have e0 : (if lo then mCall m_least_of (mCons (mVar 1) mNil) (startE 3 [.int (wayI lo), d]) else mCall m_greatest_of (mCons (mVar 1) mNil) (startE 3 [.int (wayI lo), d]) : M D) st = .err c_InvalidSize [("word", .str "some")] st := by
      cases lo with
      | true =>
        show mCall _ _ _ st = _
        unfold mCall
        rw [M.bind_at, mCons_at (mVar_at (d := d) rfl) rfl]
        exact least_0 h
      | false =>
        show mCall _ _ _ st = _
        unfold mCall
        rw [M.bind_at, mCons_at (mVar_at (d := d) rfl) rfl]
        exact greatest_0 h
    have e : mRet (mIf (mB (mOp gLt (mVar 0) (mC (.int 0)))) (mCall m_least_of (mCons (mVar 1) mNil)) (mCall m_greatest_of (mCons (mVar 1) mNil))) (startE 3 [.int (wayI lo), d]) st = .ok (.xc c_InvalidSize [("word", .str "some")] (startE 3 [.int (wayI lo), d])) st := by
      show sE _ _ _ st = _
      unfold sE
      rw [ei e0]
    unfold mb__law_edge mTryFld
    rw [e]
    rfl
theorem str_same (u : Str) : gEq (.str u) (.str u) st = .ok (.bl true) st := by
  show (if eqOk (.str u) (.str u) = true then _ else _ : Out D) = _
  rw [eqD_same, if_pos (by simp [eqOk, twoStr])]
theorem er_loop {r : D} {w : Int} (hw : w.natAbs < 2 ^ 1) (bt : Bd n t) (hn : n + n + 10 ≤ 1900) : ∀ {qs : List Rat} {s : Option Sl}, (∀ q ∈ qs, Bd n q ∧ w * (q.num * t.den - t.num * q.den) ≤ 0) → ∃ s', loopS (mgName 3) (mIfS (mB (mOp gGt (mOp gMulW (mVar 2) (mOp gSub (mOp gMulW (mOp gIx (mVar 3) (mC (.int 0))) (mOp gIx (mVar 1) (mC (.int 1)))) (mOp gMulW (mOp gIx (mVar 1) (mC (.int 0))) (mOp gIx (mVar 3) (mC (.int 1)))))) (mC (.int 0)))) (mRet (mC (.bl false))) mNext) (frs qs) [some (.dat r), some (.dat (fr t)), some (.dat (.int w)), s] st = .ok (.nx [some (.dat r), some (.dat (fr t)), some (.dat (.int w)), s']) st
  | [], s, _ => ⟨s, rfl⟩
  | q :: qs, s, h => by
    obtain ⟨b, c⟩ := h q List.mem_cons_self
    obtain ⟨s', e⟩ := er_loop (r := r) hw bt hn (qs := qs) (s := some (.dat (fr q))) fun q' hq => h q' (List.mem_cons_of_mem _ hq)
    refine ⟨s', ?_⟩
    show Out.bind (mIfS _ _ _ [some (.dat r), some (.dat (fr t)), some (.dat (.int w)), some (.dat (fr q))] st) _ = _
    rw [tests_f (m2 := mNext) (o := .ok (.nx [some (.dat r), some (.dat (fr t)), some (.dat (.int w)), some (.dat (fr q))]) st) (mB_at (mOp_at (mOp_at (mVar_at (d := .int w) rfl) (mOp_at (tb_at rfl rfl b bt (by omega)) (tb_at rfl rfl bt b (by omega)) sub_int) (mulW hw (b.subT bt) (by omega))) rfl (gt_int.trans (by rw [decide_eq_false (by omega)])))) rfl]
    exact e
theorem er_at {w : Int} (hw : w.natAbs < 2 ^ 1) (bt : Bd n t) (ht : t ∈ qs) (hn : n + n + 10 ≤ 1900) (hl : qs.length ≤ 1000000) (h : ∀ q ∈ qs, Bd n q ∧ w * (q.num * t.den - t.num * q.den) ≤ 0) : m__law_edge_right [.lst (frs qs), fr t, .int w] st = .ok (.bl true) st := by
  have ne : qs.isEmpty = false := by cases qs with | nil => cases ht | cons _ _ => rfl
  obtain ⟨s', e⟩ := er_loop (st := st) (r := .lst (frs qs)) hw bt hn (qs := qs) (s := none) h
  refine fnM_ret rfl (mSeq_at (tests_f (mB_at (mOp_at (mVar_at (d := .lst (frs qs)) rfl) rfl ((eq_nilL (n := n) (fun q hq => (h q hq).1) (by omega)).trans (by rw [ne])))) rfl) ?_)
  refine mSeq_at (tests_f (mB_at (mOp_at (mCall1 (mVar_at (d := fr t) rfl) (gRepr_at (repr_fr bt (by omega)))) (mFrz_at (comp_enc qs fr shT (mSeqOf_at (mVar_at (d := .lst (frs qs)) rfl) rfl) hl fun q hq => ⟨_, rfl, mCall1 (mVar_at (d := fr q) rfl) (gRepr_at (repr_fr (h q hq).1 (by omega)))⟩)) (notin_at ht))) rfl) ?_
  exact mSeq_at (mFor_at (mSeqOf_at (mVar_at (d := .lst (frs qs)) rfl) rfl) e) (mRet_at rfl)
theorem er_0 {w : Int} : m__law_edge_right [.lst [], .str "some", .int w] st = .ok (.bl true) st := by
  refine fnM_ret rfl (mSeq_rt (tests_t (mB_at (mOp_at (mVar_at (d := .lst []) rfl) rfl ((eq_nilL (qs := []) (n := 0) (fun q hq => by cases hq) (by decide)).trans rfl))) (mRet_at (mOp_at (mVar_at (d := .str "some") rfl) rfl (str_same _)))))
end
end Lk02

/-! P02j: _law_row_right -/
namespace Lk02
open PySem FL
section
variable {Γ : Ev} {st : DS} {i j : Nat} {x y z t : Rat} {n : Nat} {qs : List Rat} {d : D}
theorem mOr_t {ma mb : EM} {Γ : Ev} {s0 s1 : DS} (h : ma Γ s0 = .ok (.bl true) s1) : mOr ma mb Γ s0 = .ok (.bl true) s1 := by
  show Out.bind _ _ = _
  rw [h]
  rfl
theorem mOr_f {ma mb : EM} {Γ : Ev} {s0 s1 : DS} {o : Out D} (h : ma Γ s0 = .ok (.bl false) s1) (h2 : mb Γ s1 = o) : mOr ma mb Γ s0 = o := by
  show Out.bind _ _ = _
  rw [h]
  exact h2
theorem cut_one {α : Type} (xs : List α) : cutA xs none (some 1) = xs.take 1 := by
  cases xs with
  | nil => rfl
  | cons x xs =>
    have h : HT.sIx (x :: xs).length 0 none = 0 ∧ HT.sIx (x :: xs).length (x :: xs).length (some 1) = 1 := by
      refine ⟨rfl, ?_⟩
      unfold HT.sIx
      simp
    unfold cutA
    rw [h.1, h.2]
    rfl
theorem first_row (h : IsRow d qs) (hv : Γ[1]? = some (some (.dat d))) : ∃ d', mSl (mVar 1) mNoP (mSomeP (mC (.int 1))) Γ st = .ok d' st ∧ IsRow d' (qs.take 1) := by
  have e : cutA (frs qs) none (some 1) = frs (qs.take 1) := by rw [cut_one, frs, frs, List.map_take]
  rcases h with rfl | rfl | rfl
  · exact ⟨.tup (frs (qs.take 1)), mSl_at (mVar_at hv) rfl rfl (by rw [← e]; rfl), .inl rfl⟩
  · exact ⟨.lst (frs (qs.take 1)), mSl_at (mVar_at hv) rfl rfl (by rw [← e]; rfl), .inr (.inl rfl)⟩
  · exact ⟨.lst (frs (qs.take 1)), mSl_at (mVar_at hv) rfl rfl (by rw [← e]; rfl), .inr (.inl rfl)⟩
theorem cross_le {w : Int} (lo : Bool) (q t : Rat) (h : if lo then t ≤ q else q ≤ t) : wayI lo * (q.num * t.den - t.num * q.den) ≤ 0 := by
  cases lo with
  | true =>
    have := (Rat.le_iff t q).mp h
    unfold wayI
    simp only [if_true]
    omega
  | false =>
    have := (Rat.le_iff q t).mp h
    unfold wayI
    simp only [Bool.false_eq_true, if_false]
    omega
theorem edge_spec (lo : Bool) (x : Rat) (qs : List Rat) : (if lo then minQ (x :: qs) x else maxQ (x :: qs) x) ∈ x :: qs ∧ ∀ q ∈ x :: qs, if lo then (if lo then minQ (x :: qs) x else maxQ (x :: qs) x) ≤ q else q ≤ (if lo then minQ (x :: qs) x else maxQ (x :: qs) x) := by
  cases lo with
  | true =>
    obtain ⟨h1, h2, h3⟩ := minQ_spec (x :: qs) x
    refine ⟨?_, h3⟩
    rcases h1 with h | h
    · show minQ (x :: qs) x ∈ _
      rw [h]; exact List.mem_cons_self
    · exact h
  | false =>
    obtain ⟨h1, h2, h3⟩ := maxQ_spec (x :: qs) x
    refine ⟨?_, h3⟩
    rcases h1 with h | h
    · show maxQ (x :: qs) x ∈ _
      rw [h]; exact List.mem_cons_self
    · exact h
theorem er_edge (lo : Bool) (hq : ∀ q ∈ qs, Bd n q) (hn : n + n + 10 ≤ 1900) (hl : qs.length ≤ 1000000) : m__law_edge_right [.lst (frs qs), edgeV lo qs, .int (wayI lo)] st = .ok (.bl true) st := by
  cases qs with
  | nil => exact er_0
  | cons x qs =>
    obtain ⟨h1, h2⟩ := edge_spec lo x qs
    exact er_at (t := if lo then minQ (x :: qs) x else maxQ (x :: qs) x) (by cases lo <;> decide) (hq _ h1) h1 hn hl fun q h => ⟨hq q h, cross_le (w := 0) lo q _ (h2 q h)⟩
theorem row_at (h : IsRow d qs) (hq : ∀ q ∈ qs, Bd n q) (hn : n + n + 10 ≤ 1900) (hL : 1 + qs.length * (n + 1) ≤ 1900) (hl : qs.length ≤ 1000000) : m__law_row_right [.lst (frs qs), d] st = .ok (.bl true) st := by
  obtain ⟨T, B, s', e, hB, hT, hb, ev⟩ := cross_loop (st := st) (r0 := .lst (frs qs)) (r1 := d) (s5 := none) (s6 := none) (qs := qs) (k := 1) (T := 0) (B := 1) (s := none) (by decide) (by decide) (by decide) hq (by omega)
  have ev : Rat.divInt T B = sumQ qs 0 := ev
  obtain ⟨tot, btot⟩ := total_at (st := st) h hq hL
  refine fnX_ret rfl (mSeq_at (Γ' := [some (.dat (.lst (frs qs))), some (.dat d), some (.dat (.int 0)), some (.dat (.int 1)), none, none, none]) (asg_at (mTup_at (mCons_at rfl (mCons_at rfl rfl)) (by decide)) rfl) (mSeq_at (mFor_at (mSeqOf_at (mVar_at (d := .lst (frs qs)) rfl) rfl) e) ?_))
  have v0 : ∀ {a b c e' f : Option Sl}, mVar 0 [some (.dat (.lst (frs qs))), some (.dat d), a, b, c, e', f] st = .ok (.lst (frs qs)) st := mVar_at rfl
  have v1 : ∀ {a b c e' f : Option Sl}, mVar 1 [some (.dat (.lst (frs qs))), some (.dat d), a, b, c, e', f] st = .ok d st := mVar_at rfl
  have em : qs.isEmpty = true ∨ ∃ x r, qs = x :: r := by cases qs with | nil => exact .inl rfl | cons x r => exact .inr ⟨x, r, rfl⟩
  refine mSeq_at (tests_f (s1 := st) (or_f (repr_ne (d := fr (sumQ qs 0)) (mCall1 v1 tot) (mCall2 (mVar_at rfl) (mVar_at rfl) (nxM_ok (by rw [← ev]; exact low_at hT hB hb (by omega)))) (repr_fr btot (by omega))) ?_) rfl) ?_
  · obtain ⟨d', e1, r1⟩ := first_row (st := st) (Γ := [some (.dat (.lst (frs qs))), some (.dat d), some (.dat (.int T)), some (.dat (.int B)), s', none, none]) h rfl
    have tot1 := (total_at (st := st) r1 (fun q hq' => hq q (List.mem_of_mem_take hq')) (Nat.le_trans (Nat.add_le_add_left (Nat.mul_le_mul_right _ (List.length_take_le' 1 qs)) 1) hL)).1
    refine neT_fr (x := sumQ (qs.take 1) 0) (mCall1 e1 tot1) ?_
    rcases em with em | ⟨x, r, rfl⟩
    · have em' : qs = [] := List.isEmpty_iff.mp em
      subst em'
      unfold mIf
      rw [M.bind_at, mB_at (mOp_at v0 rfl ((ne_nilL hq (by omega)).trans rfl))]
      rfl
    · unfold mIf
      rw [M.bind_at, mB_at (mOp_at v0 rfl ((ne_nilL hq (by omega)).trans rfl))]
      have e0 : sumQ ((x :: r).take 1) 0 = x := Rat.zero_add x
      rw [e0]
      exact mOp_at v0 rfl (gIx_lst (i := 0) rfl)
  have ee : mCons (mCall (fun ds => nxM (m__law_edge ds)) (mCons (mUn gNeg (mC (.int 1))) (mCons (mVar 1) mNil))) (mCons (mCall (fun ds => nxM (m__law_edge ds)) (mCons (mC (.int 1)) (mCons (mVar 1) mNil))) mNil) [some (.dat (.lst (frs qs))), some (.dat d), some (.dat (.int T)), some (.dat (.int B)), s', none, none] st = .ok [edgeV true qs, edgeV false qs] st :=
    mCons_at (mCall2 (a := .int (wayI true)) rfl v1 (nxM_ok (edge_at true h hq (by omega)))) (mCons_at (mCall2 (a := .int (wayI false)) rfl v1 (nxM_ok (edge_at false h hq (by omega)))) rfl)
  refine mSeq_at (st' := st) (Γ' := [some (.dat (.lst (frs qs))), some (.dat d), some (.dat (.int T)), some (.dat (.int B)), s', some (.dat (edgeV true qs)), some (.dat (edgeV false qs))]) ?_ ?_
  · show sE _ _ _ st = _
    rw [sE_ok ee]
    rfl
  refine mSeq_at (tests_f (or_f (not_at (b := true) (mB_at (mCall3 v0 (mVar_at (d := edgeV true qs) rfl) (c := .int (wayI true)) rfl (nxM_ok (er_edge true hq hn hl))))) (not_at (b := true) (mB_at (mCall3 v0 (mVar_at (d := edgeV false qs) rfl) (c := .int (wayI false)) rfl (nxM_ok (er_edge false hq hn hl)))))) rfl) ?_
  refine mRet_at ?_
  rcases em with em | ⟨x, r, rfl⟩
  · exact mOr_t (mOp_at v0 rfl ((eq_nilL hq (by omega)).trans (by rw [em])))
  · have same : ∀ q : Rat, gEq (fr q) (fr q) st = .ok (.bl true) st := fun q => by
      unfold gEq
      rw [if_pos (eqOk_fr q q), eqD_fr, decide_eq_true rfl]
    exact mOr_f (mOp_at v0 rfl ((eq_nilL hq (by omega)).trans rfl)) (mAnd_t (mOp_at (mCall1 v1 (least_at h hq (by omega))) (mVar_at (d := fr (minQ (x :: r) x)) rfl) (same _)) (mOp_at (mCall1 v1 (greatest_at h hq (by omega))) (mVar_at (d := fr (maxQ (x :: r) x)) rfl) (same _)))
end
end Lk02

/-! P02k: the deal, what is drawn -/
namespace Lk02
open PySem FL
section
abbrev srcB : SM := mAsg (mOp gMod (mCall gIntOf (mCons (mOp gAdd (mOp gAdd (mOp gMulW (mVar 2) (mC (.int 48271))) (mOp gMod (mVar 3) (mC (.int 2147483549)))) (mC (.int 41))) mNil)) (mC (.int 2147483647))) (mgName 2)
theorem source_run (ns : List Int) (hn : ns.length ≤ 63) (st : DS) : ∃ (cs : List Int) (b : Int), cs.length ≤ 63 ∧ m__law_source [.kl (ns.map D.int)] st = .ok (.lst [.lst (cs.map D.int), .int b]) st := by
  let cut := cutA ns none (some 63)
  let cells := cut.map absI
  have cl : cut.length ≤ 63 := Nat.le_trans (cutA_len _ _ _) hn
  have e1 : mFrz (mComp (mSeqOf (mSl (mVar 0) mNoP (mSomeP (mC (.int 63))))) (mgName 3) mYes (mCall gAbs (mCons (mCall gIntOf (mCons (mVar 3) mNil)) mNil)) [3]) (startE 4 [.kl (ns.map D.int)]) st = .ok (.lst (cells.map D.int)) st := by
    have e0 : mSeqOf (mSl (mVar 0) mNoP (mSomeP (mC (.int 63)))) (startE 4 [.kl (ns.map D.int)]) st = .ok (cut.map D.int) st := by
      show gSeq (.lst (cutA (ns.map D.int) none (some 63))) st = _
      rw [cutA_map]
      rfl
    have q := mFrz_at (comp_enc (vs := [3]) (g := mgName 3) (e := mCall gAbs (mCons (mCall gIntOf (mCons (mVar 3) mNil)) mNil)) cut D.int (fun i => .int (absI i)) e0 (by omega) fun u hu => ⟨_, rfl, rfl⟩)
    rw [q, List.map_map]
    rfl
  have lp : ∀ (L : List Int) (m : Int) (x : Option Sl), m.natAbs < 2 ^ 31 → ∃ m' x', loopS (mgName 3) srcB (L.map D.int) [some (.dat (.kl (ns.map D.int))), some (.dat (.lst (cells.map D.int))), some (.dat (.int m)), x] st = .ok (.nx [some (.dat (.kl (ns.map D.int))), some (.dat (.lst (cells.map D.int))), some (.dat (.int m')), x']) st := by
    intro L
    induction L with
    | nil => exact fun m x _ => ⟨m, x, rfl⟩
    | cons a L ih =>
      intro m x hm
      have h0 := Int.emod_nonneg (m * 48271 + a % 2147483549 + 41) (show (2147483647 : Int) ≠ 0 by decide)
      have h1 := Int.emod_lt_of_pos (m * 48271 + a % 2147483549 + 41) (show (0 : Int) < 2147483647 by decide)
      obtain ⟨m', x', h⟩ := ih ((m * 48271 + a % 2147483549 + 41) % 2147483647) (some (.dat (.int a))) (by omega)
      refine ⟨m', x', ?_⟩
      have hb : srcB [some (.dat (.kl (ns.map D.int))), some (.dat (.lst (cells.map D.int))), some (.dat (.int m)), some (.dat (.int a))] st
          = .ok (.nx [some (.dat (.kl (ns.map D.int))), some (.dat (.lst (cells.map D.int))), some (.dat (.int ((m * 48271 + a % 2147483549 + 41) % 2147483647))), some (.dat (.int a))]) st :=
        asg_at (mOp_at (mCall1 (mOp_at (mOp_at (mOp_at (a := .int m) rfl rfl (mulW hm (show (48271 : Int).natAbs < 2 ^ 16 by decide) (by decide))) (mOp_at (a := .int a) rfl rfl (gMod_at (by decide))) rfl) rfl rfl) rfl) rfl (gMod_at (by decide))) rfl
      rw [List.map_cons, loopS]
      show (srcB [some (.dat (.kl (ns.map D.int))), some (.dat (.lst (cells.map D.int))), some (.dat (.int m)), some (.dat (.int a))] st).bind _ = _
      rw [hb]
      exact h
  obtain ⟨m', x', hl⟩ := lp cells 20811 none (by decide)
  refine ⟨(cells.filter fun i => decide ((10 : Int) ^ (18 : Nat) ≤ i)).reverse, m', ?_, ?_⟩
  · rw [List.length_reverse]
    refine Nat.le_trans (List.length_filter_le _ _) ?_
    show (cut.map absI).length ≤ 63
    rw [List.length_map]
    exact cl
  · refine fnM_ret rfl (mSeq_at (Γ' := [some (.dat (.kl (ns.map D.int))), some (.dat (.lst (cells.map D.int))), none, none]) (asg_at e1 rfl) (mSeq_at (Γ' := [some (.dat (.kl (ns.map D.int))), some (.dat (.lst (cells.map D.int))), some (.dat (.int 20811)), none]) (asg_at rfl rfl)
      (mSeq_at (mFor_at (mSeqOf_at (mVar_at (d := .lst (cells.map D.int)) rfl) rfl) hl) (mRet_at (mLst_at (mCons_at (mUn_at (mFrz_at (comp_encF cells D.int (fun i => decide ((10 : Int) ^ (18 : Nat) ≤ i)) D.int (mSeqOf_at (mVar_at (d := .lst (cells.map D.int)) rfl) rfl) ?_ fun u hu => ⟨_, rfl, ?_, fun _ => rfl⟩)) ?_) (mCons_at rfl rfl)) ?_)))))
    · show (cut.map absI).length ≤ _
      rw [List.length_map]
      omega
    · exact mB_at (mOp_at (a := .int u) (b := .int (10 ^ 18)) rfl rfl rfl)
    · show Out.ok (D.lst (List.reverse _)) st = _
      rw [← List.map_reverse]
    · simp
end
section
variable {Γ : Ev} {i j : Nat} {k n : Nat} {g : Int}
theorem w_drawB {c : Int} {m : EM} {b : Int} (h0 : Γ[i]? = some (some (.dat .deal))) (h1 : ∀ st, m Γ st = .ok (.int b) st) (hb : 0 < b) (hl : b < 2 ^ 8000) : W (mCall (fun ds => nxM (gAnyD c ds)) (mCons (mVar i) (mCons m mNil)) Γ) fun d => ∃ v, d = .int v ∧ 0 ≤ v ∧ v < b :=
  w_call2 (w_var (P := (· = .deal)) h0 rfl) (W.of (P := (· = .int b)) h1 rfl) fun x y e1 e2 => by subst e1 e2; exact (w_any hb hl).nx
theorem w_par {ma : Ev → M (List D)} {P Q : D → Prop} {R : Fl → Prop} (h : W (ma Γ) fun r => ∃ a b, r = [a, b] ∧ P a ∧ Q b) (h2 : ∀ a b, P a → Q b → R (.nx ((Γ.set i (some (.dat a))).set j (some (.dat b))))) : W (mPar i j ma Γ) R := w_sE h fun r ⟨a, b, e, p, q⟩ => by
  subst e
  exact .of (fun st => rfl) (h2 a b p q)
theorem w_par3 {l : Nat} {ma : Ev → M (List D)} {P : D → Prop} {R : Fl → Prop} (h : W (ma Γ) fun r => ∃ a b c, r = [a, b, c] ∧ P a ∧ P b ∧ P c) (h2 : ∀ a b c, P a → P b → P c → R (.nx (((Γ.set i (some (.dat a))).set j (some (.dat b))).set l (some (.dat c))))) : W (mPar3 i j l ma Γ) R := w_sE h fun r ⟨a, b, c, e, p, q, s⟩ => by
  subst e
  exact .of (fun st => rfl) (h2 a b c p q s)
/-- all have P, n things -/
def Alls (P : D → Prop) (n : Nat) (r : List D) : Prop := (∀ d ∈ r, P d) ∧ r.length = n
theorem w_nilP {P : D → Prop} : W (mNil Γ) (Alls P 0) := w_nil ⟨fun d h => (by cases h), rfl⟩
theorem Alls.cons {P : D → Prop} {a : D} {r : List D} (p : P a) (q : Alls P n r) : Alls P (n + 1) (a :: r) := by
  refine ⟨fun d h => ?_, by rw [List.length_cons, q.2]⟩
  rcases List.mem_cons.mp h with rfl | h
  · exact p
  · exact q.1 d h
theorem w_consP {ma : EM} {mr : Ev → M (List D)} {P : D → Prop} (h1 : W (ma Γ) P) (h2 : W (mr Γ) (Alls P n)) : W (mCons ma mr Γ) (Alls P (n + 1)) := w_cons h1 h2 fun a r p q => q.cons p
/-- one of some -/
theorem w_ofP {mr : Ev → M (List D)} {P : D → Prop} (h0 : Γ[i]? = some (some (.dat .deal))) (h : W (mr Γ) (Alls P n)) (hn : 0 < n) (hn2 : n ≤ 1000000) : W (mCall (fun ds => nxM (m__law_of ds)) (mCons (mVar i) (mCons (mLst mr) mNil)) Γ) P :=
  w_call2 (w_var (P := (· = .deal)) h0 rfl) (w_lst (R := fun d => ∃ r, d = .lst r ∧ Alls P n r) h fun r p => ⟨by rw [p.2]; exact hn2, r, rfl, p⟩) fun a b e ⟨r, e2, p⟩ => by
    subst e e2
    have ne : r ≠ [] := fun z => by
      have := p.2
      rw [z] at this
      simp at this
      omega
    exact (W.mono (w_of (c := 41) ne (by rw [p.2]; exact hn2)) fun d hd => p.1 d hd).nx
def InB (k : Nat) (d : D) : Prop := ∃ v : Int, d = .int v ∧ 0 ≤ v ∧ v < 2 ^ k
theorem inB {v : Int} (h : 0 ≤ v ∧ v < 2 ^ k) : InB k (.int v) := ⟨v, rfl, h⟩
theorem pk (h : 20 ≤ k) : (1048576 : Int) ≤ 2 ^ k := by
  have e : (2 : Int) ^ 20 = 1048576 := by decide
  have := p2 h
  have h2 : ((2 ^ 20 : Nat) : Int) ≤ ((2 ^ k : Nat) : Int) := by exact_mod_cast this
  rw [Int.natCast_pow, Int.natCast_pow] at h2
  simpa using h2
theorem size_w (hg : 0 < g) (hk : g ≤ 2 ^ k) (h20 : 20 ≤ k) (hb : g < 2 ^ 8000) : W (m__law_size [.deal, .int g]) fun d => ∃ v : Int, d = .int v ∧ -(2 ^ k) < v ∧ v < 2 ^ k := by
  have p := pk h20
  have dr : ∀ {m : EM} {b : Int}, (∀ st, m (startE 3 [.deal, .int g]) st = .ok (.int b) st) → 0 < b → b < 2 ^ 8000 → b ≤ 2 ^ k → W (mCall (fun ds => nxM (m__law_any ds)) (mCons (mVar 0) (mCons m mNil)) (startE 3 [.deal, .int g])) (InB k) := fun h1 h2 h3 h4 => (w_drawB (c := 41) rfl h1 h2 h3).mono fun d ⟨v, e, h, h'⟩ => ⟨v, e, h, by omega⟩
  refine w_fn rfl (w_seq (P := fun Γ' => ∃ v : Int, Γ' = [some (.dat .deal), some (.dat (.int g)), some (.dat (.int v))] ∧ 0 ≤ v ∧ v < 2 ^ k) (w_asg (P := InB k) (w_ofP (n := 9) rfl ?_ (by decide) (by decide)) fun d ⟨v, e, h⟩ => ⟨_, rfl, _, rfl, v, by rw [e]; rfl, h⟩) fun Γ' ⟨v, e, h0, h1⟩ => ?_)
  · refine w_consP (w_c (inB ⟨by omega, by omega⟩)) (w_consP (w_c (inB ⟨by omega, by omega⟩)) (w_consP (w_c (inB ⟨by omega, by omega⟩)) (w_consP (w_c (inB ⟨by omega, by omega⟩)) (w_consP (w_c (inB ⟨by omega, by omega⟩)) (w_consP (dr (b := 13) (fun st => rfl) (by decide) (by decide +kernel) (by omega)) (w_consP (dr (b := 100) (fun st => rfl) (by decide) (by decide +kernel) (by omega)) (w_consP (dr (b := 10 ^ 6) (fun st => rfl) (by decide) (by decide +kernel) (by omega)) (w_consP ?_ w_nilP))))))))
    refine w_op (P := (· = .int (g - 1))) (Q := fun d => ∃ v : Int, d = .int v ∧ 0 ≤ v ∧ v < g) (.of (fun st => rfl) rfl) (w_drawB (c := 41) rfl (fun st => rfl) hg hb) fun a b ea ⟨v, eb, h0, h1⟩ => ?_
    subst ea eb
    exact .of (fun st => rfl) (inB ⟨by omega, by omega⟩)
  · subst e
    refine w_ret (P := fun d => ∃ v : Int, d = .int v ∧ -(2 ^ k) < v ∧ v < 2 ^ k) (w_if (P := fun _ => True) (w_b (P := fun d => ∃ b, d = .bl b) (w_op (P := fun d => ∃ v : Int, d = .int v ∧ 0 ≤ v ∧ v < 2) (Q := (· = .int 0)) (w_drawB (c := 41) rfl (fun st => rfl) (by decide) (by decide +kernel)) (w_c rfl) fun a b ⟨v, ea, _⟩ eb => ?_) fun d ⟨b, e⟩ => ⟨b, e, trivial⟩) (fun _ => ?_) fun _ => ?_) fun d h => ⟨d, rfl, h⟩
    · subst ea eb
      exact .of (fun st => eq_int) ⟨_, rfl⟩
    · exact .of (fun st => rfl) ⟨0 - v, rfl, by omega, by omega⟩
    · exact .of (fun st => rfl) ⟨v, rfl, by omega, by omega⟩
def FrB (n : Nat) (d : D) : Prop := ∃ q, d = fr q ∧ Bd n q
theorem fraction_w (hg : 1 < g) (hk : g ≤ 2 ^ k) (h20 : 20 ≤ k) (h1000 : k ≤ 1000) (hb : g < 2 ^ 8000) : W (m__law_fraction [.deal, .int g]) (FrB (k + 1)) := by
  have p := pk h20
  have ek : (2 : Int) ^ (k + 1) = 2 ^ k * 2 := by rw [Int.pow_succ]
  have nk : ∀ {i : Int}, -(2 ^ (k + 1)) < i → i < 2 ^ (k + 1) → i.natAbs < 2 ^ (k + 1) := fun {i} h1 h2 => by
    have e : (((2 ^ (k + 1) : Nat)) : Int) = 2 ^ (k + 1) := by rw [Int.natCast_pow]; rfl
    omega
  refine w_fn rfl (w_seq (P := fun Γ' => ∃ t b : Int, Γ' = [some (.dat .deal), some (.dat (.int g)), some (.dat (.int t)), some (.dat (.int b))] ∧ -(2 ^ k) < t ∧ t < 2 ^ k ∧ 0 < b ∧ b < 2 ^ (k + 1)) (w_par (P := fun d => ∃ v : Int, d = .int v ∧ -(2 ^ k) < v ∧ v < 2 ^ k) (Q := fun d => ∃ v : Int, d = .int v ∧ 0 < v ∧ v < 2 ^ (k + 1)) ?_ fun a b ⟨t, ea, h1⟩ ⟨v, eb, h2⟩ => ⟨_, rfl, t, v, by rw [ea, eb]; rfl, h1.1, h1.2, h2⟩) fun Γ' ⟨t, b, e, h1, h2, h3, h4⟩ => ?_)
  · refine w_cons (Q := fun r => ∃ b, r = [b] ∧ ∃ v : Int, b = .int v ∧ 0 < v ∧ v < 2 ^ (k + 1)) (w_call2 (w_var (P := (· = .deal)) rfl rfl) (w_var (P := (· = .int g)) rfl rfl) fun a b ea eb => by subst ea eb; exact (size_w (by omega) hk h20 hb).nx) (w_cons (P := fun b => ∃ v : Int, b = .int v ∧ 0 < v ∧ v < 2 ^ (k + 1)) (Q := (· = [])) (w_op (P := (· = .int 1)) (Q := fun b => ∃ v : Int, b = .int v ∧ 0 ≤ v ∧ v < 2 ^ k) (w_c rfl) (w_call1 (P := fun d => ∃ v : Int, d = .int v ∧ -(2 ^ k) < v ∧ v < 2 ^ k) ?_ fun a ⟨v, e, h1, h2⟩ => ?_) fun a b ea ⟨v, eb, h1, h2⟩ => ?_) (w_nil rfl) fun a r pa er => ⟨a, by rw [er], pa⟩) fun a r pa ⟨b, er, hb⟩ => ⟨a, b, by rw [er], pa, hb⟩
    · exact w_call2 (w_var (P := (· = .deal)) rfl rfl) (W.of (P := (· = .int (g - 1))) (fun st => rfl) rfl) fun a b ea eb => by subst ea eb; exact (size_w (by omega) (by omega) h20 (by omega)).nx
    · subst e
      exact .of (a := .int (if v < 0 then -v else v)) (fun st => rfl) ⟨_, rfl, by split <;> omega, by split <;> omega⟩
    · subst ea eb
      exact .of (fun st => rfl) ⟨1 + v, rfl, by omega, by omega⟩
  · subst e
    refine w_ret (P := FrB (k + 1)) (w_call2 (P := fun d => ∃ v : Int, d = .int v ∧ -(2 ^ (k + 1)) < v ∧ v < 2 ^ (k + 1)) (Q := (· = .int b)) (w_ofP (n := 7) rfl ?_ (by decide) (by decide)) (w_var rfl rfl) fun x y ⟨v, ex, l1, l2⟩ ey => ?_) fun d h => ⟨d, rfl, h⟩
    · have vt : W (mVar 2 [some (.dat .deal), some (.dat (.int g)), some (.dat (.int t)), some (.dat (.int b))]) fun d => ∃ v : Int, d = .int v ∧ -(2 ^ (k + 1)) < v ∧ v < 2 ^ (k + 1) := w_var rfl ⟨t, rfl, by omega, by omega⟩
      exact w_consP vt (w_consP vt (w_consP vt (w_consP (w_var rfl ⟨b, rfl, by omega, by omega⟩) (w_consP (.of (a := .int (b - 1)) (fun st => rfl) ⟨_, rfl, by omega, by omega⟩) (w_consP (.of (a := .int (0 - b)) (fun st => rfl) ⟨_, rfl, by omega, by omega⟩) (w_consP (w_c ⟨0, rfl, by omega, by omega⟩) w_nilP))))))
    · subst ex ey
      exact (W.of (fun st => low_at (nk l1 l2) h3 (nk (by omega) h4) (by omega)) ⟨_, rfl, bd_div (by omega) (nk l1 l2) (nk (by omega) h4)⟩).nx
end
end Lk02

/-! P02l: the law's turns -/
namespace Lk02
open PySem FL
section
variable {Γ : Ev} {i j : Nat} {k n : Nat} {g : Int}
/-- a number by which fractions are drawn -/
structure Gt (k : Nat) (g : Int) : Prop where
  lo : 1 < g
  hi : g ≤ 2 ^ k
  k20 : 20 ≤ k
  k1000 : k ≤ 1000
  big : g < 2 ^ 8000
  small : g < 10 ^ 60 → k ≤ 50
def IsGt (d : D) : Prop := ∃ k g, d = .int g ∧ Gt k g ∧ k ≤ 200
theorem gt15 : Gt 50 (10 ^ 15) := ⟨by decide, by decide, by decide, by decide, by decide +kernel, fun _ => by decide⟩
theorem gt60 : Gt 200 (10 ^ 60) := ⟨by decide, by decide +kernel, by decide, by decide, by decide +kernel, fun h => absurd h (by decide)⟩
theorem w_frac {m : EM} (h0 : Γ[i]? = some (some (.dat .deal))) (h1 : ∀ st, m Γ st = .ok (.int g) st) (h : Gt k g) : W (mCall (fun ds => nxM (m__law_fraction ds)) (mCons (mVar i) (mCons m mNil)) Γ) (FrB (k + 1)) :=
  w_call2 (w_var (P := (· = .deal)) h0 rfl) (W.of (P := (· = .int g)) h1 rfl) fun a b ea eb => by
    subst ea eb
    exact (fraction_w h.lo h.hi h.k20 h.k1000 h.big).nx
/-- the names between two turns -/
def Inv (Γ : Ev) : Prop := ∃ s2 s3 s4 s5 s6 : Option Sl, Γ = [none, some (.dat .deal), s2, s3, s4, s5, s6, none, none]
abbrev turnB : SM := (mSeq (mAsg (mCall (fun ds => nxM (m__law_of ds)) (mCons (mVar 1) (mCons (mLst (mCons (mOp gPow (mC (.int 10)) (mC (.int 15))) (mCons (mOp gPow (mC (.int 10)) (mC (.int 15))) (mCons (mOp gPow (mC (.int 10)) (mC (.int 60))) mNil)))) mNil))) (mgName 3))
  (mSeq (mPar3 4 5 6 (mCons (mCall (fun ds => nxM (m__law_fraction ds)) (mCons (mVar 1) (mCons (mVar 3) mNil))) (mCons (mCall (fun ds => nxM (m__law_fraction ds)) (mCons (mVar 1) (mCons (mVar 3) mNil))) (mCons (mCall (fun ds => nxM (m__law_fraction ds)) (mCons (mVar 1) (mCons (mVar 3) mNil))) mNil))))
  (mSeq (mAsg (mCall (fun ds => nxM (m__law_of ds)) (mCons (mVar 1) (mCons (mLst (mCons (mVar 5) (mCons (mVar 5) (mCons (mVar 5) (mCons (mVar 4) (mCons (mTup (mCons (mOp gSub (mC (.int 0)) (mOp gIx (mVar 4) (mC (.int 0)))) (mCons (mOp gIx (mVar 4) (mC (.int 1))) mNil))) (mCons (mTup (mCons (mC (.int 0)) (mCons (mC (.int 1)) mNil))) mNil))))))) mNil))) (mgName 5))
  (mSeq (mIfS (mOrT (mNotT (mB (mCall (fun ds => nxM (m__law_pair_right ds)) (mCons (mVar 4) (mCons (mVar 5) mNil))))) (mOrT (mNotT (mB (mCall (fun ds => nxM (m__law_pair_right ds)) (mCons (mVar 5) (mCons (mVar 6) mNil))))) (mNotT (mB (mCall (fun ds => nxM (m__law_one_right ds)) (mCons (mVar 4) mNil)))))) (mRet (mC (.bl false))) mNext)
  (mIfS (mAndT (mB (mOp gLt (mVar 3) (mOp gPow (mC (.int 10)) (mC (.int 60))))) (mNotT (mB (mCall (fun ds => nxM (m__law_undone ds)) (mCons (mVar 4) (mCons (mVar 5) (mCons (mVar 6) mNil))))))) (mRet (mC (.bl false))) mNext)))))
theorem zeroB : Bd n 0 ∨ n = 0 := by
  cases n with
  | zero => exact .inr rfl
  | succ n => exact .inl (bd0.mono (by omega))
theorem turn_w {s2 s3 s4 s5 s6 : Option Sl} : W (turnB [none, some (.dat .deal), s2, s3, s4, s5, s6, none, none]) fun f => ∃ Γ2, (f = .nx Γ2 ∨ f = .ct Γ2) ∧ Inv Γ2 := by
  refine w_seq (P := fun Γ' => ∃ k g, Gt k g ∧ k ≤ 200 ∧ Γ' = [none, some (.dat .deal), s2, some (.dat (.int g)), s4, s5, s6, none, none]) (w_asg (P := IsGt) (w_ofP (n := 3) rfl (w_consP (.of (fun st => rfl) ⟨50, 10 ^ 15, rfl, gt15, by decide⟩) (w_consP (.of (fun st => rfl) ⟨50, 10 ^ 15, rfl, gt15, by decide⟩) (w_consP (.of (fun st => rfl) ⟨200, 10 ^ 60, rfl, gt60, by decide⟩) w_nilP))) (by decide) (by decide)) fun d ⟨k, g, e, h, h2⟩ => ⟨_, rfl, _, rfl, k, g, h, h2, by rw [e]; rfl⟩) fun Γ' ⟨k, g, hg, hk, e⟩ => ?_
  subst e
  refine w_seq (P := fun Γ' => ∃ x y z, Bd (k + 1) x ∧ Bd (k + 1) y ∧ Bd (k + 1) z ∧ Γ' = [none, some (.dat .deal), s2, some (.dat (.int g)), some (.dat (fr x)), some (.dat (fr y)), some (.dat (fr z)), none, none]) (w_par3 (P := FrB (k + 1)) ?_ fun a b c ⟨x, ex, hx⟩ ⟨y, ey, hy⟩ ⟨z, ez, hz⟩ => ⟨_, rfl, x, y, z, hx, hy, hz, by rw [ex, ey, ez]; rfl⟩) fun Γ' ⟨x, y, z, hx, hy, hz, e⟩ => ?_
  · have f : W (mCall (fun ds => nxM (m__law_fraction ds)) (mCons (mVar 1) (mCons (mVar 3) mNil)) [none, some (.dat .deal), s2, some (.dat (.int g)), s4, s5, s6, none, none]) (FrB (k + 1)) := w_frac rfl (fun st => rfl) hg
    exact w_cons (Q := fun r => ∃ b c, r = [b, c] ∧ FrB (k + 1) b ∧ FrB (k + 1) c) f (w_cons (Q := fun r => ∃ c, r = [c] ∧ FrB (k + 1) c) f (w_cons (Q := (· = [])) f (w_nil rfl) fun a r p e => ⟨a, by rw [e], p⟩) fun a r p ⟨c, e, q⟩ => ⟨a, c, by rw [e], p, q⟩) fun a r p ⟨b, c, e, q, s⟩ => ⟨a, b, c, by rw [e], p, q, s⟩
  subst e
  refine w_seq (P := fun Γ' => ∃ y, Bd (k + 1) y ∧ Γ' = [none, some (.dat .deal), s2, some (.dat (.int g)), some (.dat (fr x)), some (.dat (fr y)), some (.dat (fr z)), none, none]) (w_asg (P := FrB (k + 1)) (w_ofP (n := 6) rfl ?_ (by decide) (by decide)) fun d ⟨y, e, h⟩ => ⟨_, rfl, _, rfl, y, h, by rw [e]; rfl⟩) fun Γ' ⟨y, hy, e⟩ => ?_
  · have fy : W (mVar 5 [none, some (.dat .deal), s2, some (.dat (.int g)), some (.dat (fr x)), some (.dat (fr y)), some (.dat (fr z)), none, none]) (FrB (k + 1)) := w_var rfl ⟨y, rfl, hy⟩
    refine w_consP fy (w_consP fy (w_consP fy (w_consP (w_var rfl ⟨x, rfl, hx⟩) (w_consP (.of (a := fr (-x)) (fun st => ?_) ⟨-x, rfl, hx.neg⟩) (w_consP (.of (a := fr 0) (fun st => rfl) ⟨0, rfl, bd0.mono (by omega)⟩) w_nilP)))))
    have en : fr (-x) = .tup [.int (-x.num), .int x.den] := by unfold fr; rw [Rat.neg_num, Rat.neg_den]
    rw [en]
    refine mTup_at (mCons_at (mOp_at rfl (top_at rfl) ?_) (mCons_at (bot_at rfl) rfl)) (by simp)
    show Out.ok (D.int (0 - x.num)) st = _
    rw [Int.zero_sub]
  subst e
  refine w_seq (P := (· = [none, some (.dat .deal), s2, some (.dat (.int g)), some (.dat (fr x)), some (.dat (fr y)), some (.dat (fr z)), none, none])) (.of (fun st => tests_f (or_f (not_at (b := true) (mB_at (mCall2 (mVar_at (d := fr x) rfl) (mVar_at (d := fr y) rfl) (nxM_ok (pair_at hx hy (by omega)))))) (or_f (not_at (b := true) (mB_at (mCall2 (mVar_at (d := fr y) rfl) (mVar_at (d := fr z) rfl) (nxM_ok (pair_at hy hz (by omega)))))) (not_at (b := true) (mB_at (mCall1 (mVar_at (d := fr x) rfl) (nxM_ok (one_at hx (by omega)))))))) rfl) ⟨_, rfl, rfl⟩) fun Γ' e => ?_
  subst e
  refine .of (a := .nx [none, some (.dat .deal), s2, some (.dat (.int g)), some (.dat (fr x)), some (.dat (fr y)), some (.dat (fr z)), none, none]) (fun st => tests_f (s1 := st) ?_ rfl) ⟨_, .inl rfl, s2, _, _, _, _, rfl⟩
  have lt : mB (mOp gLt (mVar 3) (mOp gPow (mC (.int 10)) (mC (.int 60)))) [none, some (.dat .deal), s2, some (.dat (.int g)), some (.dat (fr x)), some (.dat (fr y)), some (.dat (fr z)), none, none] st = .ok (decide (g < 10 ^ 60)) st := mB_at (mOp_at (mVar_at (d := .int g) rfl) (b := .int (10 ^ 60)) rfl lt_int)
  by_cases h : g < 10 ^ 60
  · rw [decide_eq_true h] at lt
    have := hg.small h
    exact andT_t lt (not_at (b := true) (mB_at (mCall3 (mVar_at (d := fr x) rfl) (mVar_at (d := fr y) rfl) (mVar_at (d := fr z) rfl) (nxM_ok (undone_at hx hy hz (by omega))))))
  · rw [decide_eq_false h] at lt
    exact andT_f lt
end
end Lk02

/-! P02m: the law's row, the whole law -/
namespace Lk02
open PySem FL
section
variable {Γ : Ev} {i j : Nat} {k n : Nat} {g : Int}
theorem gt3 : Gt 50 (10 ^ 3) := ⟨by decide, by decide, by decide, by decide, by decide +kernel, fun _ => by decide⟩
theorem gt9 : Gt 50 (10 ^ 9) := ⟨by decide, by decide, by decide, by decide, by decide +kernel, fun _ => by decide⟩
/-- a number for the row's fractions -/
structure Gr (g : Int) : Prop where
  lo : 1 < g
  hi : g ≤ 2 ^ 67
theorem Gr.frac {m : EM} (h : Gr g) (h0 : Γ[i]? = some (some (.dat .deal))) (h1 : ∀ st, m Γ st = .ok (.int g) st) : W (mCall (fun ds => nxM (m__law_fraction ds)) (mCons (mVar i) (mCons m mNil)) Γ) (FrB 68) :=
  w_call2 (w_var (P := (· = .deal)) h0 rfl) (W.of (P := (· = .int g)) h1 rfl) fun a b ea eb => by
    subst ea eb
    exact (fraction_w (k := 67) h.lo h.hi (by decide) (by decide) (Int.lt_of_le_of_lt h.hi (by decide +kernel))).nx
abbrev B68 (qs : List Rat) : Prop := ∀ q ∈ qs, Bd 68 q
theorem noBor_fr (q : Rat) : noBor (fr q) = true := by simp [fr, noBor, noBors]
theorem noBors_frs : ∀ qs : List Rat, noBors (frs qs) = true
  | [] => by simp [frs, noBors]
  | q :: qs => by rw [frs, List.map_cons, noBors, noBor_fr]; exact noBors_frs qs
theorem eq_nilB {qs : List Rat} {st : DS} (hq : B68 qs) : gNe (.bor (frs qs)) (.lst []) st = .ok (.bl (!qs.isEmpty)) st := by
  have w : Wid 2 (qs.length * 3803) (.bor (frs qs)) := .bor (v := 3802) (fun d hd => by
    obtain ⟨q, hq', rfl⟩ := List.mem_map.mp hd
    exact wid_fr (hq q hq') (by decide)) (by rw [List.length_map]; exact Nat.le_refl _)
  unfold gNe
  rw [if_pos (w.eqOk wid_nil (by decide) (by decide))]
  cases qs with
  | nil => simp [eqD, D.py, D.pys, PyData.eqv, PyData.eqvAll]
  | cons x xs => simp [eqD, D.py, D.pys, PyData.eqv, PyData.eqvAll]
/-- the names while the row is made -/
abbrev env (g : Int) (s2 s4 s5 s6 s7 s8 : Option Sl) : Ev := [none, some (.dat .deal), s2, some (.dat (.int g)), s4, s5, s6, s7, s8]
theorem half_fr : fr (Rat.divInt 1 2) = .tup [.int 1, .int 2] := rfl
theorem half_bd : Bd 68 (Rat.divInt 1 2) := ⟨by decide, by decide⟩
theorem ins_w {s2 s4 s5 s6 : Option Sl} {qs : List Rat} (hq : B68 qs) (hl : qs.length ≤ 1000) : W (mIns 7 (mBor 7 (mCall (fun ds => nxM (m__law_any ds)) (mCons (mVar 1) (mCons (mOp gAdd (mCall gLen (mCons (mVar 7) mNil)) (mC (.int 1))) mNil)))) (mBor 7 (mIf (mB (mOp gNe (mVar 7) (mLst mNil))) (mOp gIx (mVar 7) (mC (.int 0))) (mTup (mCons (mC (.int 1)) (mCons (mC (.int 2)) mNil))))) (env g s2 s4 s5 s6 (some (.own (frs qs))) none)) fun f => ∃ qs', f = .nx (env g s2 s4 s5 s6 (some (.own (frs qs'))) none) ∧ B68 qs' ∧ qs'.length = qs.length + 1 := by
  have e0 : gOwn 7 (env g s2 s4 s5 s6 (some (.own (frs qs))) none) = some (frs qs) := rfl
  have fl : (frs qs).length = qs.length := by simp [frs]
  unfold mIns
  rw [e0]
  refine w_sE (w_bor e0 (P := fun d => ∃ v : Int, d = .int v ∧ 0 ≤ v ∧ v < (qs.length : Int) + 1) (R := fun d => ∃ v : Int, d = .int v ∧ 0 ≤ v ∧ v < (qs.length : Int) + 1) (w_drawB (c := 41) rfl (fun st => ?_) (by omega) (Int.lt_of_le_of_lt (show (qs.length : Int) + 1 ≤ 1001 by omega) (by decide +kernel))) fun d ⟨v, e, h⟩ => ⟨by rw [e]; simp [noBor], v, e, h⟩) fun a ⟨v, ea, h0, h1⟩ => ?_
  · refine mOp_at (a := .int (qs.length : Nat)) (mCall1 (mVar_at rfl) ?_) rfl rfl
    show Out.ok (D.int ((frs qs).length : Nat)) st = _
    rw [fl]
  · subst ea
    refine w_sE (w_bor e0 (P := FrB 68) (R := FrB 68) ?_ fun d ⟨q, e, h⟩ => ⟨by rw [e]; exact noBor_fr q, q, e, h⟩) fun d ⟨q, e, hb⟩ => ?_
    · cases qs with
      | nil =>
        refine .of (a := fr (Rat.divInt 1 2)) (fun st => ?_) ⟨_, rfl, half_bd⟩
        unfold mIf
        rw [M.bind_at, mB_at (mOp_at (mVar_at (d := .bor (frs [])) rfl) rfl ((eq_nilB hq).trans rfl))]
        rfl
      | cons x r =>
        refine .of (a := fr x) (fun st => ?_) ⟨x, rfl, hq x List.mem_cons_self⟩
        unfold mIf
        rw [M.bind_at, mB_at (mOp_at (mVar_at (d := .bor (frs (x :: r))) rfl) rfl ((eq_nilB hq).trans rfl))]
        exact mOp_at (mVar_at (d := .bor (frs (x :: r))) rfl) rfl (gIx_bor (i := 0) rfl)
    · subst e
      have c : decide ((frs qs).length < sizeLine ∧ 0 ≤ v ∧ v < 2 ^ 63) = true := decide_eq_true ⟨by rw [fl]; unfold sizeLine; omega, h0, by omega⟩
      dsimp only
      rw [if_pos c]
      refine .of (fun st => rfl) ⟨qs.take v.toNat ++ [q] ++ qs.drop v.toNat, ?_, fun q' hq' => ?_, ?_⟩
      · have e : insD (frs qs) v (fr q) = frs (qs.take v.toNat ++ [q] ++ qs.drop v.toNat) := by
          unfold insD frs
          rw [List.map_append, List.map_append, List.map_take, List.map_drop]
          rfl
        rw [e]
        rfl
      · rcases List.mem_append.mp hq' with h | h
        · rcases List.mem_append.mp h with h | h
          · exact hq _ (List.mem_of_mem_take h)
          · rw [List.mem_singleton.mp h]; exact hb
        · exact hq _ (List.mem_of_mem_drop h)
      · rw [List.length_append, List.length_append, List.length_take, List.length_drop, List.length_singleton]
        omega
theorem any_w {s2 s4 s5 s6 s7 s8 : Option Sl} {b : Int} (hb : 0 < b) (hl : b ≤ 100) : W (mCall (fun ds => nxM (m__law_any ds)) (mCons (mVar 1) (mCons (mC (.int b)) mNil)) (env g s2 s4 s5 s6 s7 s8)) fun d => ∃ v : Nat, d = .int (v : Nat) ∧ (v : Int) < b :=
  (w_drawB (c := 41) rfl (fun st => rfl) hb (Int.lt_of_le_of_lt hl (by decide +kernel))).mono fun d ⟨v, e, h0, h1⟩ => ⟨v.toNat, by rw [e, Int.toNat_of_nonneg h0], by omega⟩
theorem rng_w {s2 s4 s5 s6 s7 s8 : Option Sl} {b : Int} (hb : 0 < b) (hl : b ≤ 100) : W (mSrc gRange1 (mCons (mCall (fun ds => nxM (m__law_any ds)) (mCons (mVar 1) (mCons (mC (.int b)) mNil))) mNil) (env g s2 s4 s5 s6 s7 s8)) fun xs => ∃ v : Nat, (v : Int) < b ∧ xs = (List.range v).map fun i => D.int ((i : Nat) : Int) :=
  w_src (P := fun r => ∃ v : Nat, r = [.int (v : Nat)] ∧ (v : Int) < b) (w_cons (Q := (· = [])) (any_w hb hl) (w_nil rfl) fun a r ⟨v, e, h⟩ er => ⟨v, by rw [e, er], h⟩) fun r ⟨v, e, h⟩ => by
    subst e
    exact .of (fun st => range1_at (by omega)) ⟨v, h, rfl⟩
abbrev tailB : SM := (mSeq (mAsg (mCall (fun ds => nxM (m__law_of ds)) (mCons (mVar 1) (mCons (mLst (mCons (mOp gPow (mC (.int 10)) (mC (.int 3))) (mCons (mOp gPow (mC (.int 10)) (mC (.int 9))) (mCons (mOp gPow (mC (.int 10)) (mC (.int 20))) mNil)))) mNil))) (mgName 3))
  (mSeq (mSetO 7 (mComp (mSrc gRange1 (mCons (mCall (fun ds => nxM (m__law_any ds)) (mCons (mVar 1) (mCons (mC (.int 9)) mNil))) mNil)) (mgName 2) mYes (mCall (fun ds => nxM (m__law_fraction ds)) (mCons (mVar 1) (mCons (mVar 3) mNil))) [2]))
  (mSeq (mFor (mSrc gRange1 (mCons (mCall (fun ds => nxM (m__law_any ds)) (mCons (mVar 1) (mCons (mC (.int 4)) mNil))) mNil)) (mgName 2) (mIns 7 (mBor 7 (mCall (fun ds => nxM (m__law_any ds)) (mCons (mVar 1) (mCons (mOp gAdd (mCall gLen (mCons (mVar 7) mNil)) (mC (.int 1))) mNil)))) (mBor 7 (mIf (mB (mOp gNe (mVar 7) (mLst mNil))) (mOp gIx (mVar 7) (mC (.int 0))) (mTup (mCons (mC (.int 1)) (mCons (mC (.int 2)) mNil)))))))
  (mSeq (mAsg (mBor 7 (mIf (mB (mOp gEq (mCall (fun ds => nxM (m__law_any ds)) (mCons (mVar 1) (mCons (mC (.int 2)) mNil))) (mC (.int 0)))) (mCall gTuple (mCons (mVar 7) mNil)) (mFrz (mCallO gListOf (mCons (mVar 7) mNil))))) (mgName 8))
  (mSeq (mFrzS 7 (mFor (mSeqOf (mVar 7)) (mgName 4) (mIfS (mNotT (mB (mCall (fun ds => nxM (m__law_one_right ds)) (mCons (mVar 4) mNil)))) (mRet (mC (.bl false))) mNext)))
  (mRet (mBor 7 (mAnd (mCall (fun ds => nxM (m__law_row_right ds)) (mCons (mVar 7) (mCons (mVar 8) mNil))) (mOp gEq (mFrz (mCallO gListOf (mCons (mVar 8) mNil))) (mVar 7))))))))))
/-- the last part: nothing is drawn -/
theorem last_at {st : DS} {s2 s5 s6 : Option Sl} {d : D} {qs : List Rat} (hr : d = .tup (frs qs) ∨ d = .lst (frs qs)) (hq : B68 qs) (hl : qs.length ≤ 20) : ∀ s4 : Option Sl, mSeq (mFrzS 7 (mFor (mSeqOf (mVar 7)) (mgName 4) (mIfS (mNotT (mB (mCall (fun ds => nxM (m__law_one_right ds)) (mCons (mVar 4) mNil)))) (mRet (mC (.bl false))) mNext)))
  (mRet (mBor 7 (mAnd (mCall (fun ds => nxM (m__law_row_right ds)) (mCons (mVar 7) (mCons (mVar 8) mNil))) (mOp gEq (mFrz (mCallO gListOf (mCons (mVar 8) mNil))) (mVar 7))))) (env g s2 s4 s5 s6 (some (.own (frs qs))) (some (.dat d))) st = .ok (.rt (.bl true)) st := by
  intro s4
  have row : IsRow d qs := hr.imp id .inl
  have lp : ∀ (rs : List Rat) (s4 : Option Sl), B68 rs → ∃ s4', loopS (mgName 4) (mIfS (mNotT (mB (mCall (fun ds => nxM (m__law_one_right ds)) (mCons (mVar 4) mNil)))) (mRet (mC (.bl false))) mNext) (frs rs) (env g s2 s4 s5 s6 (some (.dat (.lst (frs qs)))) (some (.dat d))) st = .ok (.nx (env g s2 s4' s5 s6 (some (.dat (.lst (frs qs)))) (some (.dat d)))) st := by
    intro rs
    induction rs with
    | nil => exact fun s4 _ => ⟨s4, rfl⟩
    | cons q rs ih =>
      intro s4 hb
      obtain ⟨s4', e⟩ := ih (some (.dat (fr q))) fun q' h => hb q' (List.mem_cons_of_mem _ h)
      refine ⟨s4', ?_⟩
      show Out.bind (mIfS _ _ _ (env g s2 (some (.dat (fr q))) s5 s6 (some (.dat (.lst (frs qs)))) (some (.dat d))) st) _ = _
      rw [tests_f (m2 := mNext) (o := .ok (.nx (env g s2 (some (.dat (fr q))) s5 s6 (some (.dat (.lst (frs qs)))) (some (.dat d)))) st) (not_at (b := true) (mB_at (mCall1 (mVar_at (d := fr q) rfl) (nxM_ok (one_at (hb q List.mem_cons_self) (by decide)))))) rfl]
      exact e
  obtain ⟨s4', e⟩ := lp qs s4 hq
  refine mSeq_at (st' := st) (Γ' := env g s2 s4' s5 s6 (some (.dat (.lst (frs qs)))) (some (.dat d))) ?_ (mRet_at ?_)
  · show mFor _ _ _ (env g s2 s4 s5 s6 (some (.dat (.lst (frs qs)))) (some (.dat d))) st = _
    exact mFor_at (mSeqOf_at (mVar_at (d := .lst (frs qs)) rfl) rfl) e
  · show mAnd _ _ (env g s2 s4' s5 s6 (some (.dat (.lst (frs qs)))) (some (.dat d))) st = _
    refine mAnd_t (mCall2 (mVar_at (d := .lst (frs qs)) rfl) (mVar_at (d := d) rfl) (nxM_ok (row_at row hq (by decide) (by omega) (by omega)))) (mOp_at (mFrz_at (mCallO_at (r := [d]) (mCons_at (mVar_at rfl) rfl) (ys := frs qs) (s2 := st) ?_)) (mVar_at (d := .lst (frs qs)) rfl) (eq_frs hq (by decide)))
    rcases hr with rfl | rfl <;> rfl
theorem tail_w {s2 s3 s4 s5 s6 : Option Sl} : W (tailB [none, some (.dat .deal), s2, s3, s4, s5, s6, none, none]) (· = .rt (.bl true)) := by
  refine w_seq (P := fun Γ' => ∃ g, Gr g ∧ Γ' = env g s2 s4 s5 s6 none none) (w_asg (P := fun d => ∃ g, d = .int g ∧ Gr g) (w_ofP (n := 3) rfl (w_consP (.of (fun st => rfl) ⟨10 ^ 3, rfl, by decide, by decide⟩) (w_consP (.of (fun st => rfl) ⟨10 ^ 9, rfl, by decide, by decide⟩) (w_consP (.of (fun st => rfl) ⟨10 ^ 20, rfl, by decide, by decide +kernel⟩) w_nilP))) (by decide) (by decide)) fun d ⟨g, e, h⟩ => ⟨_, rfl, _, rfl, g, h, by rw [e]; rfl⟩) fun Γ' ⟨g, hg, e⟩ => ?_
  subst e
  refine w_seq (P := fun Γ' => ∃ qs, B68 qs ∧ qs.length ≤ 8 ∧ Γ' = env g s2 s4 s5 s6 (some (.own (frs qs))) none) (w_setO (P := fun ys => ∃ qs, B68 qs ∧ qs.length ≤ 8 ∧ ys = frs qs) (w_comp (P := fun xs => ∃ v : Nat, (v : Int) < 9 ∧ xs = (List.range v).map fun i => D.int ((i : Nat) : Int)) (fun _ d => FrB 68 d) (rng_w (by decide) (by decide)) (fun xs ⟨v, hv, e⟩ => by rw [e, List.length_map, List.length_range]; omega) (fun xs _ d _ => ⟨env g (some (.dat d)) s4 s5 s6 none none, rfl, hg.frac rfl fun st => rfl⟩) fun xs ys ⟨v, hv, e⟩ h => ?_) fun ys ⟨qs, h1, h2, e⟩ => ⟨_, rfl, qs, h1, h2, by rw [e]; rfl⟩) fun Γ' ⟨qs, hq, hl, e⟩ => ?_
  · obtain ⟨as, e1, e2, e3⟩ := h.enc (S := fun q => Bd 68 q) fr fun x y ⟨q, e, b⟩ => ⟨q, e, b⟩
    refine ⟨as, e2, ?_, e1⟩
    rw [e3, e, List.length_map, List.length_range]
    omega
  subst e
  refine w_seq (P := fun Γ' => ∃ s2 qs, B68 qs ∧ qs.length ≤ 11 ∧ Γ' = env g s2 s4 s5 s6 (some (.own (frs qs))) none) ?_ fun Γ' ⟨s2, qs, hq, hl, e⟩ => ?_
  · refine w_sE (rng_w (by decide) (by decide)) fun xs ⟨v, hv, e⟩ => ?_
    subst e
    refine (w_loopR (n := v) (fun j Γ => ∃ s2 qs, B68 qs ∧ qs.length ≤ 8 + j ∧ Γ = env g s2 s4 s5 s6 (some (.own (frs qs))) none) ⟨s2, qs, hq, by omega, rfl⟩ fun j Γ hj ⟨s2, qs, hq, hl, e⟩ => ?_).mono fun f ⟨Γ', e, s2, qs, h1, h2, h3⟩ => ⟨Γ', e, s2, qs, h1, by omega, h3⟩
    subst e
    exact ⟨env g (some (.dat (.int ((j : Nat) : Int)))) s4 s5 s6 (some (.own (frs qs))) none, rfl, (ins_w hq (by omega)).mono fun f ⟨qs', e, h1, h2⟩ => ⟨_, .inl e, _, qs', h1, by omega, rfl⟩⟩
  subst e
  refine w_seq (P := fun Γ' => ∃ d, (d = .tup (frs qs) ∨ d = .lst (frs qs)) ∧ Γ' = env g s2 s4 s5 s6 (some (.own (frs qs))) (some (.dat d))) (w_asg (P := fun d => d = .tup (frs qs) ∨ d = .lst (frs qs)) (w_bor (xs := frs qs) rfl (P := fun d => d = .tup (frs qs) ∨ d = .lst (frs qs)) (w_if (P := fun _ => True) (w_b (P := fun d => ∃ b, d = .bl b) (w_op (P := fun d => ∃ v : Nat, d = .int (v : Nat) ∧ (v : Int) < 2) (Q := (· = .int 0)) (any_w (by decide) (by decide)) (w_c rfl) fun a b ⟨v, ea, _⟩ eb => ?_) fun d ⟨b, e⟩ => ⟨b, e, trivial⟩) (fun _ => .of (fun st => mCall1 (mVar_at (d := .bor (frs qs)) rfl) rfl) (.inl rfl)) fun _ => .of (fun st => mFrz_at (mCallO_at (mCons_at (mVar_at (d := .bor (frs qs)) rfl) rfl) rfl)) (.inr rfl)) fun d h => ⟨?_, h⟩) fun d h => ⟨_, rfl, _, rfl, d, h, rfl⟩) fun Γ' ⟨d, hd, e⟩ => ?_
  · subst ea eb
    exact .of (fun st => eq_int) ⟨_, rfl⟩
  · rcases h with rfl | rfl
    · rw [noBor]; exact noBors_frs qs
    · rw [noBor]; exact noBors_frs qs
  subst e
  exact .of (fun st => last_at hd hq (by omega) s4) rfl
theorem law_w : W (mb_law ((List.replicate 9 none).set 1 (some (.dat .deal)))) (· = .rt (.bl true)) := by
  refine w_seq (P := Inv) ?_ fun Γ' ⟨s2, s3, s4, s5, s6, e⟩ => by subst e; exact tail_w
  refine w_for (P := fun _ => True) (fun _ Γ => Inv Γ) (w_src (P := (· = [.int 3])) (w_cons (P := (· = .int 3)) (Q := (· = [])) (w_c rfl) (w_nil rfl) fun a r ea er => by rw [ea, er]) fun r e => ?_) (fun xs _ => ⟨none, none, none, none, none, rfl⟩) fun d r Γ ⟨s2, s3, s4, s5, s6, e⟩ => ?_
  · subst e
    exact .of (fun st => range1_at (n := 3) (by decide)) trivial
  · subst e
    exact ⟨_, rfl, turn_w⟩
theorem plain : Plain := fun ns hn => by
  obtain ⟨cs, b, hc, e⟩ := source_run ns hn ([], 0)
  obtain ⟨f, st1, e2, rfl⟩ := law_w (cs, b)
  exact ⟨cs, b, _, st1, hc, e, e2⟩
end
end Lk02

open PySem PySem.W PyProof.Rows
set_option maxHeartbeats 0 in
theorem PySem.Challenge.cw_servedall_k02_whole_sums_quotients_and_o_holds : PySem.Challenge.rw_servedall_k02_whole_sums_quotients_and_o.Holds := by
  w_on; o_law; k_head; (case hw => w_witness2)
  k_fill
  refine' FL.walk_law (l := PySem.Challenge.rw_servedall_k02_whole_sums_quotients_and_o) (n := 63) (j := 6) (x := "_law_script") [] rfl (by decide) rfl ⟨rfl, by decide, by decide⟩ (fun w h Y => PySem.W.kIn_of Y) ?T ?F
  case F =>
    intro w mg fa h KX G hmg
    obtain ⟨t, e1⟩ : ∃ t : Lk02.Txt PySem.Challenge.rw_servedall_k02_whole_sums_quotients_and_o.prog _ mg, t.f_law = fa := by
      refine' Lk02.all_mk KX G hmg ?a0 ?l0 ?c0 ?k0 ?a1 ?l1 ?c1 ?k1 ?a2 ?l2 ?c2 ?k2 ?a3 ?l3 ?c3 ?k3 ?a4 ?l4 ?c4 ?k4 ?a5 ?l5 ?c5 ?k5 ?a6 ?l6 ?c6 ?k6 ?a7 ?l7 ?c7 ?k7 ?a8 ?l8 ?c8 ?k8 ?a9 ?l9 ?c9 ?k9 ?a10 ?l10 ?c10 ?k10 ?a11 ?l11 ?c11 ?k11 ?a12 ?l12 ?c12 ?k12 ?a13 ?l13 ?c13 ?k13 ?a14 ?l14 ?c14 ?k14 ?a15 ?l15 ?c15 ?k15 ?a16 ?l16 ?c16 ?k16 ?a17 ?l17 ?c17 ?k17 ?a18 ?l18 ?c18 ?k18 ?a19 ?l19 ?c19 ?k19 ?a20 ?l20 ?c20 ?k20 ?a21 ?l21 ?c21 ?k21 ?a22 ?l22 ?c22 ?k22 ?a23 ?l23 ?c23 ?k23 ?a24 ?l24 ?c24 ?k24 ?a25 ?l25 ?c25 ?k25 ?a26 ?l26 ?c26 ?k26 ?a27 ?l27 ?c27 ?k27 ?a28 ?l28 ?c28 ?k28 ?a29 ?l29 ?c29 ?k29 ?z0 ?z1 ?z2 ?z3 ?z4 ?z5 ?z6 ?z7 ?z8 ?g_InvalidFraction ?g_ServeError ?x_InvalidSize ?y_InvalidSize ?yk_InvalidSize_InvalidFraction ?yk_InvalidSize_ServeError ?yg_gcd ?yt_ZERO ?xm_InvalidSize_InvalidSize
      (case a0 => k_is)
      (case l0 => k_is)
      (case c0 => k_is)
      (case k0 => k_is)
      (case a1 => k_is)
      (case l1 => k_is)
      (case c1 => k_is)
      (case k1 => k_is)
      (case a2 => k_is)
      (case l2 => k_is)
      (case c2 => k_is)
      (case k2 => k_is)
      (case a3 => k_is)
      (case l3 => k_is)
      (case c3 => k_is)
      (case k3 => k_is)
      (case a4 => k_is)
      (case l4 => k_is)
      (case c4 => k_is)
      (case k4 => k_is)
      (case a5 => k_is)
      (case l5 => k_is)
      (case c5 => k_is)
      (case k5 => k_is)
      (case a6 => k_is)
      (case l6 => k_is)
      (case c6 => k_is)
      (case k6 => k_is)
      (case a7 => k_is)
      (case l7 => k_is)
      (case c7 => k_is)
      (case k7 => k_is)
      (case a8 => k_is)
      (case l8 => k_is)
      (case c8 => k_is)
      (case k8 => k_is)
      (case a9 => k_is)
      (case l9 => k_is)
      (case c9 => k_is)
      (case k9 => k_is)
      (case a10 => k_is)
      (case l10 => k_is)
      (case c10 => k_is)
      (case k10 => k_is)
      (case a11 => k_is)
      (case l11 => k_is)
      (case c11 => k_is)
      (case k11 => k_is)
      (case a12 => k_is)
      (case l12 => k_is)
      (case c12 => k_is)
      (case k12 => k_is)
      (case a13 => k_is)
      (case l13 => k_is)
      (case c13 => k_is)
      (case k13 => k_is)
      (case a14 => k_is)
      (case l14 => k_is)
      (case c14 => k_is)
      (case k14 => k_is)
      (case a15 => k_is)
      (case l15 => k_is)
      (case c15 => k_is)
      (case k15 => k_is)
      (case a16 => k_is)
      (case l16 => k_is)
      (case c16 => k_is)
      (case k16 => k_is)
      (case a17 => k_is)
      (case l17 => k_is)
      (case c17 => k_is)
      (case k17 => k_is)
      (case a18 => k_is)
      (case l18 => k_is)
      (case c18 => k_is)
      (case k18 => k_is)
      (case a19 => k_is)
      (case l19 => k_is)
      (case c19 => k_is)
      (case k19 => k_is)
      (case a20 => k_is)
      (case l20 => k_is)
      (case c20 => k_is)
      (case k20 => k_is)
      (case a21 => k_is)
      (case l21 => k_is)
      (case c21 => k_is)
      (case k21 => k_is)
      (case a22 => k_is)
      (case l22 => k_is)
      (case c22 => k_is)
      (case k22 => k_is)
      (case a23 => k_is)
      (case l23 => k_is)
      (case c23 => k_is)
      (case k23 => k_is)
      (case a24 => k_is)
      (case l24 => k_is)
      (case c24 => k_is)
      (case k24 => k_is)
      (case a25 => k_is)
      (case l25 => k_is)
      (case c25 => k_is)
      (case k25 => k_is)
      (case a26 => k_is)
      (case l26 => k_is)
      (case c26 => k_is)
      (case k26 => k_is)
      (case a27 => k_is)
      (case l27 => k_is)
      (case c27 => k_is)
      (case k27 => k_is)
      (case a28 => k_is)
      (case l28 => k_is)
      (case c28 => k_is)
      (case k28 => k_is)
      (case a29 => k_is)
      (case l29 => k_is)
      (case c29 => k_is)
      (case k29 => k_is)
      (case z0 => k_is)
      (case z1 => k_is)
      (case z2 => k_is)
      (case z3 => k_is)
      (case z4 => k_is)
      (case z5 => k_is)
      (case z6 => k_is)
      (case z7 => k_is)
      (case z8 => k_is)
      (case g_InvalidFraction => k_is)
      (case g_ServeError => k_is)
      case x_InvalidSize =>
        refine' FL.xtxt_mk KX G ?aC ?xL ?bT ?ov ?sa ?ga ?gg ?nb ?kC ?eC ?eE ?ow ?tC ?hC ?up ?opq ?z ?top ?kw ?kc ?ks ?nf ?ne ?a1 ?t1 ?l1 ?c1 ?lc ?ld ?hvs ?hfile ?hev ?hbind
        (case aC => first | k_is | ks_is | rfl | kernel_rfl)
        (case xL => first | k_is | ks_is | rfl | kernel_rfl)
        (case ov => first | k_is | ks_is | rfl | kernel_rfl)
        (case sa => first | k_is | ks_is | rfl | kernel_rfl)
        (case ga => first | k_is | ks_is | rfl | kernel_rfl)
        (case gg => first | k_is | ks_is | rfl | kernel_rfl)
        (case nb => first | k_is | ks_is | rfl | kernel_rfl)
        (case kC => first | k_is | ks_is | rfl | kernel_rfl)
        (case eC => first | k_is | ks_is | rfl | kernel_rfl)
        (case eE => first | k_is | ks_is | rfl | kernel_rfl)
        (case ow => first | k_is | ks_is | rfl | kernel_rfl)
        (case tC => first | k_is | ks_is | rfl | kernel_rfl)
        (case hC => first | k_is | ks_is | rfl | kernel_rfl)
        (case up => first | k_is | ks_is | rfl | kernel_rfl)
        (case opq => first | k_is | ks_is | rfl | kernel_rfl)
        (case z => first | k_is | ks_is | rfl | kernel_rfl)
        (case a1 => first | k_is | ks_is | rfl | kernel_rfl)
        (case t1 => first | k_is | ks_is | rfl | kernel_rfl)
        (case l1 => first | k_is | ks_is | rfl | kernel_rfl)
        (case c1 => first | k_is | ks_is | rfl | kernel_rfl)
        (case lc => first | k_is | ks_is | rfl | kernel_rfl)
        (case ld => first | k_is | ks_is | rfl | kernel_rfl)
        (case bT => first | rfl | decide +kernel); (case top => first | rfl | decide +kernel); (case kw => rfl); (case kc => rfl); (case ks => rfl); (case nf => decide); (case ne => decide); (case hvs => rfl); (case hfile => first | rfl | decide +kernel)
        (case hev => exact fun env => ⟨_, rfl⟩)
        (case hbind => exact fun s a b => .of_eq rfl)
      (case y_InvalidSize => exact ⟨by k_is, by k_is, by first | rfl | k_is, by k_is⟩)
      (case yk_InvalidSize_InvalidFraction => first | rfl | k_is | kernel_rfl)
      (case yk_InvalidSize_ServeError => first | rfl | k_is | kernel_rfl)
      (case yg_gcd => k_is)
      case yt_ZERO =>
        refine' FL.ktup_mk KX G (a := 98) ?kt1 ?kt2 ?kt3 ?kt4 ?kt5 ?kt6
        (case kt1 => k_is); (case kt2 => first | k_is | rfl); (case kt3 => rfl); (case kt4 => rfl); (case kt5 => decide); (case kt6 => exact .cons ⟨_, rfl⟩ (.cons ⟨_, rfl⟩ (.nil)))
      (case xm_InvalidSize_InvalidSize => exact FL.exm_own (by k_is) (by k_is) (by k_is) (by first | rfl | k_is))
    subst e1
    refine ⟨t.d_law, t.b_law, fun base _ _ hT => Lk02.ok_law Lk02.plain t⟩
  case T =>
    intro w h Y t ht; cases ht

