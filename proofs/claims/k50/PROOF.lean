import PyProof.Rows.All
import Wide.All
import OpenK.AllK
import Wide.FinOn
import HandS.ForMost
import HandS.Walk
import HandS.TupAny
import HandS.TupMul
import HandS.Deep
import HandS.IsInst
import HandS.Conv
import HandS.Zip
import HandS.Style
import HandS.More
import HandS.Defaults
import HandS.SortKw
import KE.GoesEnum
import KE.KMinKey
import PyProof.WalksMore
import PyProof.SumWalkG
import PyProof.ReprRoads
import PyProof.WalkInts
import PyProof.SeqI3
import PySem.Challenge.RW_holdfills_k50_whole_maps_of_books
import HandS.Ends
import HandS.HeadEnd
import KE.KStateDown
import Lean
import HandS.Base
import HandS.Call
import HandS.Words
import HandS.WordsExc
import HandS.Head0
import HandS.Head1
import HandS.Head2
import HandS.HeadHook1
import HandS.HeadHook2
set_option Elab.async false
set_option linter.all false
set_option maxRecDepth 100000
set_option maxHeartbeats 4000000
/-! values as trees, the heap hidden: F is the frozen part of the heap, in which trees are read -/
namespace K50
open PySem PySem.Spec PyProof.Rows L2

mutual
inductive Fz (F : Hp) : V → PyData → Prop
  | non : Fz F .non .none
  | bl (b : Bool) : Fz F (.bl b) (.bool b)
  | int (i : Int) : Fz F (.int i) (.int i)
  | str (x : Str) : Fz F (.str x) (.str x)
  | lst {a : Addr} {vs : List V} {ds : List PyData} : F a = some (.lst vs) → vs.length ≤ sizeLine → FzAll F vs ds → Fz F (.ref a) (.list ds)
  | tup {a : Addr} {vs : List V} {ds : List PyData} : F a = some (.tup vs) → vs.length ≤ sizeLine → FzAll F vs ds → Fz F (.ref a) (.tuple ds)
inductive FzAll (F : Hp) : List V → List PyData → Prop
  | nil : FzAll F [] []
  | cons {v : V} {vs : List V} {d : PyData} {ds : List PyData} : Fz F v d → FzAll F vs ds → FzAll F (v :: vs) (d :: ds)
end

mutual
theorem Fz.mono {F F' : Hp} (e : Same F F') : ∀ (d : PyData) (v : V), Fz F v d → Fz F' v d
  | .none, _, h => by cases h; exact .non
  | .bool b, _, h => by cases h; exact .bl b
  | .int i, _, h => by cases h; exact .int i
  | .str x, _, h => by cases h; exact .str x
  | .list ds, _, h => by
    cases h with
    | lst ha hl hd => exact .lst (e _ _ ha) hl (FzAll.mono e ds _ hd)
  | .tuple ds, _, h => by
    cases h with
    | tup ha hl hd => exact .tup (e _ _ ha) hl (FzAll.mono e ds _ hd)
  | .dict _, _, h => by cases h
theorem FzAll.mono {F F' : Hp} (e : Same F F') : ∀ (ds : List PyData) (vs : List V), FzAll F vs ds → FzAll F' vs ds
  | [], _, h => by cases h; exact .nil
  | d :: ds, _, h => by
    cases h with
    | cons h1 h2 => exact .cons (Fz.mono e d _ h1) (FzAll.mono e ds _ h2)
end
mutual
theorem Fz.dp {K : PySem.W.Frag} {F H : Hp} (e : Same F H) : ∀ (d : PyData) (v : V), Fz F v d → Dp K H v d
  | .none, _, h => by cases h; exact .non
  | .bool b, _, h => by cases h; exact .bl b
  | .int i, _, h => by cases h; exact .int i
  | .str x, _, h => by cases h; exact .str x
  | .list ds, _, h => by
    cases h with
    | lst ha hl hd => exact .lst (SqL.of (e _ _ ha)) (FzAll.dp e ds _ hd)
  | .tuple ds, _, h => by
    cases h with
    | tup ha hl hd => exact .tup (SqT.of (e _ _ ha)) (FzAll.dp e ds _ hd)
  | .dict _, _, h => by cases h
theorem FzAll.dp {K : PySem.W.Frag} {F H : Hp} (e : Same F H) : ∀ (ds : List PyData) (vs : List V), FzAll F vs ds → DpAll K H vs ds
  | [], _, h => by cases h; exact .nil
  | d :: ds, _, h => by
    cases h with
    | cons h1 h2 => exact .cons (Fz.dp e d _ h1) (FzAll.dp e ds _ h2)
end
section
variable {F : Hp}
theorem FzAll.length : ∀ {vs : List V} {ds : List PyData}, FzAll F vs ds → vs.length = ds.length
  | _, _, .nil => rfl
  | _, _, .cons _ h => congrArg (· + 1) (FzAll.length h)
theorem FzAll.get : ∀ {vs : List V} {ds : List PyData} {i : Nat} {d : PyData}, FzAll F vs ds → ds[i]? = some d → ∃ v, vs[i]? = some v ∧ Fz F v d
  | _, _, _, _, .nil, e => by simp at e
  | _, _, 0, _, .cons r _, e => by simp at e; subst e; exact ⟨_, rfl, r⟩
  | _, _, i + 1, d, .cons _ t, e => by
    obtain ⟨v, h1, h2⟩ := FzAll.get (i := i) t (by simpa using e)
    exact ⟨v, by simpa using h1, h2⟩
theorem FzAll.app : ∀ {vs ws : List V} {ds es : List PyData}, FzAll F vs ds → FzAll F ws es → FzAll F (vs ++ ws) (ds ++ es)
  | _, _, _, _, .nil, h => h
  | _, _, _, _, .cons r t, h => .cons r (t.app h)
theorem FzAll.tk : ∀ {vs : List V} {ds : List PyData} (n : Nat), FzAll F vs ds → FzAll F (vs.take n) (ds.take n)
  | _, _, 0, _ => .nil
  | _, _, _ + 1, .nil => .nil
  | _, _, n + 1, .cons r t => .cons r (t.tk n)
theorem FzAll.dr : ∀ {vs : List V} {ds : List PyData} (n : Nat), FzAll F vs ds → FzAll F (vs.drop n) (ds.drop n)
  | _, _, 0, h => h
  | _, _, _ + 1, .nil => .nil
  | _, _, n + 1, .cons _ t => t.dr n
theorem FzAll.rep : ∀ {vs : List V} {ds : List PyData} (n : Nat), FzAll F vs ds → FzAll F (List.replicate n vs).flatten (List.replicate n ds).flatten
  | _, _, 0, _ => .nil
  | _, _, n + 1, h => h.app (h.rep n)
theorem FzAll.ints : ∀ (f : Nat → Int) (l : List Nat), FzAll F (l.map fun i => V.int (f i)) (l.map fun i => PyData.int (f i))
  | _, [] => .nil
  | f, a :: l => .cons (.int _) (FzAll.ints f l)
end

/-! ### what a slot holds -/
inductive EV where
  | d (x : PyData)
  | own (xs : List PyData)
  | st
abbrev Sl := List (Option EV)
/-- the law's state: its address, the addresses that it owns, what holds of it and of the number of draws so far -/
structure SSp where
  p : Addr
  sa : List Addr
  inv : Hp → Nat → Prop
  loc : ∀ {H H' : Hp} {n : Nat}, (∀ a ∈ sa, ∀ o, H a = some o → H' a = some o) → inv H n → inv H' n
  has : ∀ {H : Hp} {n : Nat}, inv H n → ∀ a ∈ sa, H a ≠ none
def S0 : SSp := ⟨0, [], fun _ _ => True, fun _ h => h, fun _ _ h => absurd h (by simp)⟩

/-- from (F, H) to (F', H'): what changes stands in sa -/
structure Stp (sa : List Addr) (F H F' H' : Hp) : Prop where
  f : Same F F'
  s : Same F' H'
  k : ∀ a o, a ∉ sa → H a = some o → H' a = some o
  h : ∀ a, H a ≠ none → H' a ≠ none
  n : ∀ a, F' a ≠ none → F a ≠ none ∨ H a = none
section
variable {sa : List Addr} {F H F' H' F'' H'' : Hp}
theorem Stp.refl (s : Same F H) : Stp sa F H F H := ⟨Same.refl F, s, fun _ _ _ e => e, fun _ e => e, fun _ e => .inl e⟩
theorem Stp.trans (a : Stp sa F H F' H') (b : Stp sa F' H' F'' H'') : Stp sa F H F'' H'' where
  f := a.f.trans b.f
  s := b.s
  k := fun x o hx e => b.k x o hx (a.k x o hx e)
  h := fun x e => b.h x (a.h x e)
  n := fun x e => by
    rcases b.n x e with h | h
    · exact a.n x h
    · refine .inr ?_
      cases q : H x with
      | none => rfl
      | some o => exact absurd h (a.h x (by rw [q]; simp))
theorem Stp.wk {sb : List Addr} (a : Stp [] F H F' H') : Stp sb F H F' H' := ⟨a.f, a.s, fun x o _ e => a.k x o (by simp) e, a.h, a.n⟩
theorem ne_none {α : Type} {o : Option α} {x : α} (e : o = some x) : o ≠ none := by rw [e]; simp
/-- a new frozen object -/
theorem Stp.new {p : Addr} {o : HO} (s : Same F H) (hp : H p = none) : Stp [] F H (upd F p o) (upd H p o) where
  f := fun a u e => by rw [upd_ne (ne_of_none (s a u e) hp)]; exact e
  s := fun a u e => by
    by_cases q : a = p
    · subst q; rw [upd_same] at e ⊢; exact e
    · rw [upd_ne q] at e ⊢; exact s a u e
  k := fun a u _ e => by rw [upd_ne (ne_of_none e hp)]; exact e
  h := fun a e => by
    by_cases q : a = p
    · subst q; rw [upd_same]; simp
    · rw [upd_ne q]; exact e
  n := fun a e => by
    by_cases q : a = p
    · subst q; exact .inr hp
    · rw [upd_ne q] at e; exact .inl e
/-- a new object that is not frozen -/
theorem Stp.newH {p : Addr} {o : HO} (s : Same F H) (hp : H p = none) : Stp [] F H F (upd H p o) where
  f := Same.refl F
  s := fun a u e => by rw [upd_ne (ne_of_none (s a u e) hp)]; exact s a u e
  k := fun a u _ e => by rw [upd_ne (ne_of_none e hp)]; exact e
  h := fun a e => by
    by_cases q : a = p
    · subst q; rw [upd_same]; simp
    · rw [upd_ne q]; exact e
  n := fun a e => .inl e
end

/-- the entry of the def -/
structure Bs where
  S : SSp
  F0 : Hp
  H0 : Hp
def RpV (B : Bs) (F H : Hp) (v : V) : EV → Prop
  | .d x => Fz F v x
  | .own xs => ∃ l vs, v = .ref l ∧ l ∉ B.S.sa ∧ B.H0 l = none ∧ F l = none ∧ H l = some (.lst vs) ∧ vs.length ≤ sizeLine ∧ FzAll F vs xs
  | .st => v = .ref B.S.p
structure Rp (B : Bs) (F H : Hp) (σ : L2.St) (ρ : Sl) (n : Nat) : Prop where
  len : ρ.length = σ.length
  step : Stp B.S.sa B.F0 B.H0 F H
  slot : ∀ (i : Nat) (e : EV), ρ[i]? = some (some e) → ∃ v : V, σ[i]? = some (some v) ∧ RpV B F H v e
  sep : ∀ (i j : Nat) (xs ys : List PyData) (l : Addr), ρ[i]? = some (some (.own xs)) → ρ[j]? = some (some (.own ys)) → σ[i]? = some (some (.ref l)) → σ[j]? = some (some (.ref l)) → i = j
  stf : ∀ a ∈ B.S.sa, F a = none
  inv : B.S.inv H n
section
variable {B : Bs} {F H F' H' : Hp} {σ : L2.St} {ρ : Sl} {n m : Nat}
theorem stf_go {sa sb : List Addr} (st : Stp sb F H F' H') (hF : ∀ a ∈ sa, F a = none) (hH : ∀ a ∈ sa, H a ≠ none) : ∀ a ∈ sa, F' a = none := fun a ha => by
  cases q : F' a with
  | none => rfl
  | some o =>
    rcases st.n a (by rw [q]; simp) with h | h
    · exact absurd (hF a ha) h
    · exact absurd h (hH a ha)
theorem Rp.goS (R : Rp B F H σ ρ n) (st : Stp B.S.sa F H F' H') (iv : B.S.inv H' m) : Rp B F' H' σ ρ m where
  len := R.len
  step := R.step.trans st
  slot := fun i e h => by
    obtain ⟨v, h1, h2⟩ := R.slot i e h
    refine ⟨v, h1, ?_⟩
    cases e with
    | d x => exact Fz.mono st.f _ _ h2
    | own xs =>
      obtain ⟨l, vs, e1, e2, e3, e4, e5, e6, e7⟩ := h2
      refine ⟨l, vs, e1, e2, e3, ?_, st.k l _ e2 e5, e6, FzAll.mono st.f _ _ e7⟩
      cases q : F' l with
      | none => rfl
      | some o =>
        rcases st.n l (by rw [q]; simp) with h | h
        · exact absurd e4 h
        · rw [e5] at h; cases h
    | st => exact h2
  sep := R.sep
  stf := stf_go st R.stf (fun a ha => B.S.has R.inv a ha)
  inv := iv
theorem Rp.inv_go (R : Rp B F H σ ρ n) (st : Stp [] F H F' H') : B.S.inv H' n := B.S.loc (fun a _ o e => st.k a o (by simp) e) R.inv
theorem Rp.go (R : Rp B F H σ ρ n) (st : Stp [] F H F' H') : Rp B F' H' σ ρ n := R.goS st.wk (R.inv_go st)
end

/-! ### expressions -/
abbrev TD := Sl → Nat → (PyData → Nat → Prop) → Prop
abbrev TDA := Sl → Nat → (List PyData → Nat → Prop) → Prop
abbrev TDT := Sl → Nat → (Bool → Nat → Prop) → Prop
def liftE (B : Bs) (t : TD) : TE := fun σ H Q => ∃ F ρ n, Rp B F H σ ρ n ∧ t ρ n fun d m => ∀ F' H' v, Stp B.S.sa F H F' H' → B.S.inv H' m → Fz F' v d → Q v H'
def liftA (B : Bs) (t : TDA) : TA := fun σ H Q => ∃ F ρ n, Rp B F H σ ρ n ∧ t ρ n fun ds m => ∀ F' H' vs, Stp B.S.sa F H F' H' → B.S.inv H' m → FzAll F' vs ds → Q vs H'
def liftT (B : Bs) (t : TDT) : TT := fun σ H Q => ∃ F ρ n, Rp B F H σ ρ n ∧ t ρ n fun b m => ∀ F' H', Stp B.S.sa F H F' H' → B.S.inv H' m → Q b H'
structure DE (X : Cx) (B : Bs) (e : Expr) (t : TD) : Prop where
  pe : PE X e (liftE B t)
  mono : ∀ {ρ n} {Q Q' : PyData → Nat → Prop}, (∀ d m, Q d m → Q' d m) → t ρ n Q → t ρ n Q'
structure DA (X : Cx) (B : Bs) (es : List Expr) (t : TDA) : Prop where
  pa : PA X es (liftA B t)
  mono : ∀ {ρ n} {Q Q' : List PyData → Nat → Prop}, (∀ d m, Q d m → Q' d m) → t ρ n Q → t ρ n Q'
structure DT (X : Cx) (B : Bs) (e : Expr) (t : TDT) : Prop where
  pt : PT X e (liftT B t)
  mono : ∀ {ρ n} {Q Q' : Bool → Nat → Prop}, (∀ d m, Q d m → Q' d m) → t ρ n Q → t ρ n Q'

section
variable {X : Cx} {B : Bs} {e : Expr} {es : List Expr}
theorem pe_wk {te te' : TE} (h : PE X e te) (w : ∀ σ H Q, te' σ H Q → te σ H Q) : PE X e te' := ⟨fun pins s σ H Q I q => h.run pins s σ H Q I (w σ H Q q)⟩
theorem pa_wk {te te' : TA} (h : PA X es te) (w : ∀ σ H Q, te' σ H Q → te σ H Q) : PA X es te' := ⟨fun pos pins s σ H Q I q => h.run pos pins s σ H Q I (w σ H Q q)⟩
theorem pt_wk {te te' : TT} (h : PT X e te) (w : ∀ σ H Q, te' σ H Q → te σ H Q) : PT X e te' := ⟨fun pins s σ H Q I q => h.run pins s σ H Q I (w σ H Q q)⟩
theorem DE.imp {t t' : TD} (h : DE X B e t) (w : ∀ ρ n Q, t' ρ n Q → t ρ n Q) (mo : ∀ {ρ n} {Q Q' : PyData → Nat → Prop}, (∀ d m, Q d m → Q' d m) → t' ρ n Q → t' ρ n Q') : DE X B e t' :=
  ⟨pe_wk h.pe fun σ H Q ⟨F, ρ, n, R, q⟩ => ⟨F, ρ, n, R, w _ _ _ q⟩, mo⟩
theorem DA.imp {t t' : TDA} (h : DA X B es t) (w : ∀ ρ n Q, t' ρ n Q → t ρ n Q) (mo : ∀ {ρ n} {Q Q' : List PyData → Nat → Prop}, (∀ d m, Q d m → Q' d m) → t' ρ n Q → t' ρ n Q') : DA X B es t' :=
  ⟨pa_wk h.pa fun σ H Q ⟨F, ρ, n, R, q⟩ => ⟨F, ρ, n, R, w _ _ _ q⟩, mo⟩
theorem DT.imp {t t' : TDT} (h : DT X B e t) (w : ∀ ρ n Q, t' ρ n Q → t ρ n Q) (mo : ∀ {ρ n} {Q Q' : Bool → Nat → Prop}, (∀ d m, Q d m → Q' d m) → t' ρ n Q → t' ρ n Q') : DT X B e t' :=
  ⟨pt_wk h.pt fun σ H Q ⟨F, ρ, n, R, q⟩ => ⟨F, ρ, n, R, w _ _ _ q⟩, mo⟩

/-- a pure function of the slots -/
abbrev PD (f : Sl → Option PyData) : TD := fun ρ n Q => ∃ d, f ρ = some d ∧ Q d n
abbrev PDA (f : Sl → Option (List PyData)) : TDA := fun ρ n Q => ∃ d, f ρ = some d ∧ Q d n
abbrev PDT (f : Sl → Option Bool) : TDT := fun ρ n Q => ∃ d, f ρ = some d ∧ Q d n
theorem pd_mono {α : Type} {f : Sl → Option α} {ρ : Sl} {n : Nat} {Q Q' : α → Nat → Prop} (h : ∀ d m, Q d m → Q' d m) : (∃ d, f ρ = some d ∧ Q d n) → ∃ d, f ρ = some d ∧ Q' d n := fun ⟨d, e, q⟩ => ⟨d, e, h _ _ q⟩

def fVar (i : Nat) : Sl → Option PyData := fun ρ => match ρ[i]? with
  | some (some (.d d)) => some d
  | _ => none
theorem fVar_some {i : Nat} {ρ : Sl} {d : PyData} (h : fVar i ρ = some d) : ρ[i]? = some (some (.d d)) := by
  unfold fVar at h
  split at h
  · next x e => cases h; exact e
  · cases h
theorem de_var {x : Str} {pos : Pos} (i : Nat) (h : PE X (.Name x pos) (tVar i)) : DE X B (.Name x pos) (PD (fVar i)) := by
  refine ⟨pe_wk h fun σ H Q ⟨F, ρ, n, R, d, e, q⟩ => ?_, pd_mono⟩
  obtain ⟨v, h1, h2⟩ := R.slot i _ (fVar_some e)
  exact ⟨v, h1, q F H v (Stp.refl R.step.s) R.inv h2⟩
def fC (d : PyData) : Sl → Option PyData := fun _ => some d
theorem de_c {v : V} {d : PyData} (h : PE X e (tC v)) (hd : ∀ F, Fz F v d) : DE X B e (PD (fC d)) := by
  refine ⟨pe_wk h fun σ H Q ⟨F, ρ, n, R, d', e, q⟩ => ?_, pd_mono⟩
  cases e
  exact q F H v (Stp.refl R.step.s) R.inv (hd F)
theorem de_int {i j pos} : DE X B (.Constant (.int i) j pos) (PD (fC (.int i))) := de_c pe_int fun _ => .int _
theorem de_bl {b j pos} : DE X B (.Constant (.bool b) j pos) (PD (fC (.bool b))) := de_c pe_bl fun _ => .bl _
theorem de_non {j pos} : DE X B (.Constant .none j pos) (PD (fC .none)) := de_c pe_non fun _ => .non

/-! ### two operands -/
/-- what an operation's rule asks is answered by a function on trees -/
def Snd2 (r : R2) (f : PyData → PyData → Option PyData) : Prop := ∀ (F H : Hp) (v w : V) (x y z : PyData) (Q : VK), Same F H → Fz F v x → Fz F w y → f x y = some z → (∀ F' H' u, Stp [] F H F' H' → Fz F' u z → Q u H') → r v w H Q
theorem Snd2.or {r r' : R2} {f g : PyData → PyData → Option PyData} (h : Snd2 r f) (h' : Snd2 r' g) : Snd2 (fun x y H Q => r x y H Q ∨ r' x y H Q) (fun x y => match f x y with
    | some z => some z
    | none => g x y) := fun F H v w x y z Q s hv hw e q => by
  dsimp only at e
  split at e
  · next z' e' => cases e; exact .inl (h F H v w x y _ Q s hv hw e' q)
  · exact .inr (h' F H v w x y z Q s hv hw e q)
def d2 (f : PyData → PyData → Option PyData) (ta tb : TD) : TD := fun ρ n Q => ta ρ n fun x m => tb ρ m fun y k => ∃ z, f x y = some z ∧ Q z k
theorem d2_op {r : R2} {f : PyData → PyData → Option PyData} (hs : Snd2 r f) {a b : Expr} {ta tb : TD} (ha : DE X B a ta) (hb : DE X B b tb) (σ : L2.St) (H : Hp) (Q : VK) (h : liftE B (d2 f ta tb) σ H Q) : tOp r (liftE B ta) (liftE B tb) σ H Q := by
  obtain ⟨F, ρ, n, R, q⟩ := h
  refine ⟨F, ρ, n, R, ha.mono (fun x m q1 => ?_) q⟩
  intro F1 H1 v st1 iv1 hv
  have R1 := R.goS st1 iv1
  refine ⟨F1, ρ, m, R1, hb.mono (fun y k q2 => ?_) q1⟩
  intro F2 H2 w st2 iv2 hw
  obtain ⟨z, e, q3⟩ := q2
  have R2 := R1.goS st2 iv2
  refine hs F2 H2 v w x y z Q st2.s (Fz.mono st2.f _ _ hv) hw e fun F3 H3 u st3 hu => q3 F3 H3 u ((st1.trans st2).trans st3.wk) (R2.inv_go st3) hu
theorem d2_mono {f : PyData → PyData → Option PyData} {a b : Expr} {ta tb : TD} (ha : DE X B a ta) (hb : DE X B b tb) {ρ : Sl} {n : Nat} {Q Q' : PyData → Nat → Prop} (h : ∀ d m, Q d m → Q' d m) (q : d2 f ta tb ρ n Q) : d2 f ta tb ρ n Q' :=
  ha.mono (fun x m q1 => hb.mono (fun y k ⟨z, e, q2⟩ => ⟨z, e, h _ _ q2⟩) q1) q
theorem de_d2 {r : R2} {f : PyData → PyData → Option PyData} (hs : Snd2 r f) {a b : Expr} {ta tb : TD} (mk : PE X e (tOp r (liftE B ta) (liftE B tb))) (ha : DE X B a ta) (hb : DE X B b tb) : DE X B e (d2 f ta tb) :=
  ⟨pe_wk mk (d2_op hs ha hb), fun h q => d2_mono ha hb h q⟩
def f2 (op : PyData → PyData → Option PyData) (f g : Sl → Option PyData) : Sl → Option PyData := fun ρ => (f ρ).bind fun x => (g ρ).bind fun y => op x y
theorem f2_d2 {op : PyData → PyData → Option PyData} {f g : Sl → Option PyData} (ρ : Sl) (n : Nat) (Q : PyData → Nat → Prop) (h : PD (f2 op f g) ρ n Q) : d2 op (PD f) (PD g) ρ n Q := by
  obtain ⟨d, e, q⟩ := h
  unfold f2 at e
  obtain ⟨x, e1, e⟩ := Option.bind_eq_some_iff.mp e
  obtain ⟨y, e2, e⟩ := Option.bind_eq_some_iff.mp e
  exact ⟨x, e1, y, e2, d, e, q⟩
theorem de_f2 {op : PyData → PyData → Option PyData} {f g : Sl → Option PyData} (h : DE X B e (d2 op (PD f) (PD g))) : DE X B e (PD (f2 op f g)) := h.imp f2_d2 pd_mono

/-! ### one operand -/
def Snd1 (r : V → Hp → VK → Prop) (f : PyData → Option PyData) : Prop := ∀ (F H : Hp) (v : V) (x z : PyData) (Q : VK), Same F H → Fz F v x → f x = some z → (∀ F' H' u, Stp [] F H F' H' → Fz F' u z → Q u H') → r v H Q
def d1 (f : PyData → Option PyData) (ta : TD) : TD := fun ρ n Q => ta ρ n fun x m => ∃ z, f x = some z ∧ Q z m
theorem d1_op {r : V → Hp → VK → Prop} {f : PyData → Option PyData} (hs : Snd1 r f) {a : Expr} {ta : TD} (ha : DE X B a ta) (σ : L2.St) (H : Hp) (Q : VK) (h : liftE B (d1 f ta) σ H Q) : liftE B ta σ H fun x H1 => r x H1 Q := by
  obtain ⟨F, ρ, n, R, q⟩ := h
  refine ⟨F, ρ, n, R, ha.mono (fun x m q1 => ?_) q⟩
  intro F1 H1 v st1 iv1 hv
  obtain ⟨z, e, q2⟩ := q1
  exact hs F1 H1 v x z Q st1.s hv e fun F3 H3 u st3 hu => q2 F3 H3 u (st1.trans st3.wk) ((R.goS st1 iv1).inv_go st3) hu
theorem d1_mono {f : PyData → Option PyData} {a : Expr} {ta : TD} (ha : DE X B a ta) {ρ : Sl} {n : Nat} {Q Q' : PyData → Nat → Prop} (h : ∀ d m, Q d m → Q' d m) (q : d1 f ta ρ n Q) : d1 f ta ρ n Q' :=
  ha.mono (fun x m ⟨z, e, q2⟩ => ⟨z, e, h _ _ q2⟩) q
theorem de_d1 {r : V → Hp → VK → Prop} {f : PyData → Option PyData} (hs : Snd1 r f) {a : Expr} {ta : TD} (mk : PE X e fun σ H Q => liftE B ta σ H fun x H1 => r x H1 Q) (ha : DE X B a ta) : DE X B e (d1 f ta) :=
  ⟨pe_wk mk (d1_op hs ha), fun h q => d1_mono ha h q⟩
def f1 (op : PyData → Option PyData) (f : Sl → Option PyData) : Sl → Option PyData := fun ρ => (f ρ).bind fun x => op x
theorem f1_d1 {op : PyData → Option PyData} {f : Sl → Option PyData} (ρ : Sl) (n : Nat) (Q : PyData → Nat → Prop) (h : PD (f1 op f) ρ n Q) : d1 op (PD f) ρ n Q := by
  obtain ⟨d, e, q⟩ := h
  unfold f1 at e
  obtain ⟨x, e1, e⟩ := Option.bind_eq_some_iff.mp e
  exact ⟨x, e1, d, e, q⟩
theorem de_f1 {op : PyData → Option PyData} {f : Sl → Option PyData} (h : DE X B e (d1 op (PD f))) : DE X B e (PD (f1 op f)) := h.imp f1_d1 pd_mono

/-! ### argument lists -/
def dNil : TDA := fun _ n Q => Q [] n
def dCons (ta : TD) (tr : TDA) : TDA := fun ρ n Q => ta ρ n fun x m => tr ρ m fun xs k => Q (x :: xs) k
theorem da_nil : DA X B [] dNil := ⟨pa_wk pa_nil fun σ H Q ⟨F, ρ, n, R, q⟩ => q F H [] (Stp.refl R.step.s) R.inv .nil, fun h q => h _ _ q⟩
theorem da_cons {ta : TD} {tr : TDA} (ha : DE X B e ta) (hr : DA X B es tr) (hs : starEach (e :: es) X.env = (false, eval e X.env) :: starEach es X.env := by rfl) : DA X B (e :: es) (dCons ta tr) := by
  refine ⟨pa_wk (pa_cons ha.pe hr.pa hs) fun σ H Q ⟨F, ρ, n, R, q⟩ => ⟨F, ρ, n, R, ha.mono (fun x m q1 => ?_) q⟩, fun h q => ha.mono (fun x m q1 => hr.mono (fun xs k q2 => h _ _ q2) q1) q⟩
  intro F1 H1 v st1 iv1 hv
  refine ⟨F1, ρ, m, R.goS st1 iv1, hr.mono (fun xs k q2 => ?_) q1⟩
  intro F2 H2 vs st2 iv2 hvs
  exact q2 F2 H2 (v :: vs) (st1.trans st2) iv2 (.cons (Fz.mono st2.f _ _ hv) hvs)
def fNil : Sl → Option (List PyData) := fun _ => some []
def fCons (f : Sl → Option PyData) (g : Sl → Option (List PyData)) : Sl → Option (List PyData) := fun ρ => (f ρ).bind fun x => (g ρ).bind fun xs => some (x :: xs)
theorem da_fNil : DA X B [] (PDA fNil) := da_nil.imp (fun ρ n Q ⟨d, e, q⟩ => by cases e; exact q) pd_mono
theorem da_fCons {f : Sl → Option PyData} {g : Sl → Option (List PyData)} (ha : DE X B e (PD f)) (hr : DA X B es (PDA g)) (hs : starEach (e :: es) X.env = (false, eval e X.env) :: starEach es X.env := by rfl) : DA X B (e :: es) (PDA (fCons f g)) :=
  (da_cons ha hr hs).imp (fun ρ n Q ⟨d, e, q⟩ => by
    unfold fCons at e
    obtain ⟨x, e1, e⟩ := Option.bind_eq_some_iff.mp e
    obtain ⟨y, e2, e⟩ := Option.bind_eq_some_iff.mp e
    cases e
    exact ⟨x, e1, y, e2, q⟩) pd_mono
end
end K50

set_option Elab.async false
set_option linter.all false
set_option maxRecDepth 100000
set_option maxHeartbeats 4000000
/-! operations on trees, and that they are what the program does -/
namespace K50
open PySem PySem.Spec PyProof.Rows L2
section
variable {F H : Hp} {v w : V}
theorem Fz.int_inv {i : Int} (h : Fz F v (.int i)) : v = .int i := by cases h; rfl
theorem Fz.bl_inv {b : Bool} (h : Fz F v (.bool b)) : v = .bl b := by cases h; rfl
theorem Fz.str_inv {b : Str} (h : Fz F v (.str b)) : v = .str b := by cases h; rfl
theorem Fz.tup_inv {ds : List PyData} (h : Fz F v (.tuple ds)) : ∃ a vs, v = .ref a ∧ F a = some (.tup vs) ∧ vs.length ≤ sizeLine ∧ FzAll F vs ds := by
  cases h with
  | tup a b c => exact ⟨_, _, rfl, a, b, c⟩
theorem Fz.lst_inv {ds : List PyData} (h : Fz F v (.list ds)) : ∃ a vs, v = .ref a ∧ F a = some (.lst vs) ∧ vs.length ≤ sizeLine ∧ FzAll F vs ds := by
  cases h with
  | lst a b c => exact ⟨_, _, rfl, a, b, c⟩
theorem Fz.newT {p : Addr} {vs : List V} {ds : List PyData} (s : Same F H) (hp : H p = none) (hl : vs.length ≤ sizeLine) (h : FzAll F vs ds) : Fz (upd F p (.tup vs)) (.ref p) (.tuple ds) :=
  .tup upd_same hl (FzAll.mono (Stp.new s hp).f _ _ h)
theorem Fz.newL {p : Addr} {vs : List V} {ds : List PyData} (s : Same F H) (hp : H p = none) (hl : vs.length ≤ sizeLine) (h : FzAll F vs ds) : Fz (upd F p (.lst vs)) (.ref p) (.list ds) :=
  .lst upd_same hl (FzAll.mono (Stp.new s hp).f _ _ h)
theorem mil {n : Nat} (h : n ≤ 1000000) : n ≤ sizeLine := Nat.le_trans h (by decide)
theorem mil' {n : Nat} (h : n < 1000000) : n < sizeLine := Nat.lt_of_lt_of_le h (by decide)
theorem FzAll.nil_iff {vs : List V} {ds : List PyData} (h : FzAll F vs ds) : vs = [] ↔ ds = [] := by
  cases h <;> simp
end

/-! ### + - * // % -/
def opAdd : PyData → PyData → Option PyData
  | .int a, .int b => some (.int (a + b))
  | .tuple xs, .tuple ys => if xs.length + ys.length ≤ 1000000 then some (.tuple (xs ++ ys)) else none
  | .list xs, .list ys => if xs.length + ys.length ≤ 1000000 then some (.list (xs ++ ys)) else none
  | _, _ => none
theorem snd_add {K : PySem.W.Frag} : Snd2 (fun x y H Q => rI0 (fun i j => .int (i + j)) x y H Q ∨ rCatA K x y H Q ∨ rCat x y H Q) opAdd := by
  intro F H v w x y z Q s hv hw e q
  unfold opAdd at e
  split at e
  · next a b =>
    cases e
    exact .inl ⟨a, b, hv.int_inv, hw.int_inv, q F H _ (Stp.refl s) (.int _)⟩
  · next xs ys =>
    split at e
    · next hl =>
      cases e
      obtain ⟨a, vs, rfl, ha, za, fa⟩ := hv.tup_inv
      obtain ⟨b, ws, rfl, hb, zb, fb⟩ := hw.tup_inv
      have la := fa.length
      have lb := fb.length
      refine .inr (.inl ⟨a, b, vs, ws, rfl, rfl, SqT.of (s _ _ ha), SqT.of (s _ _ hb), mil (by omega), fun h => ?_, fun h h2 => ?_, fun _ _ p hp => ?_⟩)
      · have : xs = [] := fa.nil_iff.mp h
        subst this
        exact q F H _ (Stp.refl s) (.tup hb zb fb)
      · have : ys = [] := fb.nil_iff.mp h2
        subst this
        refine q F H _ (Stp.refl s) ?_
        rw [List.append_nil]
        exact .tup ha za fa
      · exact q _ _ _ (Stp.new s hp) (Fz.newT s hp (by rw [List.length_append]; exact mil (by omega)) (fa.app fb))
    · cases e
  · next xs ys =>
    split at e
    · next hl =>
      cases e
      obtain ⟨a, vs, rfl, ha, za, fa⟩ := hv.lst_inv
      obtain ⟨b, ws, rfl, hb, zb, fb⟩ := hw.lst_inv
      have la := fa.length
      have lb := fb.length
      exact .inr (.inr ⟨a, b, vs, ws, rfl, rfl, s _ _ ha, s _ _ hb, mil (by omega), fun p hp => q _ _ _ (Stp.new s hp) (Fz.newL s hp (by rw [List.length_append]; exact mil (by omega)) (fa.app fb))⟩)
    · cases e
  · cases e
def opSub : PyData → PyData → Option PyData
  | .int a, .int b => some (.int (a - b))
  | _, _ => none
theorem snd_sub : Snd2 (rI0 fun i j => .int (i - j)) opSub := by
  intro F H v w x y z Q s hv hw e q
  unfold opSub at e
  split at e
  · next a b =>
    cases e
    exact ⟨a, b, hv.int_inv, hw.int_inv, q F H _ (Stp.refl s) (.int _)⟩
  · cases e
def opMul : PyData → PyData → Option PyData
  | .int a, .int b => if a.natAbs < 1152921504606846976 ∨ b.natAbs < 1152921504606846976 then some (.int (a * b)) else none
  | .tuple xs, .int k => if (0 ≤ k ∧ k ≤ 1000) ∧ xs.length ≤ 1000 then some (.tuple (List.replicate k.toNat xs).flatten) else none
  | _, _ => none
def opFloor : PyData → PyData → Option PyData
  | .int a, .int b => if 0 < b ∧ b < 1073741824 then some (.int (a / b)) else none
  | _, _ => none
theorem snd_floor : Snd2 (rI CDiv fun i j => .int (i / j)) opFloor := by
  intro F H v w x y z Q s hv hw e q
  unfold opFloor at e
  split at e
  · next a b =>
    split at e
    · next h =>
      cases e
      exact ⟨a, b, hv.int_inv, hw.int_inv, h, q F H _ (Stp.refl s) (.int _)⟩
    · cases e
  · cases e
def opMod : PyData → PyData → Option PyData
  | .int a, .int b => if 0 < b then some (.int (a % b)) else none
  | _, _ => none
theorem snd_mod : Snd2 (rI (fun _ j => 0 < j) fun i j => .int (i % j)) opMod := by
  intro F H v w x y z Q s hv hw e q
  unfold opMod at e
  split at e
  · next a b =>
    split at e
    · next h =>
      cases e
      exact ⟨a, b, hv.int_inv, hw.int_inv, h, q F H _ (Stp.refl s) (.int _)⟩
    · cases e
  · cases e

/-! ### comparisons -/
def opCmp (p : Int → Int → Bool) : PyData → PyData → Option PyData
  | .int a, .int b => some (.bool (p a b))
  | _, _ => none
theorem snd_cmp {p : Int → Int → Bool} : Snd2 (rI0 fun i j => .bl (p i j)) (opCmp p) := by
  intro F H v w x y z Q s hv hw e q
  unfold opCmp at e
  split at e
  · next a b =>
    cases e
    exact ⟨a, b, hv.int_inv, hw.int_inv, q F H _ (Stp.refl s) (.bl _)⟩
  · cases e
abbrev opLt := opCmp fun i j => decide (i < j)
abbrev opLe := opCmp fun i j => decide (i ≤ j)
abbrev opGt := opCmp fun i j => decide (j < i)
abbrev opGe := opCmp fun i j => decide (j ≤ i)
def eqv? : PyData → PyData → Option Bool
  | .int a, .int b => some (decide (a = b))
  | .str a, .str b => some (decide (a = b))
  | x, y => if SeqAt.shaped x && SeqAt.shaped y then some (PyData.eqv x y) else none
def opEq (x y : PyData) : Option PyData := (eqv? x y).map .bool
def opNe (x y : PyData) : Option PyData := (eqv? x y).map fun b => .bool (!b)
theorem eqv?_cases {x y : PyData} {b : Bool} (h : eqv? x y = some b) : (∃ i j, x = .int i ∧ y = .int j ∧ b = decide (i = j)) ∨ (∃ i j, x = .str i ∧ y = .str j ∧ b = decide (i = j)) ∨ (SeqAt.shaped x = true ∧ SeqAt.shaped y = true ∧ b = PyData.eqv x y) := by
  unfold eqv? at h
  split at h
  · cases h; exact .inl ⟨_, _, rfl, rfl, rfl⟩
  · cases h; exact .inr (.inl ⟨_, _, rfl, rfl, rfl⟩)
  · split at h
    · next hs =>
      cases h
      obtain ⟨h1, h2⟩ := Bool.and_eq_true_iff.mp hs
      exact .inr (.inr ⟨h1, h2, rfl⟩)
    · cases h
theorem dec_int' {i j : Int} : decide (V.int i = V.int j) = decide (i = j) := by
  by_cases h : i = j
  · subst h; simp
  · simp [h]
theorem dec_str' {i j : Str} : decide (V.str i = V.str j) = decide (i = j) := by
  by_cases h : i = j
  · subst h; simp
  · simp [h]
theorem snd_eq {K : PySem.W.Frag} : Snd2 (fun x y H Q => rEq x y H Q ∨ rEqD K x y H Q) opEq := by
  intro F H v w x y z Q s hv hw e q
  unfold opEq at e
  obtain ⟨b, hb, e⟩ := Option.map_eq_some_iff.mp e
  subst e
  rcases eqv?_cases hb with ⟨i, j, rfl, rfl, rfl⟩ | ⟨i, j, rfl, rfl, rfl⟩ | ⟨h1, h2, rfl⟩
  · rw [hv.int_inv, hw.int_inv]
    exact .inl ⟨rfl, by rw [dec_int']; exact q F H _ (Stp.refl s) (.bl _)⟩
  · rw [hv.str_inv, hw.str_inv]
    exact .inl ⟨rfl, by rw [dec_str']; exact q F H _ (Stp.refl s) (.bl _)⟩
  · exact .inr ⟨x, y, hv.dp s, hw.dp s, h1, h2, q F H _ (Stp.refl s) (.bl _)⟩
theorem snd_ne {K : PySem.W.Frag} : Snd2 (fun x y H Q => rNe x y H Q ∨ rNeD K x y H Q) opNe := by
  intro F H v w x y z Q s hv hw e q
  unfold opNe at e
  obtain ⟨b, hb, e⟩ := Option.map_eq_some_iff.mp e
  subst e
  rcases eqv?_cases hb with ⟨i, j, rfl, rfl, rfl⟩ | ⟨i, j, rfl, rfl, rfl⟩ | ⟨h1, h2, rfl⟩
  · rw [hv.int_inv, hw.int_inv]
    exact .inl ⟨rfl, by rw [dec_int']; exact q F H _ (Stp.refl s) (.bl _)⟩
  · rw [hv.str_inv, hw.str_inv]
    exact .inl ⟨rfl, by rw [dec_str']; exact q F H _ (Stp.refl s) (.bl _)⟩
  · exact .inr ⟨x, y, hv.dp s, hw.dp s, h1, h2, q F H _ (Stp.refl s) (.bl _)⟩

/-! ### subscripts -/
def itemAt (xs : List PyData) (i : Int) : Option PyData := match i with
  | .ofNat n => xs[n]?
  | _ => none
def opIdx : PyData → PyData → Option PyData
  | .tuple xs, .int i => itemAt xs i
  | .list xs, .int i => itemAt xs i
  | _, _ => none
theorem itemAt_some {xs : List PyData} {i : Int} {d : PyData} (h : itemAt xs i = some d) : ∃ n : Nat, i = (n : Int) ∧ xs[n]? = some d := by
  unfold itemAt at h
  split at h
  · next n => exact ⟨n, rfl, h⟩
  · cases h
theorem snd_idx {K : PySem.W.Frag} : Snd2 (fun x y H Q => rIxL K x y H Q ∨ rIxT K x y H Q) opIdx := by
  intro F H v w x y z Q s hv hw e q
  unfold opIdx at e
  split at e
  · next xs i =>
    obtain ⟨n, rfl, hn⟩ := itemAt_some e
    obtain ⟨a, vs, rfl, ha, za, fa⟩ := hv.tup_inv
    obtain ⟨u, hu, fu⟩ := fa.get hn
    exact .inr ⟨a, vs, _, u, rfl, hw.int_inv, SqT.of (s _ _ ha), atI_nat hu, q F H _ (Stp.refl s) fu⟩
  · next xs i =>
    obtain ⟨n, rfl, hn⟩ := itemAt_some e
    obtain ⟨a, vs, rfl, ha, za, fa⟩ := hv.lst_inv
    obtain ⟨u, hu, fu⟩ := fa.get hn
    exact .inl ⟨a, vs, _, u, rfl, hw.int_inv, SqL.of (s _ _ ha), atI_nat hu, q F H _ (Stp.refl s) fu⟩
  · cases e

section
variable {X : Cx} {B : Bs} {a b : Expr} {ta tb : TD} {pos : Pos}
theorem de_add (ha : DE X B a ta) (hb : DE X B b tb) : DE X B (.BinOp a .Add b pos) (d2 opAdd ta tb) := de_d2 (snd_add (K := X.K)) (pe_op (OpR.or op_add (OpR.or op_catA op_cat)) ha.pe hb.pe) ha hb
theorem de_sub (ha : DE X B a ta) (hb : DE X B b tb) : DE X B (.BinOp a .Sub b pos) (d2 opSub ta tb) := de_d2 snd_sub (pe_op op_sub ha.pe hb.pe) ha hb
theorem de_floor (ha : DE X B a ta) (hb : DE X B b tb) : DE X B (.BinOp a .FloorDiv b pos) (d2 opFloor ta tb) := de_d2 snd_floor (pe_op op_fdiv ha.pe hb.pe) ha hb
theorem de_mod (ha : DE X B a ta) (hb : DE X B b tb) : DE X B (.BinOp a .Mod b pos) (d2 opMod ta tb) := de_d2 snd_mod (pe_op op_mod ha.pe hb.pe) ha hb
theorem de_lt (ha : DE X B a ta) (hb : DE X B b tb) : DE X B (.Compare a [.Lt] [b] pos) (d2 opLt ta tb) := de_d2 snd_cmp (pe_cmpR op_lt ha.pe hb.pe (nomark _)) ha hb
theorem de_le (ha : DE X B a ta) (hb : DE X B b tb) : DE X B (.Compare a [.LtE] [b] pos) (d2 opLe ta tb) := de_d2 snd_cmp (pe_cmpR op_le ha.pe hb.pe (nomark _)) ha hb
theorem de_gt (ha : DE X B a ta) (hb : DE X B b tb) : DE X B (.Compare a [.Gt] [b] pos) (d2 opGt ta tb) := de_d2 snd_cmp (pe_cmpR op_gt ha.pe hb.pe (nomark _)) ha hb
theorem de_ge (ha : DE X B a ta) (hb : DE X B b tb) : DE X B (.Compare a [.GtE] [b] pos) (d2 opGe ta tb) := de_d2 snd_cmp (pe_cmpR op_ge ha.pe hb.pe (nomark _)) ha hb
theorem de_eq (hu : X.A.units + 64 < cLine) (ha : DE X B a ta) (hb : DE X B b tb) : DE X B (.Compare a [.Eq] [b] pos) (d2 opEq ta tb) := de_d2 (snd_eq (K := X.K)) (pe_cmpR (OpR.or op_eq (op_eqD hu)) ha.pe hb.pe (nomark _)) ha hb
theorem de_ne (hu : X.A.units + 64 < cLine) (ha : DE X B a ta) (hb : DE X B b tb) : DE X B (.Compare a [.NotEq] [b] pos) (d2 opNe ta tb) := de_d2 (snd_ne (K := X.K)) (pe_cmpR (OpR.or op_ne (op_neD hu)) ha.pe hb.pe (nomark _)) ha hb
theorem de_idx (ha : DE X B a ta) (hb : DE X B b tb) (hs : PlainIx b := by exact fun _ _ => rfl) : DE X B (.Subscript a b pos) (d2 opIdx ta tb) := de_d2 (snd_idx (K := X.K)) (pe_ix (IxR.or ix_list ix_tup) ha.pe hb.pe hs) ha hb
end

/-! ### tests -/
section
variable {X : Cx} {B : Bs} {a b c : Expr} {ta tb : TD} {pos : Pos}
def dTst (ta : TD) : TDT := fun ρ n Q => ta ρ n fun x m => ∃ k, x = .bool k ∧ Q k m
theorem dTst_mono (ha : DE X B a ta) {ρ : Sl} {n : Nat} {Q Q' : Bool → Nat → Prop} (h : ∀ d m, Q d m → Q' d m) (q : dTst ta ρ n Q) : dTst ta ρ n Q' := ha.mono (fun x m ⟨k, e, q2⟩ => ⟨k, e, h _ _ q2⟩) q
theorem dTst_B (ha : DE X B a ta) (σ : L2.St) (H : Hp) (Q : Bool → Hp → Prop) (h : liftT B (dTst ta) σ H Q) : liftE B ta σ H fun x H1 => ∃ c, x = .bl c ∧ Q c H1 := by
  obtain ⟨F, ρ, n, R, q⟩ := h
  refine ⟨F, ρ, n, R, ha.mono (fun x m ⟨k, e, q1⟩ F' H' v st iv hv => ?_) q⟩
  subst e
  exact ⟨k, hv.bl_inv, q1 F' H' st iv⟩
/-- an expression that gives a bool, as a test -/
theorem dt_val (ha : DE X B a ta) (he : ∀ whole, isTrue a X.env whole = (do let v ← whole; standAt a.pos; holding [v] (truthy v)) := by intro _; rfl) : DT X B a (dTst ta) :=
  ⟨pt_wk (pt_val ha.pe he) (dTst_B ha), fun h q => dTst_mono ha h q⟩
theorem d2_tst {r : R2} {f : PyData → PyData → Option PyData} (hs : Snd2 r f) {op : CmpOp} (ho : OpR X (compareOp op) r) (ha : DE X B a ta) (hb : DE X B b tb) (hd : DE X B c (d2 f ta tb)) (mk : PT X c (tTest (tOp r (liftE B ta) (liftE B tb)))) : DT X B c (dTst (d2 f ta tb)) := by
  refine ⟨pt_wk mk fun σ H Q h => ?_, fun h q => dTst_mono hd h q⟩
  refine d2_op hs ha hb σ H _ ?_
  exact dTst_B hd σ H Q h
theorem dt_lt (ha : DE X B a ta) (hb : DE X B b tb) : DT X B (.Compare a [.Lt] [b] pos) (dTst (d2 opLt ta tb)) := d2_tst snd_cmp op_lt ha hb (de_lt ha hb) (pt_cmpR op_lt ha.pe hb.pe (nomark _))
theorem dt_le (ha : DE X B a ta) (hb : DE X B b tb) : DT X B (.Compare a [.LtE] [b] pos) (dTst (d2 opLe ta tb)) := d2_tst snd_cmp op_le ha hb (de_le ha hb) (pt_cmpR op_le ha.pe hb.pe (nomark _))
theorem dt_gt (ha : DE X B a ta) (hb : DE X B b tb) : DT X B (.Compare a [.Gt] [b] pos) (dTst (d2 opGt ta tb)) := d2_tst snd_cmp op_gt ha hb (de_gt ha hb) (pt_cmpR op_gt ha.pe hb.pe (nomark _))
theorem dt_ge (ha : DE X B a ta) (hb : DE X B b tb) : DT X B (.Compare a [.GtE] [b] pos) (dTst (d2 opGe ta tb)) := d2_tst snd_cmp op_ge ha hb (de_ge ha hb) (pt_cmpR op_ge ha.pe hb.pe (nomark _))
theorem dt_eq (hu : X.A.units + 64 < cLine) (ha : DE X B a ta) (hb : DE X B b tb) : DT X B (.Compare a [.Eq] [b] pos) (dTst (d2 opEq ta tb)) := d2_tst (snd_eq (K := X.K)) (OpR.or op_eq (op_eqD hu)) ha hb (de_eq hu ha hb) (pt_cmpR (OpR.or op_eq (op_eqD hu)) ha.pe hb.pe (nomark _))
theorem dt_ne (hu : X.A.units + 64 < cLine) (ha : DE X B a ta) (hb : DE X B b tb) : DT X B (.Compare a [.NotEq] [b] pos) (dTst (d2 opNe ta tb)) := d2_tst (snd_ne (K := X.K)) (OpR.or op_ne (op_neD hu)) ha hb (de_ne hu ha hb) (pt_cmpR (OpR.or op_ne (op_neD hu)) ha.pe hb.pe (nomark _))
/-- is None, is not None -/
def isNon : PyData → Bool
  | .none => true
  | _ => false
theorem isNon_iff {F : Hp} {v : V} {x : PyData} (h : Fz F v x) : decide (v = V.non) = isNon x := by
  cases h <;> rfl
theorem de_isN {j p} (ha : DE X B a ta) : DE X B (.Compare a [.Is] [.Constant .none j p] pos) (d1 (fun x => some (.bool (isNon x))) ta) := by
  refine ⟨pe_wk (pe_cmp (pc_isN ha.pe)) fun σ H Q h => ?_, fun h q => d1_mono ha h q⟩
  refine d1_op (r := fun x H1 Q => Q (.bl (decide (x = .non))) H1) ?_ ha σ H Q h
  intro F H v x z Q s hv e q
  cases e
  show Q (V.bl (decide (v = V.non))) H
  rw [isNon_iff hv]
  exact q F H _ (Stp.refl s) (.bl _)
theorem de_notN {j p} (ha : DE X B a ta) : DE X B (.Compare a [.IsNot] [.Constant .none j p] pos) (d1 (fun x => some (.bool (!isNon x))) ta) := by
  refine ⟨pe_wk (pe_cmp (pc_notN ha.pe)) fun σ H Q h => ?_, fun h q => d1_mono ha h q⟩
  refine d1_op (r := fun x H1 Q => Q (.bl (!decide (x = .non))) H1) ?_ ha σ H Q h
  intro F H v x z Q s hv e q
  cases e
  show Q (V.bl (!decide (v = V.non))) H
  rw [isNon_iff hv]
  exact q F H _ (Stp.refl s) (.bl _)
theorem dt_isN {j p} (ha : DE X B a ta) : DT X B (.Compare a [.Is] [.Constant .none j p] pos) (dTst (d1 (fun x => some (.bool (isNon x))) ta)) := by
  refine ⟨pt_wk (pt_cmp (pc_isN ha.pe)) fun σ H Q h => ?_, fun h q => dTst_mono (de_isN (pos := pos) (j := j) (p := p) ha) h q⟩
  refine d1_op (r := fun x H1 Q => Q (.bl (decide (x = .non))) H1) ?_ ha σ H _ (dTst_B (de_isN (pos := pos) (j := j) (p := p) ha) σ H Q h)
  intro F H v x z Q s hv e q
  cases e
  show Q (V.bl (decide (v = V.non))) H
  rw [isNon_iff hv]
  exact q F H _ (Stp.refl s) (.bl _)
theorem dt_notN {j p} (ha : DE X B a ta) : DT X B (.Compare a [.IsNot] [.Constant .none j p] pos) (dTst (d1 (fun x => some (.bool (!isNon x))) ta)) := by
  refine ⟨pt_wk (pt_cmp (pc_notN ha.pe)) fun σ H Q h => ?_, fun h q => dTst_mono (de_notN (pos := pos) (j := j) (p := p) ha) h q⟩
  refine d1_op (r := fun x H1 Q => Q (.bl (!decide (x = .non))) H1) ?_ ha σ H _ (dTst_B (de_notN (pos := pos) (j := j) (p := p) ha) σ H Q h)
  intro F H v x z Q s hv e q
  cases e
  show Q (V.bl (!decide (v = V.non))) H
  rw [isNon_iff hv]
  exact q F H _ (Stp.refl s) (.bl _)
/-- is not True, of a bool -/
def opNotB : PyData → PyData → Option PyData
  | .bool a, .bool b => some (.bool (!decide (a = b)))
  | _, _ => none
theorem snd_notB : Snd2 rNotB opNotB := by
  intro F H v w x y z Q s hv hw e q
  unfold opNotB at e
  split at e
  · next a b =>
    cases e
    exact ⟨a, b, hv.bl_inv, hw.bl_inv, q F H _ (Stp.refl s) (.bl _)⟩
  · cases e
theorem de_notB (ha : DE X B a ta) (hb : DE X B b tb) : DE X B (.Compare a [.IsNot] [b] pos) (d2 opNotB ta tb) := de_d2 snd_notB (pe_cmpR op_notBl ha.pe hb.pe (nomark _)) ha hb
theorem dt_notB (ha : DE X B a ta) (hb : DE X B b tb) : DT X B (.Compare a [.IsNot] [b] pos) (dTst (d2 opNotB ta tb)) := d2_tst snd_notB op_notBl ha hb (de_notB ha hb) (pt_cmpR op_notBl ha.pe hb.pe (nomark _))

/-! and, or, not -/
structure DW (X : Cx) (B : Bs) (e : Expr) (t : TDT) : Prop where
  pw : PW X e (liftT B t)
  mono : ∀ {ρ n} {Q Q' : Bool → Nat → Prop}, (∀ d m, Q d m → Q' d m) → t ρ n Q → t ρ n Q'
theorem pw_wk {e : Expr} {te te' : TT} (h : PW X e te) (w : ∀ σ H Q, te' σ H Q → te σ H Q) : PW X e te' := ⟨fun wh pins s σ H Q I q => h.run wh pins s σ H Q I (w σ H Q q)⟩
theorem DW.dt {e : Expr} {t : TDT} (h : DW X B e t) : DT X B e t := ⟨h.pw.pt, h.mono⟩
variable {t u : TDT} {rest : List Expr}
def dAnd (t u : TDT) : TDT := fun ρ n Q => t ρ n fun c m => if c = true then u ρ m Q else Q false m
def dOr (t u : TDT) : TDT := fun ρ n Q => t ρ n fun c m => if c = true then Q true m else u ρ m Q
def dNot (t : TDT) : TDT := fun ρ n Q => t ρ n fun c m => Q (!c) m
theorem dw_and1 (ha : DT X B a t) : DW X B (.BoolOp .And [a] pos) t := ⟨pw_and1 ha.pt, ha.mono⟩
theorem dw_or1 (ha : DT X B a t) : DW X B (.BoolOp .Or [a] pos) t := ⟨pw_or1 ha.pt, ha.mono⟩
theorem ite_mono {c : Prop} [Decidable c] {A B A' B' : Prop} (h1 : A → A') (h2 : B → B') (h : if c then A else B) : if c then A' else B' := by
  by_cases hc : c
  · rw [if_pos hc] at h ⊢; exact h1 h
  · rw [if_neg hc] at h ⊢; exact h2 h
theorem dw_and (ha : DT X B a t) (hb : DW X B (.BoolOp .And (b :: rest) pos) u) : DW X B (.BoolOp .And (a :: b :: rest) pos) (dAnd t u) := by
  refine ⟨pw_wk (pw_and ha.pt hb.pw) fun σ H Q ⟨F, ρ, n, R, q⟩ => ⟨F, ρ, n, R, ha.mono (fun c m q1 F1 H1 st iv => ?_) q⟩, fun h q => ha.mono (fun c m q1 => ite_mono (fun z => hb.mono h z) (fun z => h _ _ z) q1) q⟩
  refine ite_mono (fun z => ?_) (fun z => z F1 H1 st iv) q1
  exact ⟨F1, ρ, m, R.goS st iv, hb.mono (fun d k z F2 H2 st2 iv2 => z F2 H2 (st.trans st2) iv2) z⟩
theorem dw_or (ha : DT X B a t) (hb : DW X B (.BoolOp .Or (b :: rest) pos) u) : DW X B (.BoolOp .Or (a :: b :: rest) pos) (dOr t u) := by
  refine ⟨pw_wk (pw_or ha.pt hb.pw) fun σ H Q ⟨F, ρ, n, R, q⟩ => ⟨F, ρ, n, R, ha.mono (fun c m q1 F1 H1 st iv => ?_) q⟩, fun h q => ha.mono (fun c m q1 => ite_mono (fun z => h _ _ z) (fun z => hb.mono h z) q1) q⟩
  refine ite_mono (fun z => z F1 H1 st iv) (fun z => ?_) q1
  exact ⟨F1, ρ, m, R.goS st iv, hb.mono (fun d k z F2 H2 st2 iv2 => z F2 H2 (st.trans st2) iv2) z⟩
theorem dt_not (ha : DT X B a t) : DT X B (.UnaryOp .Not a pos) (dNot t) := by
  refine ⟨pt_wk (pt_not ha.pt) fun σ H Q ⟨F, ρ, n, R, q⟩ => ⟨F, ρ, n, R, ha.mono (fun c m q1 F1 H1 st iv => q1 F1 H1 st iv) q⟩, fun h q => ha.mono (fun c m q1 => h _ _ q1) q⟩
/-! .. as values -/
def dAndV (ta tb : TD) : TD := fun ρ n Q => ta ρ n fun x m => ∃ c, x = .bool c ∧ if c = true then tb ρ m Q else Q (.bool false) m
theorem de_and1 {op : BoolOp} (ha : DE X B a ta) : DE X B (.BoolOp op [a] pos) ta := ⟨pe_one ha.pe, ha.mono⟩
theorem de_and (ha : DE X B a ta) (hb : DE X B (.BoolOp .And (b :: rest) pos) tb) : DE X B (.BoolOp .And (a :: b :: rest) pos) (dAndV ta tb) := by
  refine ⟨pe_wk (pe_and ha.pe hb.pe) fun σ H Q ⟨F, ρ, n, R, q⟩ => ⟨F, ρ, n, R, ha.mono (fun x m q1 F1 H1 v st iv hv => ?_) q⟩, fun h q => ha.mono (fun x m ⟨c, e, q1⟩ => ⟨c, e, ite_mono (fun z => hb.mono h z) (fun z => h _ _ z) q1⟩) q⟩
  obtain ⟨c, rfl, q1⟩ := q1
  refine ⟨c, hv.bl_inv, ite_mono (fun z => ?_) (fun z => z F1 H1 _ st iv (.bl _)) q1⟩
  exact ⟨F1, ρ, m, R.goS st iv, hb.mono (fun d k z F2 H2 v st2 iv2 hv => z F2 H2 v (st.trans st2) iv2 hv) z⟩
def dNotV (ta : TD) : TD := d1 (fun x => match x with
  | .bool c => some (.bool (!c))
  | _ => none) ta
theorem de_not (ha : DE X B a ta) : DE X B (.UnaryOp .Not a pos) (dNotV ta) := by
  refine de_d1 (r := fun x H1 Q => ∃ c, x = .bl c ∧ Q (.bl (!c)) H1) ?_ (pe_not ha.pe) ha
  intro F H v x z Q s hv e q
  dsimp only at e
  split at e
  · next c =>
    cases e
    exact ⟨c, hv.bl_inv, q F H _ (Stp.refl s) (.bl _)⟩
  · cases e
/-- a if t else b -/
def dIfE (t : TDT) (ta tb : TD) : TD := fun ρ n Q => t ρ n fun c m => if c = true then ta ρ m Q else tb ρ m Q
theorem de_ifE (hc : DT X B c t) (ha : DE X B a ta) (hb : DE X B b tb) : DE X B (.IfExp c a b pos) (dIfE t ta tb) := by
  refine ⟨pe_wk (pe_ifExp hc.pt ha.pe hb.pe) fun σ H Q ⟨F, ρ, n, R, q⟩ => ⟨F, ρ, n, R, hc.mono (fun c m q1 F1 H1 st iv => ?_) q⟩, fun h q => hc.mono (fun c m q1 => ite_mono (fun z => ha.mono h z) (fun z => hb.mono h z) q1) q⟩
  refine ite_mono (fun z => ?_) (fun z => ?_) q1
  · exact ⟨F1, ρ, m, R.goS st iv, ha.mono (fun d k z F2 H2 v st2 iv2 hv => z F2 H2 v (st.trans st2) iv2 hv) z⟩
  · exact ⟨F1, ρ, m, R.goS st iv, hb.mono (fun d k z F2 H2 v st2 iv2 hv => z F2 H2 v (st.trans st2) iv2 hv) z⟩
end
end K50

set_option Elab.async false
set_option linter.all false
set_option maxRecDepth 100000
set_option maxHeartbeats 4000000
/-! calls, displays, slices -/
namespace K50
open PySem PySem.Spec PyProof.Rows L2

/-! ### built-in functions of values -/
def SndC (r : List V → Hp → VK → Prop) (f : List PyData → Option PyData) : Prop := ∀ (F H : Hp) (vs : List V) (ds : List PyData) (z : PyData) (Q : VK), Same F H → FzAll F vs ds → f ds = some z → (∀ F' H' u, Stp [] F H F' H' → Fz F' u z → Q u H') → r vs H Q
section
variable {X : Cx} {B : Bs} {e : Expr} {es : List Expr} {pos p : Pos} {x : Str}
def dC (f : List PyData → Option PyData) (ta : TDA) : TD := fun ρ n Q => ta ρ n fun ds m => ∃ z, f ds = some z ∧ Q z m
theorem dC_op {r : List V → Hp → VK → Prop} {f : List PyData → Option PyData} (hs : SndC r f) {ta : TDA} (ha : DA X B es ta) (σ : L2.St) (H : Hp) (Q : VK) (h : liftE B (dC f ta) σ H Q) : tCB r (liftA B ta) σ H Q := by
  obtain ⟨F, ρ, n, R, q⟩ := h
  refine ⟨F, ρ, n, R, ha.mono (fun ds m q1 F1 H1 vs st iv hv => ?_) q⟩
  obtain ⟨z, ez, q2⟩ := q1
  exact hs F1 H1 vs ds z Q st.s hv ez fun F3 H3 u st3 hu => q2 F3 H3 u (st.trans st3.wk) ((R.goS st iv).inv_go st3) hu
theorem dC_mono {f : List PyData → Option PyData} {ta : TDA} (ha : DA X B es ta) {ρ : Sl} {n : Nat} {Q Q' : PyData → Nat → Prop} (h : ∀ d m, Q d m → Q' d m) (q : dC f ta ρ n Q) : dC f ta ρ n Q' :=
  ha.mono (fun ds m ⟨z, ez, q1⟩ => ⟨z, ez, h _ _ q1⟩) q
def fCall (f : List PyData → Option PyData) (g : Sl → Option (List PyData)) : Sl → Option PyData := fun ρ => (g ρ).bind fun xs => f xs
theorem de_fCall {f : List PyData → Option PyData} {g : Sl → Option (List PyData)} (h : DE X B e (dC f (PDA g))) : DE X B e (PD (fCall f g)) := h.imp (fun ρ n Q ⟨d, ed, q⟩ => by
  obtain ⟨xs, e1, e2⟩ := Option.bind_eq_some_iff.mp ed
  exact ⟨xs, e1, d, e2, q⟩) pd_mono
theorem de_callB {id : String} {r : List V → Hp → VK → Prop} {f : List PyData → Option PyData} {ta : TDA} (hs : SndC r f) (hc : CallR X (.builtin id) r) (hg : Gl X x) (hm : X.mg x = none) (hv : bootBuiltins x = some (.builtin id)) (ha : DA X B (e :: es) ta)
    (hn : x ≠ "__name__" := by decide) (hdb : (x == ("__debug__" : Str)) = false := by decide) (he : starEach (e :: es) X.env = (false, eval e X.env) :: starEach es X.env := by rfl) (hpl : (backTo pos (starEach es X.env)).any (·.1) = false := by rfl) :
    DE X B (.Call (.Name x p) (e :: es) [] pos) (dC f ta) := ⟨pe_wk (pe_callB hc hg hm hv ha.pa hn hdb he hpl) (dC_op hs ha), fun h q => dC_mono ha h q⟩
theorem de_callTy {T : String} {r : List V → Hp → VK → Prop} {f : List PyData → Option PyData} {ta : TDA} (hs : SndC r f) (hc : CallR X (.type T) r) (hg : Gl X x) (hm : X.mg x = none) (hv : bootBuiltins x = some (.type T)) (ha : DA X B (e :: es) ta)
    (hn : x ≠ "__name__" := by decide) (hdb : (x == ("__debug__" : Str)) = false := by decide) (he : starEach (e :: es) X.env = (false, eval e X.env) :: starEach es X.env := by rfl) (hpl : (backTo pos (starEach es X.env)).any (·.1) = false := by rfl) :
    DE X B (.Call (.Name x p) (e :: es) [] pos) (dC f ta) := ⟨pe_wk (pe_callTy hc hg hm hv ha.pa hn hdb he hpl) (dC_op hs ha), fun h q => dC_mono ha h q⟩
end

theorem FzAll.one {F : Hp} {vs : List V} {d : PyData} (h : FzAll F vs [d]) : ∃ v, vs = [v] ∧ Fz F v d := by
  cases h with
  | cons a b => cases b; exact ⟨_, rfl, a⟩
/-- len -/
def opLen : List PyData → Option PyData
  | [.tuple xs] => some (.int (xs.length : Nat))
  | [.list xs] => some (.int (xs.length : Nat))
  | _ => none
theorem snd_len {K : PySem.W.Frag} : SndC (fun xs H Q => ∃ p ys, xs = [.ref p] ∧ (SqL K H p ys ∨ SqT K H p ys) ∧ Q (.int ys.length) H) opLen := by
  intro F H vs ds z Q s hv ez q
  unfold opLen at ez
  split at ez
  · next xs =>
    cases ez
    obtain ⟨v, rfl, hv1⟩ := hv.one
    obtain ⟨a, ws, rfl, ha, za, fa⟩ := hv1.tup_inv
    refine ⟨a, ws, rfl, .inr (SqT.of (s _ _ ha)), ?_⟩
    rw [fa.length]
    exact q F H _ (Stp.refl s) (.int _)
  · next xs =>
    cases ez
    obtain ⟨v, rfl, hv1⟩ := hv.one
    obtain ⟨a, ws, rfl, ha, za, fa⟩ := hv1.lst_inv
    refine ⟨a, ws, rfl, .inl (SqL.of (s _ _ ha)), ?_⟩
    rw [fa.length]
    exact q F H _ (Stp.refl s) (.int _)
  · cases ez
/-- tuple(x), list(x) -/
def opTuple : List PyData → Option PyData
  | [.tuple xs] => some (.tuple xs)
  | [.list xs] => some (.tuple xs)
  | _ => none
theorem snd_tuple {K : PySem.W.Frag} : SndC (fun xs H Q => ∃ p ys, xs = [.ref p] ∧ ((SqL K H p ys ∧ ∀ l, H l = none → Q (.ref l) (upd H l (.tup ys))) ∨ (SqT K H p ys ∧ Q (.ref p) H))) opTuple := by
  intro F H vs ds z Q s hv ez q
  unfold opTuple at ez
  split at ez
  · next xs =>
    cases ez
    obtain ⟨v, rfl, hv1⟩ := hv.one
    obtain ⟨a, ws, rfl, ha, za, fa⟩ := hv1.tup_inv
    exact ⟨a, ws, rfl, .inr ⟨SqT.of (s _ _ ha), q F H _ (Stp.refl s) (.tup ha za fa)⟩⟩
  · next xs =>
    cases ez
    obtain ⟨v, rfl, hv1⟩ := hv.one
    obtain ⟨a, ws, rfl, ha, za, fa⟩ := hv1.lst_inv
    exact ⟨a, ws, rfl, .inl ⟨SqL.of (s _ _ ha), fun p hp => q _ _ _ (Stp.new s hp) (Fz.newT s hp za fa)⟩⟩
  · cases ez
def opList : List PyData → Option PyData
  | [.tuple xs] => some (.list xs)
  | [.list xs] => some (.list xs)
  | _ => none
theorem snd_list {K : PySem.W.Frag} : SndC (fun xs H Q => ∃ p ys, xs = [.ref p] ∧ (SqL K H p ys ∨ SqT K H p ys) ∧ ∀ l, H l = none → Q (.ref l) (upd H l (.lst ys))) opList := by
  intro F H vs ds z Q s hv ez q
  unfold opList at ez
  split at ez
  · next xs =>
    cases ez
    obtain ⟨v, rfl, hv1⟩ := hv.one
    obtain ⟨a, ws, rfl, ha, za, fa⟩ := hv1.tup_inv
    exact ⟨a, ws, rfl, .inr (SqT.of (s _ _ ha)), fun p hp => q _ _ _ (Stp.new s hp) (Fz.newL s hp za fa)⟩
  · next xs =>
    cases ez
    obtain ⟨v, rfl, hv1⟩ := hv.one
    obtain ⟨a, ws, rfl, ha, za, fa⟩ := hv1.lst_inv
    exact ⟨a, ws, rfl, .inl (SqL.of (s _ _ ha)), fun p hp => q _ _ _ (Stp.new s hp) (Fz.newL s hp za fa)⟩
  · cases ez
def opInt : List PyData → Option PyData
  | [.int i] => some (.int i)
  | _ => none
theorem snd_intc : SndC (fun xs H Q => (∃ i, xs = [.int i] ∧ Q (.int i) H) ∨ ∃ k, xs = [.bl k] ∧ Q (.int (if k then 1 else 0)) H) opInt := by
  intro F H vs ds z Q s hv ez q
  unfold opInt at ez
  split at ez
  · next i =>
    cases ez
    obtain ⟨v, rfl, hv1⟩ := hv.one
    exact .inl ⟨i, by rw [hv1.int_inv], q F H _ (Stp.refl s) (.int _)⟩
  · cases ez
def intsOf : List PyData → Option (List Int)
  | [] => some []
  | .int i :: r => (intsOf r).map (i :: ·)
  | _ => none
theorem intsOf_v {F : Hp} : ∀ {vs : List V} {ds : List PyData} {ns : List Int}, FzAll F vs ds → intsOf ds = some ns → vs = ns.map V.int
  | _, _, _, .nil, h => by cases h; rfl
  | _, .int i :: r, ns, .cons h t, e => by
    unfold intsOf at e
    obtain ⟨ms, e1, e2⟩ := Option.map_eq_some_iff.mp e
    subst e2
    rw [h.int_inv, List.map_cons, intsOf_v t e1]
  | _, .none :: _, _, .cons _ _, e => by cases e
  | _, .bool _ :: _, _, .cons _ _, e => by cases e
  | _, .str _ :: _, _, .cons _ _, e => by cases e
  | _, .list _ :: _, _, .cons _ _, e => by cases e
  | _, .tuple _ :: _, _, .cons _ _, e => by cases e
  | _, .dict _ :: _, _, .cons _ _, e => by cases e
def opSum : List PyData → Option PyData
  | [.list xs] => (intsOf xs).map fun ns => .int ns.sum
  | _ => none
theorem snd_sum {K : PySem.W.Frag} : SndC (rSum K) opSum := by
  intro F H vs ds z Q s hv ez q
  unfold opSum at ez
  split at ez
  · next xs =>
    obtain ⟨ns, e1, e2⟩ := Option.map_eq_some_iff.mp ez
    subst e2
    obtain ⟨v, rfl, hv1⟩ := hv.one
    obtain ⟨a, ws, rfl, ha, za, fa⟩ := hv1.lst_inv
    refine ⟨a, ns, rfl, ?_, q F H _ (Stp.refl s) (.int _)⟩
    rw [← intsOf_v fa e1]
    exact SqL.of (s _ _ ha)
  · cases ez
section
variable {X : Cx} {B : Bs} {e : Expr} {es : List Expr} {pos p : Pos} {ta : TDA}
theorem de_len (hg : Gl X "len") (hm : X.mg "len" = none) (ha : DA X B [e] ta) (he : starEach [e] X.env = (false, eval e X.env) :: starEach [] X.env := by rfl) : DE X B (.Call (.Name "len" p) [e] [] pos) (dC opLen ta) :=
  de_callB (snd_len (K := X.K)) call_len_seq hg hm PySem.boot_len ha (by decide) (by decide) he rfl
theorem de_tuple (hg : Gl X "tuple") (hm : X.mg "tuple" = none) (ha : DA X B [e] ta) (he : starEach [e] X.env = (false, eval e X.env) :: starEach [] X.env := by rfl) : DE X B (.Call (.Name "tuple" p) [e] [] pos) (dC opTuple ta) :=
  de_callTy (snd_tuple (K := X.K)) call_tuple_of hg hm (by decide +kernel) ha (by decide) (by decide) he rfl
theorem de_list (hg : Gl X "list") (hm : X.mg "list" = none) (ha : DA X B [e] ta) (he : starEach [e] X.env = (false, eval e X.env) :: starEach [] X.env := by rfl) : DE X B (.Call (.Name "list" p) [e] [] pos) (dC opList ta) :=
  de_callTy (snd_list (K := X.K)) call_list_of hg hm (by decide +kernel) ha (by decide) (by decide) he rfl
theorem de_intc (hg : Gl X "int") (hm : X.mg "int" = none) (ha : DA X B [e] ta) (he : starEach [e] X.env = (false, eval e X.env) :: starEach [] X.env := by rfl) : DE X B (.Call (.Name "int" p) [e] [] pos) (dC opInt ta) :=
  de_callTy snd_intc call_int1 hg hm (by decide +kernel) ha (by decide) (by decide) he rfl
theorem de_sum (hc : X.calm = true) (hg : Gl X "sum") (hm : X.mg "sum" = none) (ha : DA X B [e] ta) (he : starEach [e] X.env = (false, eval e X.env) :: starEach [] X.env := by rfl) : DE X B (.Call (.Name "sum" p) [e] [] pos) (dC opSum ta) :=
  de_callB (snd_sum (K := X.K)) (cr_sum hc) hg hm (by decide +kernel) ha (by decide) (by decide) he rfl
end

/-! ### isinstance -/
def opIsInt : PyData → Option PyData
  | .int _ => some (.bool true)
  | _ => none
def opIsBool : PyData → Option PyData
  | .int _ => some (.bool false)
  | _ => none
def opIsTup : PyData → Option PyData
  | .tuple _ => some (.bool true)
  | _ => none
theorem de_isi {X : Cx} {B : Bs} {a : Expr} {ta : TD} {pos p pT : Pos} {tn : Str} {T : String} {f : PyData → Option PyData} (hf : ∀ (F H : Hp) (v : V) (x z : PyData), Same F H → Fz F v x → f x = some z → ∃ t b, TyX X.K H v t ∧ PySem.W.kitOne X.K t (.type T) = some b ∧ z = .bool b)
    (hg : Gl X "isinstance") (hm : X.mg "isinstance" = none) (hT : PE X (.Name tn pT) (tC (.ty T))) (ha : DE X B a ta)
    (he : starEach [a, .Name tn pT] X.env = (false, eval a X.env) :: starEach [.Name tn pT] X.env := by rfl) (he2 : starEach [.Name tn pT] X.env = (false, eval (.Name tn pT) X.env) :: starEach [] X.env := by rfl) (hpl : (backTo pos (starEach [.Name tn pT] X.env)).any (·.1) = false := by rfl) :
    DE X B (.Call (.Name "isinstance" p) [a, .Name tn pT] [] pos) (d1 f ta) := by
  refine ⟨pe_wk (pe_callB call_isi hg hm (by decide +kernel) (pa_cons ha.pe (pa_cons hT pa_nil he2) he) (by decide) (by decide) he hpl) fun σ H Q h => ?_, fun h q => d1_mono ha h q⟩
  refine d1_op (r := fun x H1 Q => rIsi X.K [x, .ty T] H1 Q) ?_ ha σ H Q h
  intro F H v x z Q s hv e q
  obtain ⟨t, b, h1, h2, rfl⟩ := hf F H v x z s hv e
  exact ⟨v, .ty T, t, .type T, b, rfl, .ty T, h1, h2, q F H _ (Stp.refl s) (.bl _)⟩
section
variable {X : Cx} {B : Bs} {a : Expr} {ta : TD} {pos p pT : Pos}
theorem de_isInt (hg : Gl X "isinstance") (hm : X.mg "isinstance" = none) (hg2 : Gl X "int") (hm2 : X.mg "int" = none) (ha : DE X B a ta)
    (he : starEach [a, .Name "int" pT] X.env = (false, eval a X.env) :: starEach [.Name "int" pT] X.env := by rfl) (he2 : starEach [.Name "int" pT] X.env = (false, eval (.Name "int" pT) X.env) :: starEach [] X.env := by rfl) (hpl : (backTo pos (starEach [.Name "int" pT] X.env)).any (·.1) = false := by rfl) :
    DE X B (.Call (.Name "isinstance" p) [a, .Name "int" pT] [] pos) (d1 opIsInt ta) :=
  de_isi (T := "int") (fun F H v x z s hv e => by
    unfold opIsInt at e
    split at e
    · cases e
      rw [hv.int_inv]
      exact ⟨_, true, .base (.int _), kit_ty (by decide +kernel), rfl⟩
    · cases e) hg hm (pe_bltn hg2 hm2 (by decide +kernel) rfl) ha he he2 hpl
theorem de_isBool (hg : Gl X "isinstance") (hm : X.mg "isinstance" = none) (hg2 : Gl X "bool") (hm2 : X.mg "bool" = none) (ha : DE X B a ta)
    (he : starEach [a, .Name "bool" pT] X.env = (false, eval a X.env) :: starEach [.Name "bool" pT] X.env := by rfl) (he2 : starEach [.Name "bool" pT] X.env = (false, eval (.Name "bool" pT) X.env) :: starEach [] X.env := by rfl) (hpl : (backTo pos (starEach [.Name "bool" pT] X.env)).any (·.1) = false := by rfl) :
    DE X B (.Call (.Name "isinstance" p) [a, .Name "bool" pT] [] pos) (d1 opIsBool ta) :=
  de_isi (T := "bool") (fun F H v x z s hv e => by
    unfold opIsBool at e
    split at e
    · cases e
      rw [hv.int_inv]
      exact ⟨_, false, .base (.int _), kit_ty (by decide +kernel), rfl⟩
    · cases e) hg hm (pe_bltn hg2 hm2 (by decide +kernel) rfl) ha he he2 hpl
theorem de_isTup (hg : Gl X "isinstance") (hm : X.mg "isinstance" = none) (hg2 : Gl X "tuple") (hm2 : X.mg "tuple" = none) (ha : DE X B a ta)
    (he : starEach [a, .Name "tuple" pT] X.env = (false, eval a X.env) :: starEach [.Name "tuple" pT] X.env := by rfl) (he2 : starEach [.Name "tuple" pT] X.env = (false, eval (.Name "tuple" pT) X.env) :: starEach [] X.env := by rfl) (hpl : (backTo pos (starEach [.Name "tuple" pT] X.env)).any (·.1) = false := by rfl) :
    DE X B (.Call (.Name "isinstance" p) [a, .Name "tuple" pT] [] pos) (d1 opIsTup ta) :=
  de_isi (T := "tuple") (fun F H v x z s hv e => by
    unfold opIsTup at e
    split at e
    · cases e
      obtain ⟨b, ws, rfl, hb, _, _⟩ := hv.tup_inv
      exact ⟨_, true, .base (.tup (s _ _ hb)), kit_ty (by decide +kernel), rfl⟩
    · cases e) hg hm (pe_bltn hg2 hm2 (by decide +kernel) rfl) ha he he2 hpl
end

/-! ### displays -/
section
variable {X : Cx} {B : Bs} {e : Expr} {es : List Expr} {pos p : Pos} {ta : TDA}
def dTup (ta : TDA) : TD := fun ρ n Q => ta ρ n fun ds m => ds.length ≤ 1000000 ∧ Q (.tuple ds) m
def dLst (ta : TDA) : TD := fun ρ n Q => ta ρ n fun ds m => ds.length ≤ 1000000 ∧ Q (.list ds) m
theorem de_tup {k} (ha : DA X B es ta) : DE X B (.Tuple es k pos) (dTup ta) := by
  refine ⟨pe_wk (pe_tup ha.pa) fun σ H Q ⟨F, ρ, n, R, q⟩ => ⟨F, ρ, n, R, ha.mono (fun ds m ⟨hl, q1⟩ F1 H1 vs st iv hv => ?_) q⟩, fun h q => ha.mono (fun ds m ⟨hl, q1⟩ => ⟨hl, h _ _ q1⟩) q⟩
  have hl' : vs.length ≤ sizeLine := by rw [hv.length]; exact mil hl
  exact ⟨hl', fun p hp => q1 _ _ _ (st.trans (Stp.new st.s hp).wk) ((R.goS st iv).inv_go (Stp.new st.s hp)) (Fz.newT st.s hp hl' hv)⟩
theorem de_lst (ha : DA X B es ta) : DE X B (.List es pos) (dLst ta) := by
  refine ⟨pe_wk (pe_lst ha.pa) fun σ H Q ⟨F, ρ, n, R, q⟩ => ⟨F, ρ, n, R, ha.mono (fun ds m ⟨hl, q1⟩ F1 H1 vs st iv hv => ?_) q⟩, fun h q => ha.mono (fun ds m ⟨hl, q1⟩ => ⟨hl, h _ _ q1⟩) q⟩
  have hl' : vs.length ≤ sizeLine := by rw [hv.length]; exact mil hl
  exact ⟨hl', fun p hp => q1 _ _ _ (st.trans (Stp.new st.s hp).wk) ((R.goS st iv).inv_go (Stp.new st.s hp)) (Fz.newL st.s hp hl' hv)⟩
def fTup (g : Sl → Option (List PyData)) : Sl → Option PyData := fun ρ => (g ρ).bind fun xs => if xs.length ≤ 1000000 then some (.tuple xs) else none
def fLst (g : Sl → Option (List PyData)) : Sl → Option PyData := fun ρ => (g ρ).bind fun xs => if xs.length ≤ 1000000 then some (.list xs) else none
theorem de_fTup {k} {g : Sl → Option (List PyData)} (ha : DA X B es (PDA g)) : DE X B (.Tuple es k pos) (PD (fTup g)) := (de_tup ha).imp (fun ρ n Q ⟨d, ed, q⟩ => by
  obtain ⟨xs, e1, e2⟩ := Option.bind_eq_some_iff.mp ed
  split at e2
  · next hl => cases e2; exact ⟨xs, e1, hl, q⟩
  · cases e2) pd_mono
theorem de_fLst {g : Sl → Option (List PyData)} (ha : DA X B es (PDA g)) : DE X B (.List es pos) (PD (fLst g)) := (de_lst ha).imp (fun ρ n Q ⟨d, ed, q⟩ => by
  obtain ⟨xs, e1, e2⟩ := Option.bind_eq_some_iff.mp ed
  split at e2
  · next hl => cases e2; exact ⟨xs, e1, hl, q⟩
  · cases e2) pd_mono
end

/-! ### slices -/
abbrev TDO := Sl → Nat → (Option Int → Nat → Prop) → Prop
def liftO (B : Bs) (t : TDO) : TO := fun σ H Q => ∃ F ρ n, Rp B F H σ ρ n ∧ t ρ n fun o m => ∀ F' H', Stp B.S.sa F H F' H' → B.S.inv H' m → Q o H'
structure DO (X : Cx) (B : Bs) (e : Option Expr) (t : TDO) : Prop where
  po : PO X e (liftO B t)
  mono : ∀ {ρ n} {Q Q' : Option Int → Nat → Prop}, (∀ d m, Q d m → Q' d m) → t ρ n Q → t ρ n Q'
section
variable {X : Cx} {B : Bs} {a : Expr} {ta : TD} {pos p2 : Pos} {lo hi : Option Expr} {tl th : TDO}
theorem po_wk {e : Option Expr} {te te' : TO} (h : PO X e te) (w : ∀ σ H Q, te' σ H Q → te σ H Q) : PO X e te' := ⟨fun pins s σ H Q I q => h.run pins s σ H Q I (w σ H Q q)⟩
def dNoPart : TDO := fun _ n Q => Q none n
def dPart (t : TD) : TDO := fun ρ n Q => t ρ n fun x m => ∃ k : Nat, x = .int (k : Int) ∧ Q (some (k : Int)) m
theorem do_none : DO X B none dNoPart := ⟨po_wk po_none fun σ H Q ⟨F, ρ, n, R, q⟩ => q F H (Stp.refl R.step.s) R.inv, fun h q => h _ _ q⟩
theorem do_some (ha : DE X B a ta) : DO X B (some a) (dPart ta) := by
  refine ⟨po_wk (po_some ha.pe) fun σ H Q ⟨F, ρ, n, R, q⟩ => ⟨F, ρ, n, R, ha.mono (fun x m ⟨k, e, q1⟩ F1 H1 v st iv hv => ?_) q⟩, fun h q => ha.mono (fun x m ⟨k, e, q1⟩ => ⟨k, e, h _ _ q1⟩) q⟩
  subst e
  exact ⟨_, hv.int_inv, q1 F1 H1 st iv⟩
def cutD (xs : List PyData) (lo hi : Option Int) : List PyData := (xs.drop (HT.sIx xs.length 0 lo)).take (HT.sIx xs.length xs.length hi - HT.sIx xs.length 0 lo)
def opSl (x : PyData) (lo hi : Option Int) : Option PyData := match x with
  | .tuple xs => some (.tuple (cutD xs lo hi))
  | .list xs => some (.list (cutD xs lo hi))
  | _ => none
theorem FzAll.cut {F : Hp} {vs : List V} {ds : List PyData} (h : FzAll F vs ds) (lo hi : Option Int) : FzAll F (cutV vs lo hi) (cutD ds lo hi) := by
  unfold cutV cutD
  rw [h.length]
  exact (h.dr _).tk _
def dSl (ta : TD) (tl th : TDO) : TD := fun ρ n Q => ta ρ n fun x m => tl ρ m fun l k => th ρ k fun u j => ∃ z, opSl x l u = some z ∧ Q z j
theorem de_slice (ha : DE X B a ta) (hl : DO X B lo tl) (hh : DO X B hi th) : DE X B (.Subscript a (.Slice lo hi none p2) pos) (dSl ta tl th) := by
  refine ⟨pe_wk (pe_slice (SlR.or sl_list sl_tupA) ha.pe hl.po hh.po) fun σ H Q ⟨F, ρ, n, R, q⟩ => ⟨F, ρ, n, R, ha.mono (fun x m q1 F1 H1 v st iv hv => ?_) q⟩, fun h q => ha.mono (fun x m q1 => hl.mono (fun l k q2 => hh.mono (fun u j ⟨z, e, q3⟩ => ⟨z, e, h _ _ q3⟩) q2) q1) q⟩
  have R1 := R.goS st iv
  refine ⟨F1, ρ, m, R1, hl.mono (fun l k q2 F2 H2 st2 iv2 => ?_) q1⟩
  have R2 := R1.goS st2 iv2
  refine ⟨F2, ρ, k, R2, hh.mono (fun u j q3 F3 H3 st3 iv3 => ?_) q2⟩
  have R3 := R2.goS st3 iv3
  obtain ⟨z, e, q4⟩ := q3
  have hv3 := Fz.mono st3.f _ _ (Fz.mono st2.f _ _ hv)
  have s3 := st3.s
  have st13 := (st.trans st2).trans st3
  unfold opSl at e
  split at e
  · next xs =>
    cases e
    obtain ⟨b, ws, rfl, hb, zb, fb⟩ := hv3.tup_inv
    refine .inr ⟨b, ws, rfl, SqT.of (s3 _ _ hb), fun hw => ?_, fun hw p hp => ?_⟩
    · refine q4 F3 H3 _ st13 iv3 ?_
      have : cutD xs l u = xs := by
        unfold cutD
        rw [← fb.length, hw.1, hw.2, fb.length]
        simp
      rw [this]
      exact .tup hb zb fb
    · exact q4 _ _ _ (st13.trans (Stp.new s3 hp).wk) (R3.inv_go (Stp.new s3 hp)) (Fz.newT s3 hp (Nat.le_trans (cutV_length ws l u) zb) (fb.cut l u))
  · next xs =>
    cases e
    obtain ⟨b, ws, rfl, hb, zb, fb⟩ := hv3.lst_inv
    exact .inl ⟨b, ws, rfl, SqL.of (s3 _ _ hb), fun p hp => q4 _ _ _ (st13.trans (Stp.new s3 hp).wk) (R3.inv_go (Stp.new s3 hp)) (Fz.newL s3 hp (Nat.le_trans (cutV_length ws l u) zb) (fb.cut l u))⟩
  · cases e
def natOf? : PyData → Option Nat
  | .int (.ofNat n) => some n
  | _ => none
theorem natOf?_some {x : PyData} {n : Nat} (h : natOf? x = some n) : x = .int (n : Int) := by
  unfold natOf? at h
  split at h
  · cases h; rfl
  · cases h
def sliceD (xs : List PyData) (lo hi : Option Nat) : List PyData := match hi with
  | none => xs.drop (lo.getD 0)
  | some h => (xs.take h).drop (lo.getD 0)
def fSlice (f : Sl → Option PyData) (g h : Option (Sl → Option PyData)) : Sl → Option PyData := fun ρ => (f ρ).bind fun x =>
  (match g with
    | none => some none
    | some g => ((g ρ).bind natOf?).map some).bind fun lo =>
  (match h with
    | none => some none
    | some h => ((h ρ).bind natOf?).map some).bind fun hi => match x with
  | .tuple xs => some (.tuple (sliceD xs lo hi))
  | .list xs => some (.list (sliceD xs lo hi))
  | _ => none
def oi : Option Nat → Option Int
  | none => none
  | some k => some (k : Int)
theorem cutD_eq (xs : List PyData) (lo hi : Option Nat) : cutD xs (oi lo) (oi hi) = sliceD xs lo hi := by
  unfold cutD sliceD
  have h1 : HT.sIx xs.length 0 (oi lo) = min (lo.getD 0) xs.length := by
    cases lo with
    | none => show 0 = min 0 xs.length; omega
    | some k => exact HT.sIx_nat _ _ _
  cases hi with
  | none =>
    rw [h1]
    show List.take (xs.length - _) _ = _
    rw [List.take_of_length_le (by rw [List.length_drop]; exact Nat.le_refl _)]
    by_cases h : lo.getD 0 ≤ xs.length
    · rw [Nat.min_eq_left h]
    · rw [Nat.min_eq_right (by omega), List.drop_of_length_le (Nat.le_refl _), List.drop_of_length_le (by omega)]
  | some b =>
    rw [h1]
    show List.take (HT.sIx xs.length xs.length (some (b : Int)) - _) _ = _
    rw [HT.sIx_nat]
    show _ = List.drop (lo.getD 0) (List.take b xs)
    rw [List.drop_take]
    by_cases h : lo.getD 0 ≤ xs.length
    · rw [Nat.min_eq_left h]
      by_cases hb : b ≤ xs.length
      · rw [Nat.min_eq_left hb]
      · rw [Nat.min_eq_right (by omega), List.take_of_length_le (by rw [List.length_drop]; exact Nat.le_refl _), List.take_of_length_le (by rw [List.length_drop]; omega)]
    · have e1 : xs.drop (min (lo.getD 0) xs.length) = [] := List.drop_of_length_le (by omega)
      have e2 : xs.drop (lo.getD 0) = [] := List.drop_of_length_le (by omega)
      rw [e1, e2]
      simp
theorem slice_imp {x : PyData} {lo hi : Option Nat} {z : PyData} (e : (match x with
  | .tuple xs => some (PyData.tuple (sliceD xs lo hi))
  | .list xs => some (PyData.list (sliceD xs lo hi))
  | _ => none) = some z) : opSl x (oi lo) (oi hi) = some z := by
  unfold opSl
  cases x <;> first
    | (simp only [cutD_eq]; exact e)
    | cases e
theorem part_some {g : Sl → Option PyData} {ρ : Sl} {o : Option Nat} (e : ((g ρ).bind natOf?).map some = some o) : ∃ k, o = some k ∧ g ρ = some (.int (k : Int)) := by
  obtain ⟨k, e1, e2⟩ := Option.map_eq_some_iff.mp e
  obtain ⟨x, e3, e4⟩ := Option.bind_eq_some_iff.mp e1
  exact ⟨k, e2.symm, by rw [e3, natOf?_some e4]⟩
theorem de_fSlice11 {e1 e2 : Expr} {f g h : Sl → Option PyData} (ha : DE X B a (PD f)) (hl : DE X B e1 (PD g)) (hh : DE X B e2 (PD h)) : DE X B (.Subscript a (.Slice (some e1) (some e2) none p2) pos) (PD (fSlice f (some g) (some h))) :=
  (de_slice ha (do_some hl) (do_some hh)).imp (fun ρ n Q ⟨d, ed, q⟩ => by
    obtain ⟨x, e1, ed⟩ := Option.bind_eq_some_iff.mp ed
    obtain ⟨lo, e2, ed⟩ := Option.bind_eq_some_iff.mp ed
    obtain ⟨hi, e3, ed⟩ := Option.bind_eq_some_iff.mp ed
    obtain ⟨k, rfl, e4⟩ := part_some e2
    obtain ⟨j, rfl, e5⟩ := part_some e3
    exact ⟨x, e1, _, e4, k, rfl, _, e5, j, rfl, d, slice_imp ed, q⟩) pd_mono
theorem de_fSlice10 {e1 : Expr} {f g : Sl → Option PyData} (ha : DE X B a (PD f)) (hl : DE X B e1 (PD g)) : DE X B (.Subscript a (.Slice (some e1) none none p2) pos) (PD (fSlice f (some g) none)) :=
  (de_slice ha (do_some hl) do_none).imp (fun ρ n Q ⟨d, ed, q⟩ => by
    obtain ⟨x, e1, ed⟩ := Option.bind_eq_some_iff.mp ed
    obtain ⟨lo, e2, ed⟩ := Option.bind_eq_some_iff.mp ed
    obtain ⟨hi, e3, ed⟩ := Option.bind_eq_some_iff.mp ed
    obtain ⟨k, rfl, e4⟩ := part_some e2
    cases e3
    exact ⟨x, e1, _, e4, k, rfl, d, slice_imp (hi := none) ed, q⟩) pd_mono
theorem de_fSlice01 {e2 : Expr} {f h : Sl → Option PyData} (ha : DE X B a (PD f)) (hh : DE X B e2 (PD h)) : DE X B (.Subscript a (.Slice none (some e2) none p2) pos) (PD (fSlice f none (some h))) :=
  (de_slice ha do_none (do_some hh)).imp (fun ρ n Q ⟨d, ed, q⟩ => by
    obtain ⟨x, e1, ed⟩ := Option.bind_eq_some_iff.mp ed
    obtain ⟨lo, e2, ed⟩ := Option.bind_eq_some_iff.mp ed
    obtain ⟨hi, e3, ed⟩ := Option.bind_eq_some_iff.mp ed
    cases e2
    obtain ⟨j, rfl, e5⟩ := part_some e3
    exact ⟨x, e1, _, e5, j, rfl, d, slice_imp (lo := none) ed, q⟩) pd_mono
end

/-! ### ranges -/
section
variable {X : Cx} {B : Bs} {a b : Expr} {f g : Sl → Option PyData} {pos p p' pos' : Pos}
def rngD (lo hi : Int) : List PyData := (List.range (hi - lo).toNat).map fun i => .int (lo + (i : Nat))
def okRg (lo hi : Int) : Bool := decide (0 ≤ lo) && decide (lo ≤ 1000000) && decide (hi ≤ 1000000) && decide (-1000000 ≤ hi)
theorem okRg_ok {lo hi : Int} (h : okRg lo hi = true) : (0 ≤ lo ∧ lo ≤ 1000000) ∧ hi ≤ 1000000 ∧ -1000000 ≤ hi := by
  simp only [okRg, Bool.and_eq_true, decide_eq_true_eq] at h
  exact ⟨⟨h.1.1.1, h.1.1.2⟩, h.1.2, h.2⟩
theorem okRg_rg {lo hi : Int} (h : okRg lo hi = true) : RgOk lo hi := by
  obtain ⟨⟨h1, h2⟩, h3, h4⟩ := okRg_ok h
  exact ⟨by omega, by omega, by omega, by omega, by omega⟩
theorem rng_fz {F : Hp} (lo hi : Int) : FzAll F (rgV lo hi) (rngD lo hi) := FzAll.ints _ _
theorem rng_len {lo hi : Int} (h : okRg lo hi = true) : (rgV lo hi).length ≤ sizeLine := by
  obtain ⟨⟨h1, h2⟩, h3, h4⟩ := okRg_ok h
  rw [rgV_length]
  exact mil (by omega)
def opRng (mk : List PyData → PyData) : PyData → PyData → Option PyData
  | .int lo, .int hi => if okRg lo hi then some (mk (rngD lo hi)) else none
  | _, _ => none
def fRng (mk : List PyData → PyData) (f g : Sl → Option PyData) : Sl → Option PyData := f2 (opRng mk) f g
theorem fRng_some {mk : List PyData → PyData} {ρ : Sl} {z : PyData} (h : fRng mk f g ρ = some z) : ∃ lo hi, f ρ = some (.int lo) ∧ g ρ = some (.int hi) ∧ okRg lo hi = true ∧ z = mk (rngD lo hi) := by
  obtain ⟨x, e1, h1⟩ := Option.bind_eq_some_iff.mp h
  obtain ⟨y, e2, h2⟩ := Option.bind_eq_some_iff.mp h1
  clear h h1
  unfold opRng at h2
  split at h2
  · next lo hi =>
    split at h2
    · next hk => cases h2; exact ⟨lo, hi, e1, e2, hk, rfl⟩
    · cases h2
  · cases h2
abbrev fZero : Sl → Option PyData := fC (.int 0)
theorem rg1_op (ha : DE X B a (PD f)) {ho : List V → HO} {mk : List PyData → PyData} (hmk : ∀ (F : Hp) (p : Addr) (vs : List V) (ds : List PyData), F p = some (ho vs) → vs.length ≤ sizeLine → FzAll F vs ds → Fz F (.ref p) (mk ds))
    (σ : L2.St) (H : Hp) (Q : VK) (h : liftE B (PD (fRng mk fZero f)) σ H Q) : tRg1 (liftE B (PD f)) σ H fun a b H1 => RgOk a b ∧ ∀ q, H1 q = none → Q (.ref q) (upd H1 q (ho (rgV a b))) := by
  obtain ⟨F, ρ, n, R, z, ez, q⟩ := h
  obtain ⟨lo, hi, e1, e2, hk, rfl⟩ := fRng_some ez
  cases e1
  refine ⟨F, ρ, n, R, _, e2, fun F1 H1 v st iv hv => ⟨hi, hv.int_inv, okRg_rg hk, fun c hc => ?_⟩⟩
  exact q _ _ _ (st.trans (Stp.new st.s hc).wk) ((R.goS st iv).inv_go (Stp.new st.s hc)) (hmk _ _ _ _ upd_same (rng_len hk) (rng_fz _ _))
theorem de_tupRg1 (hc : X.calm = true) (hg : Gl X "tuple") (hm : X.mg "tuple" = none) (hg2 : Gl X "range") (hm2 : X.mg "range" = none) (ha : DE X B a (PD f))
    (na : starEach [a] X.env = (false, eval a X.env) :: starEach [] X.env := by rfl)
    (nb : starEach [.Call (.Name "range" p') [a] [] pos'] X.env = (false, eval (.Call (.Name "range" p') [a] [] pos') X.env) :: starEach [] X.env := by rfl) : DE X B (.Call (.Name "tuple" p) [.Call (.Name "range" p') [a] [] pos'] [] pos) (PD (fRng .tuple fZero f)) :=
  ⟨pe_wk (pe_tupRg hc hg hm (prg_1 hg2 hm2 ha.pe na) nb) fun σ H Q h => rg1_op (ho := .tup) ha (fun _ _ _ _ h1 h2 h3 => .tup h1 h2 h3) σ H Q h, pd_mono⟩
theorem de_lstRg1 (hc : X.calm = true) (hg : Gl X "list") (hm : X.mg "list" = none) (hg2 : Gl X "range") (hm2 : X.mg "range" = none) (ha : DE X B a (PD f))
    (na : starEach [a] X.env = (false, eval a X.env) :: starEach [] X.env := by rfl)
    (nb : starEach [.Call (.Name "range" p') [a] [] pos'] X.env = (false, eval (.Call (.Name "range" p') [a] [] pos') X.env) :: starEach [] X.env := by rfl) : DE X B (.Call (.Name "list" p) [.Call (.Name "range" p') [a] [] pos'] [] pos) (PD (fRng .list fZero f)) :=
  ⟨pe_wk (pe_listRg hc hg hm (prg_1 hg2 hm2 ha.pe na) nb) fun σ H Q h => rg1_op (ho := .lst) ha (fun _ _ _ _ h1 h2 h3 => .lst h1 h2 h3) σ H Q h, pd_mono⟩
theorem de_tupRg2 (hc : X.calm = true) (hg : Gl X "tuple") (hm : X.mg "tuple" = none) (hg2 : Gl X "range") (hm2 : X.mg "range" = none) (ha : DE X B a (PD f)) (hb : DE X B b (PD g))
    (na : starEach [a, b] X.env = (false, eval a X.env) :: starEach [b] X.env := by rfl) (nb : starEach [b] X.env = (false, eval b X.env) :: starEach [] X.env := by rfl) (hp : (backTo pos' (starEach [b] X.env)).any (·.1) = false := by rfl)
    (nc : starEach [.Call (.Name "range" p') [a, b] [] pos'] X.env = (false, eval (.Call (.Name "range" p') [a, b] [] pos') X.env) :: starEach [] X.env := by rfl) : DE X B (.Call (.Name "tuple" p) [.Call (.Name "range" p') [a, b] [] pos'] [] pos) (PD (fRng .tuple f g)) := by
  refine ⟨pe_wk (pe_tupRg hc hg hm (prg_2 hg2 hm2 ha.pe hb.pe na nb hp) nc) fun σ H Q h => ?_, pd_mono⟩
  obtain ⟨F, ρ, n, R, z, ez, q⟩ := h
  obtain ⟨lo, hi, e1, e2, hk, rfl⟩ := fRng_some ez
  refine ⟨F, ρ, n, R, _, e1, fun F1 H1 v st iv hv => ?_⟩
  have R1 := R.goS st iv
  refine ⟨F1, ρ, n, R1, _, e2, fun F2 H2 w st2 iv2 hw => ⟨lo, hi, hv.int_inv, hw.int_inv, okRg_rg hk, fun c hc => ?_⟩⟩
  have st12 := st.trans st2
  exact q _ _ _ (st12.trans (Stp.new st2.s hc).wk) ((R1.goS st2 iv2).inv_go (Stp.new st2.s hc)) (.tup upd_same (rng_len hk) (rng_fz _ _))
end
end K50

set_option Elab.async false
set_option linter.all false
set_option maxRecDepth 100000
set_option maxHeartbeats 4000000
/-! statements, loops, comprehensions -/
namespace K50
open PySem PySem.Spec PyProof.Rows L2

/-! ### the slots change -/
section
variable {B : Bs} {F H F' H' : Hp} {σ : L2.St} {ρ : Sl} {n m : Nat} {i : Nat} {v : V} {d : PyData}
theorem get_set {α : Type} {l : List α} {i j : Nat} {x y : α} (h : (l.set i x)[j]? = some y) : (j = i ∧ i < l.length ∧ y = x) ∨ (j ≠ i ∧ l[j]? = some y) := by
  by_cases e : j = i
  · subst e
    have hl : j < l.length := by
      have := (List.getElem?_eq_some_iff.mp h).1
      simpa using this
    rw [List.getElem?_set_self hl] at h
    cases h
    exact .inl ⟨rfl, hl, rfl⟩
  · rw [List.getElem?_set_ne (Ne.symm e)] at h
    exact .inr ⟨e, h⟩
theorem Rp.set (R : Rp B F H σ ρ n) (hv : Fz F v d) : Rp B F H (σ.set i (some v)) (ρ.set i (some (.d d))) n where
  len := by rw [List.length_set, List.length_set]; exact R.len
  step := R.step
  slot := fun j e h => by
    rcases get_set h with ⟨rfl, hl, e1⟩ | ⟨hne, h1⟩
    · cases e1
      exact ⟨v, List.getElem?_set_self (by rw [← R.len]; exact hl), hv⟩
    · obtain ⟨w, h2, h3⟩ := R.slot j e h1
      exact ⟨w, by rw [List.getElem?_set_ne (Ne.symm hne)]; exact h2, h3⟩
  sep := fun j k xs ys l h1 h2 h3 h4 => by
    rcases get_set h1 with ⟨_, _, e1⟩ | ⟨hne, h1⟩
    · cases e1
    rcases get_set h2 with ⟨_, _, e1⟩ | ⟨hne2, h2⟩
    · cases e1
    rw [List.getElem?_set_ne (Ne.symm hne)] at h3
    rw [List.getElem?_set_ne (Ne.symm hne2)] at h4
    exact R.sep j k xs ys l h1 h2 h3 h4
  stf := R.stf
  inv := R.inv
theorem Rp.setN (R : Rp B F H σ ρ n) : Rp B F H (σ.set i none) (ρ.set i none) n where
  len := by rw [List.length_set, List.length_set]; exact R.len
  step := R.step
  slot := fun j e h => by
    rcases get_set h with ⟨rfl, hl, e1⟩ | ⟨hne, h1⟩
    · cases e1
    · obtain ⟨w, h2, h3⟩ := R.slot j e h1
      exact ⟨w, by rw [List.getElem?_set_ne (Ne.symm hne)]; exact h2, h3⟩
  sep := fun j k xs ys l h1 h2 h3 h4 => by
    rcases get_set h1 with ⟨_, _, e1⟩ | ⟨hne, h1⟩
    · cases e1
    rcases get_set h2 with ⟨_, _, e1⟩ | ⟨hne2, h2⟩
    · cases e1
    rw [List.getElem?_set_ne (Ne.symm hne)] at h3
    rw [List.getElem?_set_ne (Ne.symm hne2)] at h4
    exact R.sep j k xs ys l h1 h2 h3 h4
  stf := R.stf
  inv := R.inv
/-- a new list, owned by the slot -/
theorem Rp.setOwn {p : Addr} {vs : List V} {ds : List PyData} (R : Rp B F H σ ρ n) (hp : H p = none) (hl : vs.length ≤ sizeLine) (hv : FzAll F vs ds) : Rp B F (upd H p (.lst vs)) (σ.set i (some (.ref p))) (ρ.set i (some (.own ds))) n := by
  have st : Stp [] F H F (upd H p (.lst vs)) := Stp.newH R.step.s hp
  have R1 := R.go st
  have psa : p ∉ B.S.sa := fun hm => B.S.has R.inv p hm hp
  have p0 : B.H0 p = none := by
    cases q : B.H0 p with
    | none => rfl
    | some o => exact absurd hp (R.step.h p (by rw [q]; simp))
  have pF : F p = none := by
    cases q : F p with
    | none => rfl
    | some o => rw [R.step.s p o q] at hp; cases hp
  have old : ∀ (j : Nat) (xs : List PyData) (l : Addr), ρ[j]? = some (some (.own xs)) → σ[j]? = some (some (.ref l)) → l ≠ p := fun j xs l h1 h2 e => by
    obtain ⟨w, h3, l', vs', e1, _, _, _, e5, _⟩ := R.slot j _ h1
    rw [h2] at h3
    cases h3
    cases e1
    rw [e, hp] at e5
    cases e5
  refine ⟨by rw [List.length_set, List.length_set]; exact R.len, R1.step, fun j e h => ?_, fun j k xs ys l h1 h2 h3 h4 => ?_, R1.stf, R1.inv⟩
  · rcases get_set h with ⟨rfl, hl', e1⟩ | ⟨hne, h1⟩
    · cases e1
      exact ⟨.ref p, List.getElem?_set_self (by rw [← R.len]; exact hl'), p, vs, rfl, psa, p0, pF, upd_same, hl, hv⟩
    · obtain ⟨w, h2, h3⟩ := R1.slot j e h1
      exact ⟨w, by rw [List.getElem?_set_ne (Ne.symm hne)]; exact h2, h3⟩
  · rcases get_set h1 with ⟨rfl, hl1, e1⟩ | ⟨hne, g1⟩
    · rcases get_set h2 with ⟨rfl, _, e2⟩ | ⟨hne2, g2⟩
      · rfl
      · rw [List.getElem?_set_self (by rw [← R.len]; exact hl1)] at h3
        rw [List.getElem?_set_ne (Ne.symm hne2)] at h4
        cases h3
        exact absurd rfl (old k ys p g2 h4)
    · rw [List.getElem?_set_ne (Ne.symm hne)] at h3
      rcases get_set h2 with ⟨rfl, hl2, e2⟩ | ⟨hne2, g2⟩
      · rw [List.getElem?_set_self (by rw [← R.len]; exact hl2)] at h4
        cases h4
        exact absurd rfl (old j xs p g1 h3)
      · rw [List.getElem?_set_ne (Ne.symm hne2)] at h4
        exact R.sep j k xs ys l g1 g2 h3 h4
/-- an owned list changes -/
theorem Rp.mut {l : Addr} {xs ds : List PyData} {vs : List V} (R : Rp B F H σ ρ n) (hi : ρ[i]? = some (some (.own xs))) (hl : σ[i]? = some (some (.ref l))) (hz : vs.length ≤ sizeLine) (hv : FzAll F vs ds) : Rp B F (upd H l (.lst vs)) σ (ρ.set i (some (.own ds))) n := by
  obtain ⟨w, h1, l', ws, rfl, e2, e3, e4, e5, e6, e7⟩ := R.slot i _ hi
  rw [hl] at h1
  cases h1
  have keep : ∀ a o, a ≠ l → H a = some o → upd H l (.lst vs) a = some o := fun a o hne e => by rw [upd_ne hne]; exact e
  refine ⟨by rw [List.length_set]; exact R.len, ⟨R.step.f, fun a o e => ?_, fun a o ha e => ?_, fun a e => ?_, R.step.n⟩, fun j e h => ?_, fun j k as bs c h1 h2 h3 h4 => ?_, R.stf, B.S.loc (fun a ha o e => keep a o (fun q => by subst q; exact e2 ha) e) R.inv⟩
  · exact keep a o (fun q => by rw [q, e4] at e; cases e) (R.step.s a o e)
  · exact keep a o (fun q => by rw [q, e3] at e; cases e) (R.step.k a o ha e)
  · by_cases q : a = l
    · rw [q, upd_same]; simp
    · rw [upd_ne q]; exact R.step.h a e
  · rcases get_set h with ⟨rfl, hl', e1⟩ | ⟨hne, h1⟩
    · cases e1
      exact ⟨.ref l, hl, l, vs, rfl, e2, e3, e4, upd_same, hz, hv⟩
    · obtain ⟨w, h2, h3⟩ := R.slot j e h1
      refine ⟨w, h2, ?_⟩
      cases e with
      | d x => exact h3
      | st => exact h3
      | own ys =>
        obtain ⟨l2, ws2, rfl, f2, f3, f4, f5, f6, f7⟩ := h3
        refine ⟨l2, ws2, rfl, f2, f3, f4, keep _ _ (fun q => ?_) f5, f6, f7⟩
        subst q
        exact hne (R.sep j i ys xs _ h1 hi h2 hl)
  · have get_own : ∀ (j : Nat) (zs : List PyData), (ρ.set i (some (.own ds)))[j]? = some (some (.own zs)) → ∃ zs', ρ[j]? = some (some (.own zs')) := fun j zs h => by
      rcases get_set h with ⟨rfl, _, _⟩ | ⟨_, h⟩
      · exact ⟨xs, hi⟩
      · exact ⟨zs, h⟩
    obtain ⟨_, h1⟩ := get_own j _ h1
    obtain ⟨_, h2⟩ := get_own k _ h2
    exact R.sep j k _ _ c h1 h2 h3 h4
/-- an owned list is frozen -/
theorem Rp.freeze {xs : List PyData} (R : Rp B F H σ ρ n) (hi : ρ[i]? = some (some (.own xs))) : ∃ F', Same F F' ∧ Rp B F' H σ (ρ.set i (some (.d (.list xs)))) n := by
  obtain ⟨w, hl, l, vs, rfl, e2, e3, e4, e5, e6, e7⟩ := R.slot i _ hi
  have fF : Same F (upd F l (.lst vs)) := fun a o e => by rw [upd_ne (fun q => by rw [q, e4] at e; cases e)]; exact e
  refine ⟨upd F l (.lst vs), fF, ?_⟩
  refine ⟨by rw [List.length_set]; exact R.len, ⟨R.step.f.trans fF, fun a o e => ?_, R.step.k, R.step.h, fun a e => ?_⟩, fun j e h => ?_, fun j k as bs c h1 h2 h3 h4 => ?_, fun a ha => ?_, R.inv⟩
  · by_cases q : a = l
    · subst q; rw [upd_same] at e; cases e; exact e5
    · rw [upd_ne q] at e; exact R.step.s a o e
  · by_cases q : a = l
    · rw [q]; exact .inr e3
    · rw [upd_ne q] at e; exact R.step.n a e
  · rcases get_set h with ⟨rfl, hl', e1⟩ | ⟨hne, h1⟩
    · cases e1
      exact ⟨.ref l, hl, .lst upd_same e6 (FzAll.mono fF _ _ e7)⟩
    · obtain ⟨w, h2, h3⟩ := R.slot j e h1
      refine ⟨w, h2, ?_⟩
      cases e with
      | d x => exact Fz.mono fF _ _ h3
      | st => exact h3
      | own ys =>
        obtain ⟨l2, ws2, rfl, f2, f3, f4, f5, f6, f7⟩ := h3
        refine ⟨l2, ws2, rfl, f2, f3, ?_, f5, f6, FzAll.mono fF _ _ f7⟩
        rw [upd_ne (fun q => by subst q; exact hne (R.sep j i ys xs _ h1 hi h2 hl))]
        exact f4
  · rcases get_set h1 with ⟨_, _, e1⟩ | ⟨_, h1⟩
    · cases e1
    rcases get_set h2 with ⟨_, _, e1⟩ | ⟨_, h2⟩
    · cases e1
    exact R.sep j k as bs c h1 h2 h3 h4
  · rw [upd_ne (fun q => by subst q; exact e2 ha)]
    exact R.stf a ha
end

/-! ### statements -/
structure DEnds where
  nx : Sl → Nat → Prop
  rt : PyData → Nat → Prop
abbrev TSD := DEnds → Sl → Nat → Prop
structure DLe (E E' : DEnds) : Prop where
  nx : ∀ ρ n, E.nx ρ n → E'.nx ρ n
  rt : ∀ d n, E.rt d n → E'.rt d n
structure EndOk (B : Bs) (Fs : Hp) (E : DEnds) (D : Ends) : Prop where
  nx : ∀ F H σ ρ n, Same Fs F → Rp B F H σ ρ n → E.nx ρ n → D.nx σ H
  rt : ∀ F H v d n, Stp B.S.sa B.F0 B.H0 F H → B.S.inv H n → Fz F v d → E.rt d n → D.rt v H
theorem EndOk.up {B : Bs} {Fs F : Hp} {E : DEnds} {D : Ends} (h : EndOk B Fs E D) (s : Same Fs F) : EndOk B F E D := ⟨fun F1 H1 σ ρ n s1 R z => h.nx F1 H1 σ ρ n (s.trans s1) R z, h.rt⟩
def liftS (B : Bs) (t : TSD) : TS := fun D σ H => ∃ E F ρ n, Rp B F H σ ρ n ∧ EndOk B F E D ∧ t E ρ n
structure DS (X : Cx) (B : Bs) (st : Stmt) (t : TSD) : Prop where
  ps : PS X st (liftS B t)
  mono : ∀ {E E' : DEnds} {ρ n}, DLe E E' → t E ρ n → t E' ρ n
structure DSs (X : Cx) (B : Bs) (st : List Stmt) (t : TSD) : Prop where
  ps : PSs X st (liftS B t)
  mono : ∀ {E E' : DEnds} {ρ n}, DLe E E' → t E ρ n → t E' ρ n
theorem DLe.refl (E : DEnds) : DLe E E := ⟨fun _ _ h => h, fun _ _ h => h⟩
section
variable {X : Cx} {B : Bs} {st : Stmt} {rest : List Stmt} {t u : TSD} {e : Expr} {te : TD} {pos : Pos}
theorem ps_wk {te te' : TS} (h : PS X st te) (w : ∀ D σ H, te' D σ H → te D σ H) : PS X st te' := ⟨fun pins s σ H D I q => h.run pins s σ H D I (w D σ H q)⟩
theorem pss_wk {te te' : TS} (h : PSs X rest te) (w : ∀ D σ H, te' D σ H → te D σ H) : PSs X rest te' := ⟨fun pins s σ H D I q => h.run pins s σ H D I (w D σ H q)⟩
theorem DS.imp {t' : TSD} (h : DS X B st t) (w : ∀ E ρ n, t' E ρ n → t E ρ n) (mo : ∀ {E E' : DEnds} {ρ n}, DLe E E' → t' E ρ n → t' E' ρ n) : DS X B st t' :=
  ⟨ps_wk h.ps fun D σ H ⟨E, F, ρ, n, R, ok, q⟩ => ⟨E, F, ρ, n, R, ok, w _ _ _ q⟩, mo⟩
theorem DSs.imp {t' : TSD} (h : DSs X B rest t) (w : ∀ E ρ n, t' E ρ n → t E ρ n) (mo : ∀ {E E' : DEnds} {ρ n}, DLe E E' → t' E ρ n → t' E' ρ n) : DSs X B rest t' :=
  ⟨pss_wk h.ps fun D σ H ⟨E, F, ρ, n, R, ok, q⟩ => ⟨E, F, ρ, n, R, ok, w _ _ _ q⟩, mo⟩
def dNext : TSD := fun E ρ n => E.nx ρ n
def dSeq (t u : TSD) : TSD := fun E ρ n => t ⟨fun ρ' m => u E ρ' m, E.rt⟩ ρ n
theorem dss_nil : DSs X B [] dNext := ⟨pss_wk pss_nil fun D σ H ⟨E, F, ρ, n, R, ok, q⟩ => ok.nx F H σ ρ n (Same.refl F) R q, fun h q => h.nx _ _ q⟩
theorem dss_cons (h1 : DS X B st t) (h2 : DSs X B rest u) : DSs X B (st :: rest) (dSeq t u) := by
  refine ⟨pss_wk (pss_cons h1.ps h2.ps) fun D σ H ⟨E, F, ρ, n, R, ok, q⟩ => ?_, fun {E E' ρ n} h q => h1.mono (E := ⟨fun ρ' m => u E ρ' m, E.rt⟩) (E' := ⟨fun ρ' m => u E' ρ' m, E'.rt⟩) ⟨fun ρ m z => h2.mono h z, h.rt⟩ q⟩
  exact ⟨⟨fun ρ' m => u E ρ' m, E.rt⟩, F, ρ, n, R, ⟨fun F1 H1 σ1 ρ1 m s1 R1 z => ⟨E, F1, ρ1, m, R1, ok.up s1, z⟩, ok.rt⟩, q⟩
theorem dss_one (h1 : DS X B st t) : DSs X B [st] t := ⟨pss_one h1.ps, h1.mono⟩
/-- an owned list is read from here on -/
def dFrz (i : Nat) (t : TSD) : TSD := fun E ρ n => ∃ xs, ρ[i]? = some (some (.own xs)) ∧ t E (ρ.set i (some (.d (.list xs)))) n
theorem dss_frz {i : Nat} (h : DSs X B rest t) : DSs X B rest (dFrz i t) := by
  refine ⟨pss_wk h.ps fun D σ H ⟨E, F, ρ, n, R, ok, xs, hx, q⟩ => ?_, fun h1 ⟨xs, hx, q⟩ => ⟨xs, hx, h.mono h1 q⟩⟩
  obtain ⟨F', fF, R'⟩ := R.freeze hx
  exact ⟨E, F', _, n, R', ok.up fF, q⟩
def dNever : TSD := fun _ _ _ => False
theorem ds_never : DS X B st dNever := ⟨ps_wk ps_never fun D σ H ⟨E, F, ρ, n, R, ok, q⟩ => q, fun _ q => q⟩
def dDrop (te : TD) : TSD := fun E ρ n => te ρ n fun _ m => E.nx ρ m
theorem ds_expr (he : DE X B e te) (hs : swapsWith e none pos.line X.env = pure false := by rfl) : DS X B (.Expr e pos) (dDrop te) := by
  refine ⟨ps_wk (ps_expr he.pe hs) fun D σ H ⟨E, F, ρ, n, R, ok, q⟩ => ⟨F, ρ, n, R, he.mono (fun d m z F1 H1 v st iv hv => ok.nx _ _ _ _ _ st.f (R.goS st iv) z) q⟩, fun h q => he.mono (fun d m z => h.nx _ _ z) q⟩
def dRet (te : TD) : TSD := fun E ρ n => te ρ n fun d m => E.rt d m
theorem ds_ret (he : DE X B e te) : DS X B (.Return (some e) pos) (dRet te) := by
  refine ⟨ps_wk (ps_ret he.pe) fun D σ H ⟨E, F, ρ, n, R, ok, q⟩ => ⟨F, ρ, n, R, he.mono (fun d m z F1 H1 v st iv hv => ok.rt _ _ _ _ _ (R.step.trans st) iv hv z) q⟩, fun h q => he.mono (fun d m z => h.rt _ _ z) q⟩
def dIf (c : TDT) (t u : TSD) : TSD := fun E ρ n => c ρ n fun b m => if b = true then t E ρ m else u E ρ m
theorem ds_if {c : Expr} {tc : TDT} {a b : List Stmt} (hc : DT X B c tc) (ha : DSs X B a t) (hb : DSs X B b u) : DS X B (.If c a b pos) (dIf tc t u) := by
  refine ⟨ps_wk (ps_if hc.pt ha.ps hb.ps) fun D σ H ⟨E, F, ρ, n, R, ok, q⟩ => ⟨F, ρ, n, R, hc.mono (fun d m z F1 H1 st iv => ?_) q⟩, fun h q => hc.mono (fun d m z => ite_mono (fun y => ha.mono h y) (fun y => hb.mono h y) z) q⟩
  exact ite_mono (fun y => ⟨E, F1, ρ, m, R.goS st iv, ok.up st.f, y⟩) (fun y => ⟨E, F1, ρ, m, R.goS st iv, ok.up st.f, y⟩) z
/-! name = e -/
def dSet (i : Nat) (te : TD) : TSD := fun E ρ n => te ρ n fun d m => E.nx (ρ.set i (some (.d d))) m
theorem dSet_op {i : Nat} {D : Ends} {σ : L2.St} {H : Hp} {a : Expr} (he : DE X B a te) (h : liftS B (dSet i te) D σ H) : tAsg (liftE B te) (gName i) D σ H := by
  obtain ⟨E, F, ρ, n, R, ok, q⟩ := h
  exact ⟨F, ρ, n, R, he.mono (fun d m z F1 H1 v st iv hv => ok.nx _ _ _ _ _ st.f ((R.goS st iv).set hv) z) q⟩
theorem dSet_mono {i : Nat} {a : Expr} (he : DE X B a te) {E E' : DEnds} {ρ : Sl} {n : Nat} (h : DLe E E') (q : dSet i te E ρ n) : dSet i te E' ρ n := he.mono (fun d m z => h.nx _ _ z) q
theorem ds_set (i : Nat) {x : Str} {pos' : Pos} (hN : X.N.Nodup) (hi : X.N[i]? = some x) (hx : Loc X.env.scope x) (he : DE X B e te) (hs : swapsWith e (some (.Name x pos')) pos.line X.env = pure false := by rfl)
    (hf : X.fn x = true ∨ X.env.scope.names.lookup x = some .local := by first | exact .inl rfl | exact .inr rfl | assumption) : DS X B (.Assign [.Name x pos'] e pos) (dSet i te) :=
  ⟨ps_wk (ps_set hN hi hx he.pe hs hf) fun D σ H h => dSet_op he h, fun h q => dSet_mono he h q⟩
/-- name = [..], owned -/
def dSetOwn (i : Nat) (ta : TDA) : TSD := fun E ρ n => ta ρ n fun ds m => ds.length ≤ 1000000 ∧ E.nx (ρ.set i (some (.own ds))) m
theorem ds_setOwn (i : Nat) {x : Str} {pos' pl : Pos} {es : List Expr} {ta : TDA} (hN : X.N.Nodup) (hi : X.N[i]? = some x) (hx : Loc X.env.scope x) (ha : DA X B es ta) (hs : swapsWith (.List es pl) (some (.Name x pos')) pos.line X.env = pure false := by rfl)
    (hf : X.fn x = true ∨ X.env.scope.names.lookup x = some .local := by first | exact .inl rfl | exact .inr rfl | assumption) : DS X B (.Assign [.Name x pos'] (.List es pl) pos) (dSetOwn i ta) := by
  refine ⟨ps_wk (ps_set hN hi hx (pe_lst ha.pa) hs hf) fun D σ H ⟨E, F, ρ, n, R, ok, q⟩ => ⟨F, ρ, n, R, ha.mono (fun ds m ⟨hl, z⟩ F1 H1 vs st iv hv => ?_) q⟩, fun h q => ha.mono (fun d m ⟨hl, z⟩ => ⟨hl, h.nx _ _ z⟩) q⟩
  have hl' : vs.length ≤ sizeLine := by rw [hv.length]; exact mil hl
  exact ⟨hl', fun p hp => ok.nx _ _ _ _ _ st.f ((R.goS st iv).setOwn hp hl' hv) z⟩
/-- name = list + list, owned -/
def dSetCat (i : Nat) (ta tb : TD) : TSD := fun E ρ n => ta ρ n fun x m => tb ρ m fun y k => ∃ xs ys, x = .list xs ∧ y = .list ys ∧ xs.length + ys.length ≤ 1000000 ∧ E.nx (ρ.set i (some (.own (xs ++ ys)))) k
theorem ds_setCat (i : Nat) {x : Str} {pos' pb : Pos} {a b : Expr} {ta tb : TD} (hN : X.N.Nodup) (hi : X.N[i]? = some x) (hx : Loc X.env.scope x) (ha : DE X B a ta) (hb : DE X B b tb) (hs : swapsWith (.BinOp a .Add b pb) (some (.Name x pos')) pos.line X.env = pure false := by rfl)
    (hf : X.fn x = true ∨ X.env.scope.names.lookup x = some .local := by first | exact .inl rfl | exact .inr rfl | assumption) : DS X B (.Assign [.Name x pos'] (.BinOp a .Add b pb) pos) (dSetCat i ta tb) := by
  refine ⟨ps_wk (ps_set hN hi hx (pe_op op_cat ha.pe hb.pe) hs hf) fun D σ H ⟨E, F, ρ, n, R, ok, q⟩ => ⟨F, ρ, n, R, ha.mono (fun x m q1 F1 H1 v st iv hv => ?_) q⟩, fun h q => ha.mono (fun x m q1 => hb.mono (fun y k ⟨xs, ys, e1, e2, e3, z⟩ => ⟨xs, ys, e1, e2, e3, h.nx _ _ z⟩) q1) q⟩
  have R1 := R.goS st iv
  refine ⟨F1, ρ, m, R1, hb.mono (fun y k q2 F2 H2 w st2 iv2 hw => ?_) q1⟩
  obtain ⟨xs, ys, rfl, rfl, hz, z⟩ := q2
  obtain ⟨a1, vs, rfl, h1, z1, f1⟩ := (Fz.mono st2.f _ _ hv).lst_inv
  obtain ⟨a2, ws, rfl, h2, z2, f2⟩ := hw.lst_inv
  have hl : vs.length + ws.length ≤ sizeLine := by rw [f1.length, f2.length]; exact mil hz
  exact ⟨a1, a2, vs, ws, rfl, rfl, st2.s _ _ h1, st2.s _ _ h2, hl, fun p hp => ok.nx _ _ _ _ _ (st.f.trans st2.f) ((R1.goS st2 iv2).setOwn hp (by rw [List.length_append]; exact hl) (f1.app f2)) z⟩
/-! x.append(e), x.extend(e), x.insert(i, e) of an owned list -/
def dApp (i : Nat) (te : TD) : TSD := fun E ρ n => ∃ xs, ρ[i]? = some (some (.own xs)) ∧ te ρ n fun d m => xs.length < 1000000 ∧ E.nx (ρ.set i (some (.own (xs ++ [d])))) m
theorem own_ty {F H : Hp} {σ : L2.St} {ρ : Sl} {n i : Nat} {xs : List PyData} (R : Rp B F H σ ρ n) (hx : ρ[i]? = some (some (.own xs))) : ∃ l vs, σ[i]? = some (some (.ref l)) ∧ H l = some (.lst vs) ∧ FzAll F vs xs ∧ tyV X.K "list" (.ref l) H := by
  obtain ⟨w, hl, l, vs, rfl, e2, e3, e4, e5, e6, e7⟩ := R.slot i _ hx
  exact ⟨l, vs, hl, e5, e7, Or.inl ⟨rfl, _, Or.inl (Or.inl e5)⟩⟩
theorem ds_app (i : Nat) {x : Str} {pn ap cp : Pos} (hv : PE X (.Name x pn) (tVar i)) (he : DE X B e te) (hbase : attributeBase (.Name x pn) "append" X.env (eval (.Name x pn) X.env) = eval (.Name x pn) X.env := by rfl)
    (hfew : ((backTo cp (starEach [e] X.env)).all (fun x => !x.1) && (backToKw cp (keywordEach [] X.env)).all (fun x => x.1.isSome) && decide ([e].length + ([] : List Keyword).length + (if ([] : List Keyword).isEmpty then 0 else 1) < 30)) = true := by rfl)
    (hline : (ap.endLine == cp.line) = true := by rfl) (hs : starEach [e] X.env = (false, eval e X.env) :: starEach [] X.env := by rfl) (hsw : swapsWith (.Call (.Attribute (.Name x pn) "append" ap) [e] [] cp) none pos.line X.env = pure false := by rfl) :
    DS X B (.Expr (.Call (.Attribute (.Name x pn) "append" ap) [e] [] cp) pos) (dApp i te) := by
  refine ⟨ps_wk (ps_expr (pe_bm PySem.F.plainAttrs_list PySem.F.slot_list_append PySem.F.type_list_append mt_append hv (pa_cons he.pe pa_nil hs) hbase hfew hline hs rfl) hsw) fun D σ H ⟨E, F, ρ, n, R, ok, xs, hx, q⟩ => ?_,
    fun h ⟨xs, hx, q⟩ => ⟨xs, hx, he.mono (fun d m ⟨hl, z⟩ => ⟨hl, h.nx _ _ z⟩) q⟩⟩
  obtain ⟨l, vs, hσ, hH, hf, ty⟩ := own_ty (X := X) R hx
  refine ⟨_, hσ, ty, F, ρ, n, R, he.mono (fun d m ⟨hl, z⟩ F1 H1 v st iv hv => ?_) q⟩
  have R1 := R.goS st iv
  obtain ⟨l', vs', hσ', hH', hf', _⟩ := own_ty (X := X) R1 hx
  rw [hσ] at hσ'
  cases hσ'
  have hlen := hf'.length
  refine ⟨l, vs', v, rfl, rfl, hH', mil' (by omega), ok.nx _ _ _ _ _ st.f (R1.mut hx hσ ?_ (hf'.app (.cons hv .nil))) z⟩
  rw [List.length_append, List.length_singleton]
  exact mil (by omega)
def dExt (i : Nat) (te : TD) : TSD := fun E ρ n => ∃ xs, ρ[i]? = some (some (.own xs)) ∧ te ρ n fun d m => ∃ ys, d = .list ys ∧ xs.length + ys.length ≤ 1000000 ∧ E.nx (ρ.set i (some (.own (xs ++ ys)))) m
theorem ds_ext (i : Nat) {x : Str} {pn ap cp : Pos} (hv : PE X (.Name x pn) (tVar i)) (he : DE X B e te) (hbase : attributeBase (.Name x pn) "extend" X.env (eval (.Name x pn) X.env) = eval (.Name x pn) X.env := by rfl)
    (hfew : ((backTo cp (starEach [e] X.env)).all (fun x => !x.1) && (backToKw cp (keywordEach [] X.env)).all (fun x => x.1.isSome) && decide ([e].length + ([] : List Keyword).length + (if ([] : List Keyword).isEmpty then 0 else 1) < 30)) = true := by rfl)
    (hline : (ap.endLine == cp.line) = true := by rfl) (hs : starEach [e] X.env = (false, eval e X.env) :: starEach [] X.env := by rfl) (hsw : swapsWith (.Call (.Attribute (.Name x pn) "extend" ap) [e] [] cp) none pos.line X.env = pure false := by rfl) :
    DS X B (.Expr (.Call (.Attribute (.Name x pn) "extend" ap) [e] [] cp) pos) (dExt i te) := by
  refine ⟨ps_wk (ps_expr (pe_bm PySem.F.plainAttrs_list PySem.F.slot_list_extend PySem.F.type_list_extend mt_extend hv (pa_cons he.pe pa_nil hs) hbase hfew hline hs rfl) hsw) fun D σ H ⟨E, F, ρ, n, R, ok, xs, hx, q⟩ => ?_,
    fun h ⟨xs, hx, q⟩ => ⟨xs, hx, he.mono (fun d m ⟨ys, e1, hl, z⟩ => ⟨ys, e1, hl, h.nx _ _ z⟩) q⟩⟩
  obtain ⟨l, vs, hσ, hH, hf, ty⟩ := own_ty (X := X) R hx
  refine ⟨_, hσ, ty, F, ρ, n, R, he.mono (fun d m ⟨ys, e1, hl, z⟩ F1 H1 v st iv hv => ?_) q⟩
  subst e1
  have R1 := R.goS st iv
  obtain ⟨l', vs', hσ', hH', hf', _⟩ := own_ty (X := X) R1 hx
  rw [hσ] at hσ'
  cases hσ'
  obtain ⟨b, ws, rfl, hb, zb, fb⟩ := hv.lst_inv
  have h1 := hf'.length
  have h2 := fb.length
  have hl' : vs'.length + ws.length ≤ sizeLine := mil (by omega)
  exact ⟨l, b, vs', ws, rfl, rfl, hH', st.s _ _ hb, hl', ok.nx _ _ _ _ _ st.f (R1.mut hx hσ (by rw [List.length_append]; exact hl') (hf'.app fb)) z⟩
def dIns (i : Nat) (ta tb : TD) : TSD := fun E ρ n => ∃ xs, ρ[i]? = some (some (.own xs)) ∧ ta ρ n fun x m => tb ρ m fun y k => ∃ j : Nat, x = .int (j : Int) ∧ j ≤ 1000000 ∧ xs.length < 1000000 ∧ E.nx (ρ.set i (some (.own (xs.take j ++ [y] ++ xs.drop j)))) k
theorem ds_ins (i : Nat) {x : Str} {a b : Expr} {ta tb : TD} {pn ap cp : Pos} (hv : PE X (.Name x pn) (tVar i)) (ha : DE X B a ta) (hb : DE X B b tb) (hbase : attributeBase (.Name x pn) "insert" X.env (eval (.Name x pn) X.env) = eval (.Name x pn) X.env := by rfl)
    (hfew : ((backTo cp (starEach [a, b] X.env)).all (fun x => !x.1) && (backToKw cp (keywordEach [] X.env)).all (fun x => x.1.isSome) && decide ([a, b].length + ([] : List Keyword).length + (if ([] : List Keyword).isEmpty then 0 else 1) < 30)) = true := by rfl)
    (hline : (ap.endLine == cp.line) = true := by rfl) (hs : starEach [a, b] X.env = (false, eval a X.env) :: starEach [b] X.env := by rfl) (hs2 : starEach [b] X.env = (false, eval b X.env) :: starEach [] X.env := by rfl) (hpl : (backTo cp (starEach [b] X.env)).any (·.1) = false := by rfl)
    (hsw : swapsWith (.Call (.Attribute (.Name x pn) "insert" ap) [a, b] [] cp) none pos.line X.env = pure false := by rfl) :
    DS X B (.Expr (.Call (.Attribute (.Name x pn) "insert" ap) [a, b] [] cp) pos) (dIns i ta tb) := by
  refine ⟨ps_wk (ps_expr (pe_bm PySem.F.plainAttrs_list PySem.F.slot_list_insert PySem.F.type_list_insert mt_insert hv (pa_cons ha.pe (pa_cons hb.pe pa_nil hs2) hs) hbase hfew hline hs hpl) hsw) fun D σ H ⟨E, F, ρ, n, R, ok, xs, hx, q⟩ => ?_,
    fun h ⟨xs, hx, q⟩ => ⟨xs, hx, ha.mono (fun x m q1 => hb.mono (fun y k ⟨j, e1, h1, h2, z⟩ => ⟨j, e1, h1, h2, h.nx _ _ z⟩) q1) q⟩⟩
  obtain ⟨l, vs, hσ, hH, hf, ty⟩ := own_ty (X := X) R hx
  refine ⟨_, hσ, ty, F, ρ, n, R, ha.mono (fun x m q1 F1 H1 v st iv hv => ?_) q⟩
  have R1 := R.goS st iv
  refine ⟨F1, ρ, m, R1, hb.mono (fun y k q2 F2 H2 w st2 iv2 hw => ?_) q1⟩
  obtain ⟨j, rfl, hj, hl, z⟩ := q2
  have R2 := R1.goS st2 iv2
  obtain ⟨l', vs', hσ', hH', hf', _⟩ := own_ty (X := X) R2 hx
  rw [hσ] at hσ'
  cases hσ'
  have h1 := hf'.length
  refine ⟨l, vs', _, w, rfl, by rw [hv.int_inv], hH', mil' (by omega), by omega, by omega, ?_⟩
  rw [Int.toNat_natCast]
  refine ok.nx _ _ _ _ _ (st.f.trans st2.f) (R2.mut hx hσ ?_ (((hf'.tk j).app (.cons hw .nil)).app (hf'.dr j))) z
  rw [List.length_append, List.length_append, List.length_take, List.length_drop, List.length_singleton]
  exact mil (by omega)
end

/-! ### targets -/
inductive Pt where
  | nm (i : Nat)
  | pr (i j : Nat)
  | tr (i j l : Nat)
def gOf (K : PySem.W.Frag) : Pt → TG
  | .nm i => gName i
  | .pr i j => gTup K 2 (gCons (gName i) (gCons (gName j) gNil))
  | .tr i j l => gTup K 3 (gCons (gName i) (gCons (gName j) (gCons (gName l) gNil)))
def bindP : Pt → PyData → Sl → Option Sl
  | .nm i, d, ρ => some (ρ.set i (some (.d d)))
  | .pr i j, .tuple [x, y], ρ => some ((ρ.set i (some (.d x))).set j (some (.d y)))
  | .tr i j l, .tuple [x, y, z], ρ => some (((ρ.set i (some (.d x))).set j (some (.d y))).set l (some (.d z)))
  | _, _, _ => none
/-- the slots that a target stores -/
def Pt.ix : Pt → List Nat
  | .nm i => [i]
  | .pr i j => [i, j]
  | .tr i j l => [i, j, l]
theorem bind_ok {B : Bs} {K : PySem.W.Frag} {P : Pt} {F H : Hp} {σ : L2.St} {ρ ρ' : Sl} {v : V} {d : PyData} {Q : L2.St → Hp → Prop} (s : Same F H) (hv : Fz F v d) (h : bindP P d ρ = some ρ')
    (q : ∀ σ', (∀ F' H' n', Same F F' → Rp B F' H' σ ρ n' → Rp B F' H' σ' ρ' n') → (∀ vs : List Nat, (∀ i ∈ P.ix, i ∈ vs) → wipe σ' vs = wipe σ vs) → Q σ' H) (hw : ∀ (σ : L2.St) (vs : List Nat) (i : Nat) (x : Option V), i ∈ vs → wipe (σ.set i x) vs = wipe σ vs) : gOf K P v σ H Q := by
  cases P with
  | nm i =>
    cases h
    exact q _ (fun F' H' n' e R => R.set (Fz.mono e _ _ hv)) fun vs hs => hw σ vs i _ (hs i (by simp [Pt.ix]))
  | pr i j =>
    unfold bindP at h
    split at h
    · next heq => cases heq
    · next i' j' x y ρ2 heq =>
      cases heq
      cases h
      obtain ⟨a, ws, rfl, ha, za, fa⟩ := hv.tup_inv
      cases fa with
      | cons h1 t1 =>
        cases t1 with
        | cons h2 t2 =>
          cases t2
          refine ⟨a, _, rfl, SqT.of (s _ _ ha), rfl, _, _, rfl, _, _, rfl, rfl, q _ (fun F' H' n' e R => (R.set (Fz.mono e _ _ h1)).set (Fz.mono e _ _ h2)) fun vs hs => ?_⟩
          rw [hw _ vs j _ (hs j (by simp [Pt.ix])), hw _ vs i _ (hs i (by simp [Pt.ix]))]
    · contradiction
    · cases h
  | tr i j l =>
    unfold bindP at h
    split at h
    · next heq => cases heq
    · contradiction
    · next i' j' l' x y z ρ2 heq =>
      cases heq
      cases h
      obtain ⟨a, ws, rfl, ha, za, fa⟩ := hv.tup_inv
      cases fa with
      | cons h1 t1 =>
        cases t1 with
        | cons h2 t2 =>
          cases t2 with
          | cons h3 t3 =>
            cases t3
            refine ⟨a, _, rfl, SqT.of (s _ _ ha), rfl, _, _, rfl, _, _, rfl, _, _, rfl, rfl, q _ (fun F' H' n' e R => ((R.set (Fz.mono e _ _ h1)).set (Fz.mono e _ _ h2)).set (Fz.mono e _ _ h3)) fun vs hs => ?_⟩
            rw [hw _ vs l _ (hs l (by simp [Pt.ix])), hw _ vs j _ (hs j (by simp [Pt.ix])), hw _ vs i _ (hs i (by simp [Pt.ix]))]
    · cases h
theorem wipe_len (σ : L2.St) (vs : List Nat) : (wipe σ vs).length = σ.length := wipe_length σ vs
theorem wipe_get (σ : L2.St) : ∀ (vs : List Nat) (k : Nat), (wipe σ vs)[k]? = if k ∈ vs ∧ k < σ.length then some none else σ[k]?
  | [], k => by simp [wipe]
  | v :: vs, k => by
    unfold wipe
    have ih := wipe_get σ vs k
    by_cases e : k = v
    · subst e
      by_cases hl : k < σ.length
      · rw [List.getElem?_set_self (by rw [wipe_len]; exact hl)]
        simp [hl]
      · rw [List.getElem?_eq_none (by simp [wipe_len]; omega)]
        simp [hl]
    · rw [List.getElem?_set_ne (Ne.symm e), ih]
      simp [e]
theorem wipe_set (σ : L2.St) (vs : List Nat) (i : Nat) (x : Option V) (hi : i ∈ vs) : wipe (σ.set i x) vs = wipe σ vs := by
  apply List.ext_getElem?
  intro k
  rw [wipe_get, wipe_get, List.length_set]
  by_cases e : k = i
  · subst e
    by_cases hl : k < σ.length
    · simp [hi, hl]
    · rw [if_neg (by simp [hl]), if_neg (by simp [hl]), List.getElem?_eq_none (by simp; omega), List.getElem?_eq_none (by omega)]
  · rw [List.getElem?_set_ne (Ne.symm e)]
theorem wipe_wipe (σ : L2.St) (vs : List Nat) : wipe (wipe σ vs) vs = wipe σ vs := by
  apply List.ext_getElem?
  intro k
  rw [wipe_get, wipe_get, wipe_len]
  split <;> rfl
def wipeD (ρ : Sl) : List Nat → Sl
  | [] => ρ
  | v :: vs => (wipeD ρ vs).set v none
theorem Rp.wipe {B : Bs} {F H : Hp} {σ : L2.St} {ρ : Sl} {n : Nat} (R : Rp B F H σ ρ n) : ∀ vs : List Nat, Rp B F H (L2.wipe σ vs) (wipeD ρ vs) n
  | [] => R
  | v :: vs => (R.wipe vs).setN
section
variable {X : Cx} {B : Bs} {e tg : Expr} {te : TD} {pos : Pos}
/-- target = e -/
def dBind (P : Pt) (te : TD) : TSD := fun E ρ n => te ρ n fun d m => ∃ ρ', bindP P d ρ = some ρ' ∧ E.nx ρ' m
theorem ds_bind (P : Pt) (hg : PG X tg (gOf X.K P)) (he : DE X B e te) (hs : swapsWithSole [tg] e pos.line X.env = pure false := by rfl) (hw : swappedStores [tg] e X.env = pure none := by rfl) (h1 : (assignEach [tg] X.env).map (·.2) = [assign tg X.env] := by rfl) :
    DS X B (.Assign [tg] e pos) (dBind P te) := by
  refine ⟨ps_wk (ps_asg he.pe hg hs hw h1) fun D σ H ⟨E, F, ρ, n, R, ok, q⟩ => ⟨F, ρ, n, R, he.mono (fun d m ⟨ρ', hb, z⟩ F1 H1 v st iv hv => ?_) q⟩, fun h q => he.mono (fun d m ⟨ρ', hb, z⟩ => ⟨ρ', hb, h.nx _ _ z⟩) q⟩
  exact bind_ok (B := B) st.s hv hb (fun σ' sb _ => ok.nx _ _ _ _ _ st.f (sb _ _ _ (Same.refl _) (R.goS st iv)) z) wipe_set
theorem pg_pr {i j : Nat} {x y : Str} {px py pt : Pos} {k : Nat} (hc : X.calm = true) (h1 : PG X (.Name x px) (gName i)) (h2 : PG X (.Name y py) (gName j)) (hN : X.env.scope.kind = .function := by rfl)
    (a1 : (assignEach [.Name x px, .Name y py] X.env).map (·.2) = assign (.Name x px) X.env :: (assignEach [.Name y py] X.env).map (·.2) := by rfl) (a2 : (assignEach [.Name y py] X.env).map (·.2) = assign (.Name y py) X.env :: (assignEach [] X.env).map (·.2) := by rfl)
    (a3 : (assignEach [.Name x px, .Name y py] X.env).length = 2 := by rfl) (a4 : (assignEach [.Name x px, .Name y py] X.env).findIdx? (·.1) = none := by rfl) :
    PG X (.Tuple [.Name x px, .Name y py] k pt) (gOf X.K (.pr i j)) := pg_tup hc (pgs_cons h1 (pgs_cons h2 pgs_nil a2) a1) a3 a4
theorem pg_tr {i j l : Nat} {x y z : Str} {px py pz pt : Pos} {k : Nat} (hc : X.calm = true) (h1 : PG X (.Name x px) (gName i)) (h2 : PG X (.Name y py) (gName j)) (h3 : PG X (.Name z pz) (gName l))
    (a1 : (assignEach [.Name x px, .Name y py, .Name z pz] X.env).map (·.2) = assign (.Name x px) X.env :: (assignEach [.Name y py, .Name z pz] X.env).map (·.2) := by rfl) (a2 : (assignEach [.Name y py, .Name z pz] X.env).map (·.2) = assign (.Name y py) X.env :: (assignEach [.Name z pz] X.env).map (·.2) := by rfl)
    (a5 : (assignEach [.Name z pz] X.env).map (·.2) = assign (.Name z pz) X.env :: (assignEach [] X.env).map (·.2) := by rfl)
    (a3 : (assignEach [.Name x px, .Name y py, .Name z pz] X.env).length = 3 := by rfl) (a4 : (assignEach [.Name x px, .Name y py, .Name z pz] X.env).findIdx? (·.1) = none := by rfl) :
    PG X (.Tuple [.Name x px, .Name y py, .Name z pz] k pt) (gOf X.K (.tr i j l)) := pg_tup hc (pgs_cons h1 (pgs_cons h2 (pgs_cons h3 pgs_nil a5) a2) a1) a3 a4
/-! a, b = e1, e2 -/
def dPar (i j : Nat) (ta : TDA) : TSD := fun E ρ n => ta ρ n fun ds m => ∃ x y, ds = [x, y] ∧ E.nx ((ρ.set i (some (.d x))).set j (some (.d y))) m
theorem ds_par (i j : Nat) {x y : Str} {a b : Expr} {ta : TDA} {px py pt : Pos} {kt k2 pt2} (hc : X.calm = true) (hN : X.N.Nodup) (hi : X.N[i]? = some x) (hj : X.N[j]? = some y) (hij : i ≠ j)
    (hx : X.env.scope.names.lookup x = some .local) (hy : X.env.scope.names.lookup y = some .local) (ha : DA X B [a, b] ta)
    (hw : swappedStores [.Tuple [.Name x px, .Name y py] kt pt] (.Tuple [a, b] k2 pt2) X.env = pure (some [x, y])) (hs : swapsWithSole [.Tuple [.Name x px, .Name y py] kt pt] (.Tuple [a, b] k2 pt2) pos.line X.env = pure false := by rfl) :
    DS X B (.Assign [.Tuple [.Name x px, .Name y py] kt pt] (.Tuple [a, b] k2 pt2) pos) (dPar i j ta) := by
  refine ⟨ps_wk (ps_par hc hN hi hj hij hx hy ha.pa hw hs) fun D σ H ⟨E, F, ρ, n, R, ok, q⟩ => ⟨F, ρ, n, R, ha.mono (fun ds m ⟨x, y, e1, z⟩ F1 H1 vs st iv hv => ?_) q⟩, fun h q => ha.mono (fun ds m ⟨x, y, e1, z⟩ => ⟨x, y, e1, h.nx _ _ z⟩) q⟩
  subst e1
  cases hv with
  | cons h1 t1 =>
    cases t1 with
    | cons h2 t2 =>
      cases t2
      exact ⟨_, _, rfl, ok.nx _ _ _ _ _ st.f (((R.goS st iv).set h1).set h2) z⟩
/-- a, b = [], [] -/
def dParOO (i j : Nat) : TSD := fun E ρ n => E.nx ((ρ.set i (some (.own []))).set j (some (.own []))) n
theorem ds_parOO (i j : Nat) {x y : Str} {px py pt pl pl2 : Pos} {kt k2 pt2} (hc : X.calm = true) (hN : X.N.Nodup) (hi : X.N[i]? = some x) (hj : X.N[j]? = some y) (hij : i ≠ j)
    (hx : X.env.scope.names.lookup x = some .local) (hy : X.env.scope.names.lookup y = some .local)
    (hw : swappedStores [.Tuple [.Name x px, .Name y py] kt pt] (.Tuple [.List [] pl, .List [] pl2] k2 pt2) X.env = pure (some [x, y])) (hs : swapsWithSole [.Tuple [.Name x px, .Name y py] kt pt] (.Tuple [.List [] pl, .List [] pl2] k2 pt2) pos.line X.env = pure false := by rfl)
    (s1 : starEach [.List [] pl, .List [] pl2] X.env = (false, eval (.List [] pl) X.env) :: starEach [.List [] pl2] X.env := by rfl) (s2 : starEach [.List [] pl2] X.env = (false, eval (.List [] pl2) X.env) :: starEach [] X.env := by rfl) :
    DS X B (.Assign [.Tuple [.Name x px, .Name y py] kt pt] (.Tuple [.List [] pl, .List [] pl2] k2 pt2) pos) (dParOO i j) := by
  refine ⟨ps_wk (ps_par hc hN hi hj hij hx hy (pa_cons (pe_lst pa_nil) (pa_cons (pe_lst pa_nil) pa_nil s2) s1) hw hs) fun D σ H ⟨E, F, ρ, n, R, ok, q⟩ => ?_, fun h q => h.nx _ _ q⟩
  refine ⟨Nat.zero_le _, fun p hp => ⟨Nat.zero_le _, fun r hr => ⟨_, _, rfl, ok.nx _ _ _ _ _ (Same.refl _) ((R.setOwn hp (Nat.zero_le _) .nil).setOwn hr (Nat.zero_le _) .nil) q⟩⟩⟩
/-- a, b = [], e -/
def dParOD (i j : Nat) (te : TD) : TSD := fun E ρ n => te ρ n fun d m => E.nx ((ρ.set i (some (.own []))).set j (some (.d d))) m
theorem ds_parOD (i j : Nat) {x y : Str} {px py pt pl : Pos} {kt k2 pt2} {v : V} {d : PyData} (hc : X.calm = true) (hN : X.N.Nodup) (hi : X.N[i]? = some x) (hj : X.N[j]? = some y) (hij : i ≠ j)
    (hx : X.env.scope.names.lookup x = some .local) (hy : X.env.scope.names.lookup y = some .local) (he : PE X e (tC v)) (hd : ∀ F, Fz F v d)
    (hw : swappedStores [.Tuple [.Name x px, .Name y py] kt pt] (.Tuple [.List [] pl, e] k2 pt2) X.env = pure (some [x, y])) (hs : swapsWithSole [.Tuple [.Name x px, .Name y py] kt pt] (.Tuple [.List [] pl, e] k2 pt2) pos.line X.env = pure false := by rfl)
    (s1 : starEach [.List [] pl, e] X.env = (false, eval (.List [] pl) X.env) :: starEach [e] X.env := by rfl) (s2 : starEach [e] X.env = (false, eval e X.env) :: starEach [] X.env := by rfl) :
    DS X B (.Assign [.Tuple [.Name x px, .Name y py] kt pt] (.Tuple [.List [] pl, e] k2 pt2) pos) (dParOD i j (PD (fC d))) := by
  refine ⟨ps_wk (ps_par hc hN hi hj hij hx hy (pa_cons (pe_lst pa_nil) (pa_cons he pa_nil s2) s1) hw hs) fun D σ H ⟨E, F, ρ, n, R, ok, d', e', q⟩ => ?_, fun h ⟨d', e', q⟩ => ⟨d', e', h.nx _ _ q⟩⟩
  cases e'
  exact ⟨Nat.zero_le _, fun p hp => ⟨_, _, rfl, ok.nx _ _ _ _ _ (Same.refl _) ((R.setOwn hp (Nat.zero_le _) .nil).set (hd F)) q⟩⟩
/-- a, b, c = e1, e2, e3 -/
def dPar3 (i j l : Nat) (ta : TDA) : TSD := fun E ρ n => ta ρ n fun ds m => ∃ x y z, ds = [x, y, z] ∧ E.nx (((ρ.set i (some (.d x))).set j (some (.d y))).set l (some (.d z))) m
theorem ds_par3_of {i j l : Nat} {st : Stmt} {ta : TDA} {es : List Expr} (ha : DA X B es ta) (h : PS X st (tPar3 i j l (liftA B ta))) : DS X B st (dPar3 i j l ta) := by
  refine ⟨ps_wk h fun D σ H ⟨E, F, ρ, n, R, ok, q⟩ => ⟨F, ρ, n, R, ha.mono (fun ds m ⟨x, y, w, e1, z⟩ F1 H1 vs st iv hv => ?_) q⟩, fun h q => ha.mono (fun ds m ⟨x, y, w, e1, z⟩ => ⟨x, y, w, e1, h.nx _ _ z⟩) q⟩
  subst e1
  cases hv with
  | cons h1 t1 =>
    cases t1 with
    | cons h2 t2 =>
      cases t2 with
      | cons h3 t3 =>
        cases t3
        exact ⟨_, _, _, rfl, ok.nx _ _ _ _ _ st.f ((((R.goS st iv).set h1).set h2).set h3) z⟩
end

/-! ### what is walked -/
structure ItD (J : It) (F : Hp) (xs : List PyData) : Prop where
  small : xs.length ≤ sizeLine
  goes : ∀ F' H i, Same F F' → Same F' H → i < xs.length → J.go i H
  stops : ∀ F' H, Same F F' → Same F' H → J.stop xs.length H
  yields : ∀ F' H i x v H', Same F F' → Same F' H → xs[i]? = some x → J.yld i H v H' → ∃ F'', Stp [] F' H F'' H' ∧ Fz F'' v x
def liftI (B : Bs) (fi : Sl → Option (List PyData)) : TI := fun σ H R => ∃ F ρ n xs, Rp B F H σ ρ n ∧ fi ρ = some xs ∧ ∀ F' H' J, Stp B.S.sa F H F' H' → B.S.inv H' n → ItD J F' xs → R J H'
abbrev DI (X : Cx) (B : Bs) (tg iter : Expr) (fi : Sl → Option (List PyData)) : Prop := PI X tg iter (liftI B fi)
section
variable {X : Cx} {B : Bs} {e tg iter : Expr} {f : Sl → Option PyData}
theorem pi_wk {w w' : TI} (h : PI X tg iter w) (hw : ∀ σ H R, w' σ H R → w σ H R) : PI X tg iter w' := ⟨fun pins s σ H R I q => h.run pins s σ H R I (hw σ H R q)⟩
theorem pi_or {w w' : TI} (h : PI X tg iter w) (h' : PI X tg iter w') : PI X tg iter (fun σ H R => w σ H R ∨ w' σ H R) := ⟨fun pins s σ H R I q => q.elim (h.run pins s σ H R I) (h'.run pins s σ H R I)⟩
theorem itD_list {K : PySem.W.Frag} {F : Hp} {a : Addr} {vs : List V} {xs : List PyData} (ha : F a = some (.lst vs)) (hz : vs.length ≤ sizeLine) (hf : FzAll F vs xs) : ItD (Itl K a) F xs where
  small := by rw [← hf.length]; exact hz
  goes := fun F' H i s1 s2 hi => ⟨vs, vs[i]'(by rw [hf.length]; exact hi), SqL.of (s2 _ _ (s1 _ _ ha)), by simp⟩
  stops := fun F' H s1 s2 => ⟨vs, SqL.of (s2 _ _ (s1 _ _ ha)), by rw [hf.length]; exact Nat.le_refl _⟩
  yields := fun F' H i x v H' s1 s2 hx ⟨e, hy⟩ => by
    subst e
    obtain ⟨u, hu, fu⟩ := hf.get hx
    have := hy vs (SqL.of (s2 _ _ (s1 _ _ ha)))
    rw [hu] at this
    cases this
    exact ⟨F', Stp.refl s2, Fz.mono s1 _ _ fu⟩
theorem itD_tup {K : PySem.W.Frag} {F : Hp} {a : Addr} {vs : List V} {xs : List PyData} (ha : F a = some (.tup vs)) (hz : vs.length ≤ sizeLine) (hf : FzAll F vs xs) : ItD (Itt K a) F xs where
  small := by rw [← hf.length]; exact hz
  goes := fun F' H i s1 s2 hi => ⟨vs, vs[i]'(by rw [hf.length]; exact hi), SqT.of (s2 _ _ (s1 _ _ ha)), by simp⟩
  stops := fun F' H s1 s2 => ⟨vs, SqT.of (s2 _ _ (s1 _ _ ha)), by rw [hf.length]; exact Nat.le_refl _⟩
  yields := fun F' H i x v H' s1 s2 hx ⟨e, hy⟩ => by
    subst e
    obtain ⟨u, hu, fu⟩ := hf.get hx
    have := hy vs (SqT.of (s2 _ _ (s1 _ _ ha)))
    rw [hu] at this
    cases this
    exact ⟨F', Stp.refl s2, Fz.mono s1 _ _ fu⟩
def itemsOf : PyData → Option (List PyData)
  | .list xs => some xs
  | .tuple xs => some xs
  | _ => none
def fItems (f : Sl → Option PyData) : Sl → Option (List PyData) := fun ρ => (f ρ).bind itemsOf
theorem di_seq (he : DE X B e (PD f)) : DI X B tg e (fItems f) := by
  refine pi_wk (pi_or (pi_list he.pe) (pi_tup he.pe)) fun σ H R ⟨F, ρ, n, xs, Rp', ex, q⟩ => ?_
  obtain ⟨d, e1, e2⟩ := Option.bind_eq_some_iff.mp ex
  unfold itemsOf at e2
  split at e2
  · next ys =>
    cases e2
    refine .inl ⟨F, ρ, n, Rp', _, e1, fun F1 H1 v st iv hv => ?_⟩
    obtain ⟨a, vs, rfl, ha, za, fa⟩ := hv.lst_inv
    exact ⟨a, rfl, ⟨vs, SqL.of (st.s _ _ ha)⟩, q F1 H1 _ st iv (itD_list ha za fa)⟩
  · next ys =>
    cases e2
    refine .inr ⟨F, ρ, n, Rp', _, e1, fun F1 H1 v st iv hv => ?_⟩
    obtain ⟨a, vs, rfl, ha, za, fa⟩ := hv.tup_inv
    exact ⟨a, rfl, ⟨vs, SqT.of (st.s _ _ ha)⟩, q F1 H1 _ st iv (itD_tup ha za fa)⟩
  · cases e2
theorem itD_rng {F : Hp} {lo : Int} {n : Nat} (hn : n ≤ 1000000) : ItD (Itr lo n) F ((List.range n).map fun i => PyData.int (lo + (i : Nat))) where
  small := by rw [List.length_map, List.length_range]; exact mil hn
  goes := fun F' H i _ _ hi => by rw [List.length_map, List.length_range] at hi; exact hi
  stops := fun F' H _ _ => by rw [List.length_map, List.length_range]; exact Nat.le_refl _
  yields := fun F' H i x v H' _ s2 hx ⟨e, hy⟩ => by
    subst e
    rw [List.getElem?_map] at hx
    obtain ⟨j, h1, h2⟩ := Option.map_eq_some_iff.mp hx
    have : j = i := by
      obtain ⟨hl, he⟩ := List.getElem?_eq_some_iff.mp h1
      rw [List.getElem_range] at he
      exact he.symm
    subst this
    subst h2
    rw [hy]
    exact ⟨F', Stp.refl s2, .int _⟩
def fRange (f : Sl → Option PyData) : Sl → Option (List PyData) := fun ρ => (f ρ).bind fun x => match x with
  | .int hi => if okRg 0 hi then some (rngD 0 hi) else none
  | _ => none
theorem di_range {p pos : Pos} (hg : Gl X "range") (hm : X.mg "range" = none) (he : DE X B e (PD f)) (hs : starEach [e] X.env = [(false, eval e X.env)] := by rfl) : DI X B tg (.Call (.Name "range" p) [e] [] pos) (fRange f) := by
  refine pi_wk (pi_range1 hg hm (pa_cons he.pe pa_nil hs) hs) fun σ H R ⟨F, ρ, n, xs, Rp', ex, q⟩ => ?_
  obtain ⟨d, e1, e2⟩ := Option.bind_eq_some_iff.mp ex
  clear ex
  split at e2
  · next hi =>
    split at e2
    · next hk =>
      cases e2
      obtain ⟨_, h1, h2⟩ := okRg_ok hk
      refine ⟨F, ρ, n, Rp', _, e1, fun F1 H1 v st iv hv => ⟨hi, by rw [hv.int_inv], by omega, by omega, ?_⟩⟩
      have e3 : hi.toNat = (hi - 0).toNat := by omega
      rw [e3]
      exact q F1 H1 _ st iv (itD_rng (by omega))
    · cases e2
  · cases e2
end

/-! ### for -/
def dLoop (P : Pt) (tb : TSD) : List PyData → TSD
  | [] => fun E ρ n => E.nx ρ n
  | x :: xs => fun E ρ n => ∃ ρ1, bindP P x ρ = some ρ1 ∧ tb ⟨fun ρ2 m => dLoop P tb xs E ρ2 m, E.rt⟩ ρ1 n
def dFor (P : Pt) (fi : Sl → Option (List PyData)) (tb : TSD) : TSD := fun E ρ n => ∃ xs, fi ρ = some xs ∧ dLoop P tb xs E ρ n
section
variable {X : Cx} {B : Bs} {tg iter : Expr} {body : List Stmt} {fi : Sl → Option (List PyData)} {tb : TSD} {pos : Pos} {P : Pt}
theorem dLoop_mono (hb : DSs X B body tb) : ∀ (xs : List PyData) {E E' : DEnds} {ρ : Sl} {n : Nat}, DLe E E' → dLoop P tb xs E ρ n → dLoop P tb xs E' ρ n
  | [], _, _, _, _, h, q => h.nx _ _ q
  | x :: xs, E, E', _, _, h, ⟨ρ1, e, q⟩ => ⟨ρ1, e, hb.mono (E := ⟨fun ρ2 m => dLoop P tb xs E ρ2 m, E.rt⟩) (E' := ⟨fun ρ2 m => dLoop P tb xs E' ρ2 m, E'.rt⟩) ⟨fun _ _ z => dLoop_mono hb xs h z, h.rt⟩ q⟩
theorem ds_for (P : Pt) (hp : PassesOwn (model X.prog X.w) X.A X.env X.xe) (hc : X.calm = true) (hi : DI X B tg iter fi) (hg : PG X tg (gOf X.K P)) (hb : DSs X B body tb) (hs : ∀ x, foldedSetIterable iter X.env x = pure x := by intro _; rfl) :
    DS X B (.For tg iter body [] pos) (dFor P fi tb) := by
  refine ⟨ps_wk (ps_for hp hc hi hg hb.ps hs) fun D σ H ⟨E, F, ρ, n, R, ok, xs, ex, q⟩ => ⟨F, ρ, n, xs, R, ex, fun F1 H1 J st iv it => ?_⟩, fun h ⟨xs, ex, q⟩ => ⟨xs, ex, dLoop_mono hb xs h q⟩⟩
  refine ⟨fun i m σ H => m = xs.length - i ∧ i ≤ xs.length ∧ ∃ F' ρ n, Same F1 F' ∧ Rp B F' H σ ρ n ∧ dLoop P tb (xs.drop i) E ρ n, ⟨_, rfl, Nat.zero_le _, F1, ρ, n, Same.refl _, R.goS st iv, q⟩, ?_⟩
  rintro i m σ2 H2 ⟨rfl, hle, F2, ρ2, n2, s2, R2, q2⟩
  by_cases hlt : i < xs.length
  · refine .inr ⟨it.goes F2 H2 i s2 R2.step.s hlt, fun σ' H' => ∃ F' ρ n, Same F1 F' ∧ Rp B F' H' σ' ρ n ∧ dLoop P tb (xs.drop (i + 1)) E ρ n, fun σ' H' h => ⟨xs.length - (i + 1), by omega, rfl, hlt, h⟩, fun x H3 hy => ?_⟩
    obtain ⟨y, hx⟩ : ∃ y, xs[i]? = some y := ⟨xs[i], by simp [hlt]⟩
    obtain ⟨F3, st3, hv⟩ := it.yields F2 H2 i y x H3 s2 R2.step.s hx hy
    have R3 := R2.go st3
    have ed : xs.drop i = y :: xs.drop (i + 1) := by
      rw [List.drop_eq_getElem_cons hlt]
      congr 1
      rw [List.getElem?_eq_getElem hlt] at hx
      exact Option.some.inj hx
    rw [ed] at q2
    obtain ⟨ρ3, hb3, q3⟩ := q2
    refine bind_ok (B := B) st3.s hv hb3 (fun σ4 sb _ => ?_) wipe_set
    have R4 := sb _ _ _ (Same.refl _) R3
    have s13 : Same F1 F3 := s2.trans st3.f
    refine ⟨⟨fun ρ' n' => dLoop P tb (xs.drop (i + 1)) E ρ' n', E.rt⟩, F3, ρ3, n2, R4, ⟨fun F5 H5 σ5 ρ5 n5 s5 R5 z => ⟨F5, ρ5, n5, s13.trans s5, R5, z⟩, ok.rt⟩, q3⟩
  · have e : i = xs.length := by omega
    subst e
    rw [List.drop_length] at q2
    exact .inl ⟨it.stops F2 H2 s2 R2.step.s, ok.nx _ _ _ _ _ (st.f.trans s2) R2 q2⟩
end
end K50

set_option Elab.async false
set_option linter.all false
set_option maxRecDepth 100000
set_option maxHeartbeats 4000000
/-! comprehensions, zip, enumerate -/
namespace K50
open PySem PySem.Spec PyProof.Rows L2

structure DTs (X : Cx) (B : Bs) (ifs : List Expr) (t : TDT) : Prop where
  pts : PTs X ifs (liftT B t)
  mono : ∀ {ρ n} {Q Q' : Bool → Nat → Prop}, (∀ d m, Q d m → Q' d m) → t ρ n Q → t ρ n Q'
def dYes : TDT := fun _ n Q => Q true n
section
variable {X : Cx} {B : Bs} {c : Expr} {t : TDT} {ifs : List Expr}
theorem pts_wk {te te' : TT} (h : PTs X ifs te) (w : ∀ σ H Q, te' σ H Q → te σ H Q) : PTs X ifs te' := ⟨fun pins s σ H Q I q => h.run pins s σ H Q I (w σ H Q q)⟩
theorem dts_nil : DTs X B [] dYes := ⟨pts_wk pts_nil fun σ H Q ⟨F, ρ, n, R, q⟩ => q F H (Stp.refl R.step.s) R.inv, fun h q => h _ _ q⟩
theorem dts_one (h : DT X B c t) : DTs X B [c] t := ⟨pts_one h.pt, h.mono⟩
end

/-- the turns of a comprehension: ρw the slots without its own names -/
def lcLoop (P : Pt) (tt : TDT) (te : TD) (ρw : Sl) : List PyData → List PyData → Nat → (List PyData → Nat → Prop) → Prop
  | [], acc, n, Q => Q acc n
  | x :: xs, acc, n, Q => ∃ ρ1, bindP P x ρw = some ρ1 ∧ tt ρ1 n fun b m => if b = true then te ρ1 m fun d k => lcLoop P tt te ρw xs (acc ++ [d]) k Q else lcLoop P tt te ρw xs acc m Q
def dComp (P : Pt) (own : List Nat) (tt : TDT) (te : TD) (fi : Sl → Option (List PyData)) : TD := fun ρ n Q => ∃ xs, fi ρ = some xs ∧ lcLoop P tt te (wipeD ρ own) xs [] n fun acc m => Q (.list acc) m

/-- a list that is being made at D stands beside the frozen part -/
structure Mk1 (B : Bs) (F1 H1 F H : Hp) (D : Addr) (acc : List PyData) (n : Nat) : Prop where
  st : Stp B.S.sa F1 H1 F H
  iv : B.S.inv H n
  fD : F D = none
  hD : ∃ vs, H D = some (.lst vs) ∧ vs.length ≤ sizeLine ∧ FzAll F vs acc
section
variable {B : Bs} {F1 H1 F H F' H' : Hp} {D : Addr} {acc : List PyData} {n m : Nat}
theorem Mk1.start (s : Same F1 H1) (iv : B.S.inv H1 n) (hD : H1 D = none) : Mk1 B F1 H1 F1 (upd H1 D (.lst [])) D [] n := by
  have fD : F1 D = none := by
    cases q : F1 D with
    | none => rfl
    | some o => rw [s D o q] at hD; cases hD
  exact ⟨(Stp.newH s hD).wk, B.S.loc (fun a ha o e => (Stp.newH s hD).k a o (by simp) e) iv, fD, [], upd_same, Nat.zero_le _, .nil⟩
theorem Mk1.go (M : Mk1 B F1 H1 F H D acc n) (hn : D ∉ B.S.sa) (st : Stp B.S.sa F H F' H') (iv : B.S.inv H' m) : Mk1 B F1 H1 F' H' D acc m := by
  obtain ⟨vs, h1, h2, h3⟩ := M.hD
  refine ⟨M.st.trans st, iv, ?_, vs, st.k D _ hn h1, h2, FzAll.mono st.f _ _ h3⟩
  cases q : F' D with
  | none => rfl
  | some o =>
    rcases st.n D (by rw [q]; simp) with h | h
    · exact absurd M.fD h
    · rw [h1] at h; cases h
theorem Mk1.add {v : V} {d : PyData} {vs : List V} (M : Mk1 B F1 H1 F H D acc n) (hn : D ∉ B.S.sa) (h0 : H1 D = none) (hv : Fz F v d) (hD : H D = some (.lst vs)) (hf : FzAll F vs acc) (hz : acc.length < sizeLine) : Mk1 B F1 H1 F (upd H D (.lst (vs ++ [v]))) D (acc ++ [d]) n := by
  have keep : ∀ a o, a ≠ D → H a = some o → upd H D (.lst (vs ++ [v])) a = some o := fun a o hne e => by rw [upd_ne hne]; exact e
  refine ⟨⟨M.st.f, fun a o e => keep a o (fun q => by rw [q, M.fD] at e; cases e) (M.st.s a o e), fun a o ha e => keep a o (fun q => by rw [q, h0] at e; cases e) (M.st.k a o ha e), fun a e => ?_, M.st.n⟩,
    B.S.loc (fun a ha o e => keep a o (fun q => by subst q; exact hn ha) e) M.iv, M.fD, _, upd_same, ?_, hf.app (.cons hv .nil)⟩
  · by_cases q : a = D
    · rw [q, upd_same]; simp
    · rw [upd_ne q]; exact M.st.h a e
  · rw [List.length_append, List.length_singleton, hf.length]
    omega
/-- the finished list, frozen -/
theorem Mk1.fin (M : Mk1 B F1 H1 F H D acc n) (h0 : H1 D = none) : ∃ F'', Stp B.S.sa F1 H1 F'' H ∧ B.S.inv H n ∧ Fz F'' (.ref D) (.list acc) := by
  obtain ⟨vs, h1, h2, h3⟩ := M.hD
  have fF : Same F (upd F D (.lst vs)) := fun a o e => by rw [upd_ne (fun q => by rw [q, M.fD] at e; cases e)]; exact e
  refine ⟨upd F D (.lst vs), ⟨M.st.f.trans fF, fun a o e => ?_, M.st.k, M.st.h, fun a e => ?_⟩, M.iv, .lst upd_same h2 (FzAll.mono fF _ _ h3)⟩
  · by_cases q : a = D
    · subst q; rw [upd_same] at e; cases e; exact h1
    · rw [upd_ne q] at e; exact M.st.s a o e
  · by_cases q : a = D
    · rw [q]; exact .inr h0
    · rw [upd_ne q] at e; exact M.st.n a e
end

section
variable {X : Cx} {B : Bs} {elt tg iter : Expr} {ifs : List Expr} {scope : Scope} {own : List (Str × Nat)} {pos : Pos} {P : Pt} {fi : Sl → Option (List PyData)} {tt : TDT} {te : TD}
/-- in the block of a comprehension, whatever its frame -/
abbrev InBlk (X : Cx) (scope : Scope) (J : Cx → Prop) : Prop := ∀ (s : Shared) (H : Hp) (C : Addr) (cl : List (Str × Addr)) (fp : List Addr), J (X.blk s H scope (compEnvC scope cl C X.env) fp)
abbrev MoE (t : TD) : Prop := ∀ (ρ : Sl) (n : Nat) (Q Q' : PyData → Nat → Prop), (∀ d m, Q d m → Q' d m) → t ρ n Q → t ρ n Q'
abbrev MoT (t : TDT) : Prop := ∀ (ρ : Sl) (n : Nat) (Q Q' : Bool → Nat → Prop), (∀ d m, Q d m → Q' d m) → t ρ n Q → t ρ n Q'
theorem lcLoop_mono (ht : MoT tt) (he : MoE te) {ρw : Sl} : ∀ (xs acc : List PyData) (n : Nat) {Q Q' : List PyData → Nat → Prop}, (∀ a m, Q a m → Q' a m) → lcLoop P tt te ρw xs acc n Q → lcLoop P tt te ρw xs acc n Q'
  | [], acc, n, _, _, h, q => h _ _ q
  | x :: xs, acc, n, _, _, h, ⟨ρ1, e, q⟩ => ⟨ρ1, e, ht _ _ _ _ (fun b m z => ite_mono (fun y => he _ _ _ _ (fun d k w => lcLoop_mono ht he xs _ k h w) y) (fun y => lcLoop_mono ht he xs _ m h y) z) q⟩
/-- .. where the value is a new object -/
def liftEN (B : Bs) (t : TD) : TE := fun σ H Q => ∃ F ρ n, Rp B F H σ ρ n ∧ t ρ n fun d m => ∀ F' H' v, Stp B.S.sa F H F' H' → B.S.inv H' m → Fz F' v d → (∃ D, v = .ref D ∧ H D = none) → Q v H'
theorem comp_opN {K : PySem.W.Frag} (ht : MoT tt) (he : MoE te) (hP : ∀ i ∈ P.ix, i ∈ own.map (·.2)) (σ : L2.St) (H : Hp) (Q : VK) (h : liftEN B (dComp P (own.map (·.2)) tt te fi) σ H Q) :
    tLc (liftI B fi) (gOf K P) (liftT B tt) (liftE B te) (own.map (·.2)) σ H Q := by
  obtain ⟨F, ρ, n, R, xs, ex, q⟩ := h
  refine ⟨F, ρ, n, xs, R, ex, fun F1 H1 J st iv it D h0 => ?_⟩
  have R1 := R.goS st iv
  have hn : D ∉ B.S.sa := fun hm => B.S.has iv D hm h0
  refine ⟨fun i m H2 => m = xs.length - i ∧ i ≤ xs.length ∧ ∃ F2 acc n2, Mk1 B F1 H1 F2 H2 D acc n2 ∧ acc.length ≤ i ∧ lcLoop P tt te (wipeD ρ (own.map (·.2))) (xs.drop i) acc n2 fun acc m => ∀ F' H' v, Stp B.S.sa F H F' H' → B.S.inv H' m → Fz F' v (.list acc) → (∃ D, v = .ref D ∧ H D = none) → Q v H',
    ⟨_, rfl, Nat.zero_le _, F1, [], n, Mk1.start st.s iv h0, Nat.le_refl _, q⟩, ?_⟩
  rintro i m H2 ⟨rfl, hle, F2, acc, n2, M, hacc, q2⟩
  by_cases hlt : i < xs.length
  · refine .inr ⟨it.goes F2 H2 i M.st.f M.st.s hlt, fun H' => ∃ F' acc n2, Mk1 B F1 H1 F' H' D acc n2 ∧ acc.length ≤ i + 1 ∧ lcLoop P tt te (wipeD ρ (own.map (·.2))) (xs.drop (i + 1)) acc n2 fun acc m => ∀ F' H' v, Stp B.S.sa F H F' H' → B.S.inv H' m → Fz F' v (.list acc) → (∃ D, v = .ref D ∧ H D = none) → Q v H',
      fun H' h => ⟨xs.length - (i + 1), by omega, rfl, hlt, h⟩, fun x H3 hy => ?_⟩
    obtain ⟨y, hx⟩ : ∃ y, xs[i]? = some y := ⟨xs[i], by simp [hlt]⟩
    obtain ⟨F3, st3, hv⟩ := it.yields F2 H2 i y x H3 M.st.f M.st.s hx hy
    have M3 := M.go hn st3.wk (B.S.loc (fun a _ o e => st3.k a o (by simp) e) M.iv)
    have Rw := (R1.goS M3.st M3.iv).wipe (own.map (·.2))
    have ed : xs.drop i = y :: xs.drop (i + 1) := by
      rw [List.drop_eq_getElem_cons hlt]
      congr 1
      rw [List.getElem?_eq_getElem hlt] at hx
      exact Option.some.inj hx
    rw [ed] at q2
    obtain ⟨ρ3, hb3, q3⟩ := q2
    refine bind_ok (B := B) M3.st.s hv hb3 (fun σ4 sb hw => ⟨by rw [hw _ hP, wipe_wipe], ?_⟩) wipe_set
    have R4 := sb _ _ _ (Same.refl _) Rw
    refine ⟨F3, ρ3, n2, R4, ht _ _ _ _ (fun b m z F5 H5 st5 iv5 => ?_) q3⟩
    have M5 := M3.go hn st5 iv5
    refine ite_mono (fun z1 => ?_) (fun z1 => ⟨F5, acc, m, M5, by omega, z1⟩) z
    refine ⟨F5, ρ3, m, R4.goS st5 iv5, he _ _ _ _ (fun d k w F6 H6 v6 st6 iv6 hv6 => ?_) z1⟩
    have M6 := M5.go hn st6 iv6
    obtain ⟨vs, e1, e2, e3⟩ := M6.hD
    have hsm := it.small
    exact ⟨vs, e1, by rw [e3.length]; omega, F6, acc ++ [d], k, M6.add hn h0 hv6 e1 e3 (by omega), by rw [List.length_append, List.length_singleton]; omega, w⟩
  · have e : i = xs.length := by omega
    subst e
    rw [List.drop_length] at q2
    obtain ⟨F4, st4, iv4, hf⟩ := M.fin h0
    exact .inl ⟨it.stops F2 H2 M.st.f M.st.s, q2 F4 H2 _ (st.trans st4) iv4 hf ⟨D, rfl, by
      cases qq : H D with
      | none => rfl
      | some o => exact absurd h0 (st.h D (by rw [qq]; simp))⟩⟩
theorem comp_op {K : PySem.W.Frag} (ht : MoT tt) (he : MoE te) (hP : ∀ i ∈ P.ix, i ∈ own.map (·.2)) (σ : L2.St) (H : Hp) (Q : VK) (h : liftE B (dComp P (own.map (·.2)) tt te fi) σ H Q) :
    tLc (liftI B fi) (gOf K P) (liftT B tt) (liftE B te) (own.map (·.2)) σ H Q := by
  obtain ⟨F, ρ, n, R, xs, ex, q⟩ := h
  exact comp_opN ht he hP σ H Q ⟨F, ρ, n, R, xs, ex, lcLoop_mono ht he xs [] n (fun a m z F' H' v st iv hv _ => z F' H' v st iv hv) q⟩
theorem dComp_mono {pt : Pt} (ht : MoT tt) (he : MoE te) {os : List Nat} {ρ : Sl} {n : Nat} {Q Q' : PyData → Nat → Prop} (h : ∀ d m, Q d m → Q' d m) (q : dComp pt os tt te fi ρ n Q) : dComp pt os tt te fi ρ n Q' := by
  obtain ⟨xs, ex, q⟩ := q
  exact ⟨xs, ex, lcLoop_mono ht he xs [] n (fun a m z => h _ _ z) q⟩
theorem de_comp (P : Pt) (own : List (Str × Nat)) (hc : X.calm = true) (hN : X.N.Nodup) (hi : DI X B tg iter fi) (ok : BlkOk X.N X.env.scope scope own) (hg : InBlk X scope fun Y => PG Y tg (gOf X.K P)) (ht : InBlk X scope fun Y => DTs Y B ifs tt) (he : InBlk X scope fun Y => DE Y B elt te)
    (hP : ∀ i ∈ P.ix, i ∈ own.map (·.2)) (hs : ∀ x, foldedSetIterable iter X.env x = pure x := by intro _; rfl) : DE X B (.ListComp elt [⟨tg, iter, ifs, 0⟩] scope pos) (dComp P (own.map (·.2)) tt te fi) := by
  have z : Shared := X.s_0
  have mt : MoT tt := fun _ _ _ _ => (ht z (fun _ => none) 0 [] []).mono
  have me : MoE te := fun _ _ _ _ => (he z (fun _ => none) 0 [] []).mono
  refine ⟨pe_wk (pe_lc hc hN hi ok hg (fun s H C cl fp => (ht s H C cl fp).pts) (fun s H C cl fp => (he s H C cl fp).pe) hs) (comp_op mt me hP), fun h q => dComp_mono mt me h q⟩
theorem pe_compN (P : Pt) (own : List (Str × Nat)) (hc : X.calm = true) (hN : X.N.Nodup) (hi : DI X B tg iter fi) (ok : BlkOk X.N X.env.scope scope own) (hg : InBlk X scope fun Y => PG Y tg (gOf X.K P)) (ht : InBlk X scope fun Y => DTs Y B ifs tt) (he : InBlk X scope fun Y => DE Y B elt te)
    (hP : ∀ i ∈ P.ix, i ∈ own.map (·.2)) (hs : ∀ x, foldedSetIterable iter X.env x = pure x := by intro _; rfl) : PE X (.ListComp elt [⟨tg, iter, ifs, 0⟩] scope pos) (liftEN B (dComp P (own.map (·.2)) tt te fi)) := by
  have z : Shared := X.s_0
  have mt : MoT tt := fun _ _ _ _ => (ht z (fun _ => none) 0 [] []).mono
  have me : MoE te := fun _ _ _ _ => (he z (fun _ => none) 0 [] []).mono
  exact pe_wk (pe_lc hc hN hi ok hg (fun s H C cl fp => (ht s H C cl fp).pts) (fun s H C cl fp => (he s H C cl fp).pe) hs) (comp_opN mt me hP)
/-- name = [..] -/
theorem ds_setComp (i : Nat) (P : Pt) (own : List (Str × Nat)) {y : Str} {py spos : Pos} (hc : X.calm = true) (hN : X.N.Nodup) (hy : X.N[i]? = some y) (hyl : X.env.scope.names.lookup y = some .local)
    (hsw : swapsWith (.ListComp elt [⟨tg, iter, ifs, 0⟩] scope pos) (some (.Name y py)) spos.line X.env = pure true) (hi : DI X B tg iter fi) (ok : BlkOk X.N X.env.scope scope own) (hg : InBlk X scope fun Y => PG Y tg (gOf X.K P)) (ht : InBlk X scope fun Y => DTs Y B ifs tt) (he : InBlk X scope fun Y => DE Y B elt te)
    (hP : ∀ i ∈ P.ix, i ∈ own.map (·.2)) (hs : ∀ x, foldedSetIterable iter X.env x = pure x := by intro _; rfl) : DS X B (.Assign [.Name y py] (.ListComp elt [⟨tg, iter, ifs, 0⟩] scope pos) spos) (dSet i (dComp P (own.map (·.2)) tt te fi)) := by
  have z : Shared := X.s_0
  have mt : MoT tt := fun _ _ _ _ => (ht z (fun _ => none) 0 [] []).mono
  have me : MoE te := fun _ _ _ _ => (he z (fun _ => none) 0 [] []).mono
  refine ⟨ps_wk (ps_setLc hc hN hy hyl hsw hi ok hg (fun s H C cl fp => (ht s H C cl fp).pts) (fun s H C cl fp => (he s H C cl fp).pe) hs) fun D σ H h => ?_, fun h q => dComp_mono mt me (fun d m y => h.nx _ _ y) q⟩
  show tLc (liftI B fi) (gOf X.K P) (liftT B tt) (liftE B te) (own.map (·.2)) σ H fun x H1 => gName i x σ H1 D.nx
  refine comp_op mt me hP σ H _ ?_
  obtain ⟨E, F, ρ, n, R, ok', q⟩ := h
  refine ⟨F, ρ, n, R, dComp_mono mt me (fun d m y F1 H1 v st iv hv => ok'.nx _ _ _ _ _ st.f ((R.goS st iv).set hv) y) q⟩
end

/-! ### two clauses, no tests -/
def lcIn (P : Pt) (te : TD) (ρw : Sl) : List PyData → List PyData → Nat → (List PyData → Nat → Prop) → Prop
  | [], acc, n, Q => Q acc n
  | x :: xs, acc, n, Q => ∃ ρ1, bindP P x ρw = some ρ1 ∧ te ρ1 n fun d k => acc.length < 1000000 ∧ lcIn P te ρw xs (acc ++ [d]) k Q
def lcOut (P P1 : Pt) (vs1 : List Nat) (fi1 : Sl → Option (List PyData)) (te : TD) (ρw : Sl) : List PyData → List PyData → Nat → (List PyData → Nat → Prop) → Prop
  | [], acc, n, Q => Q acc n
  | x :: xs, acc, n, Q => ∃ ρ1, bindP P x ρw = some ρ1 ∧ ∃ ys, fi1 ρ1 = some ys ∧ lcIn P1 te (wipeD ρ1 vs1) ys acc n fun acc' m => lcOut P P1 vs1 fi1 te ρw xs acc' m Q
def dComp2 (P P1 : Pt) (own vs1 : List Nat) (te : TD) (fi fi1 : Sl → Option (List PyData)) : TD := fun ρ n Q => ∃ xs, fi ρ = some xs ∧ lcOut P P1 vs1 fi1 te (wipeD ρ own) xs [] n fun acc m => Q (.list acc) m
section
variable {X : Cx} {B : Bs} {elt tg iter tg1 iter1 : Expr} {scope : Scope} {own : List (Str × Nat)} {vs1 : List Nat} {pos : Pos} {P P1 : Pt} {fi fi1 : Sl → Option (List PyData)} {te : TD}
theorem lcIn_mono (he : MoE te) {ρw : Sl} : ∀ (xs acc : List PyData) (n : Nat) {Q Q' : List PyData → Nat → Prop}, (∀ a m, Q a m → Q' a m) → lcIn P te ρw xs acc n Q → lcIn P te ρw xs acc n Q'
  | [], acc, n, _, _, h, q => h _ _ q
  | x :: xs, acc, n, _, _, h, ⟨ρ1, e, q⟩ => ⟨ρ1, e, he _ _ _ _ (fun d k ⟨hl, w⟩ => ⟨hl, lcIn_mono he xs _ k h w⟩) q⟩
theorem lcOut_mono (he : MoE te) {ρw : Sl} : ∀ (xs acc : List PyData) (n : Nat) {Q Q' : List PyData → Nat → Prop}, (∀ a m, Q a m → Q' a m) → lcOut P P1 vs1 fi1 te ρw xs acc n Q → lcOut P P1 vs1 fi1 te ρw xs acc n Q'
  | [], acc, n, _, _, h, q => h _ _ q
  | x :: xs, acc, n, _, _, h, ⟨ρ1, e, ys, e2, q⟩ => ⟨ρ1, e, ys, e2, lcIn_mono he ys acc n (fun a m z => lcOut_mono he xs a m h z) q⟩
theorem comp2_op {K : PySem.W.Frag} (he : MoE te) (hP : ∀ i ∈ P.ix, i ∈ own.map (·.2)) (hP1 : ∀ i ∈ P1.ix, i ∈ vs1) (σ : L2.St) (H : Hp) (Q : VK) (h : liftE B (dComp2 P P1 (own.map (·.2)) vs1 te fi fi1) σ H Q) :
    tLc2 (liftI B fi) (gOf K P) tYes (liftI B fi1) (gOf K P1) tYes (liftE B te) (own.map (·.2)) vs1 σ H Q := by
  obtain ⟨F, ρ, n, R, xs, ex, q⟩ := h
  refine ⟨F, ρ, n, xs, R, ex, fun F1 H1 J st iv it D h0 => ?_⟩
  have R1 := R.goS st iv
  have hn : D ∉ B.S.sa := fun hm => B.S.has iv D hm h0
  refine ⟨fun i m H2 => m = xs.length - i ∧ i ≤ xs.length ∧ ∃ F2 acc n2, Mk1 B F1 H1 F2 H2 D acc n2 ∧ lcOut P P1 vs1 fi1 te (wipeD ρ (own.map (·.2))) (xs.drop i) acc n2 fun acc m => ∀ F' H' v, Stp B.S.sa F H F' H' → B.S.inv H' m → Fz F' v (.list acc) → Q v H',
    ⟨_, rfl, Nat.zero_le _, F1, [], n, Mk1.start st.s iv h0, q⟩, ?_⟩
  rintro i m H2 ⟨rfl, hle, F2, acc, n2, M, q2⟩
  by_cases hlt : i < xs.length
  · refine .inr ⟨it.goes F2 H2 i M.st.f M.st.s hlt, fun H' => ∃ F' acc n2, Mk1 B F1 H1 F' H' D acc n2 ∧ lcOut P P1 vs1 fi1 te (wipeD ρ (own.map (·.2))) (xs.drop (i + 1)) acc n2 fun acc m => ∀ F' H' v, Stp B.S.sa F H F' H' → B.S.inv H' m → Fz F' v (.list acc) → Q v H',
      fun H' h => ⟨xs.length - (i + 1), by omega, rfl, hlt, h⟩, fun x H3 hy => ?_⟩
    obtain ⟨y, hx⟩ : ∃ y, xs[i]? = some y := ⟨xs[i], by simp [hlt]⟩
    obtain ⟨F3, st3, hv⟩ := it.yields F2 H2 i y x H3 M.st.f M.st.s hx hy
    have M3 := M.go hn st3.wk (B.S.loc (fun a _ o e => st3.k a o (by simp) e) M.iv)
    have Rw := (R1.goS M3.st M3.iv).wipe (own.map (·.2))
    have ed : xs.drop i = y :: xs.drop (i + 1) := by
      rw [List.drop_eq_getElem_cons hlt]
      congr 1
      rw [List.getElem?_eq_getElem hlt] at hx
      exact Option.some.inj hx
    rw [ed] at q2
    obtain ⟨ρ3, hb3, ys, ey, q3⟩ := q2
    refine bind_ok (B := B) M3.st.s hv hb3 (fun σ4 sb hw => ⟨by rw [hw _ hP, wipe_wipe], ?_⟩) wipe_set
    unfold tYes
    dsimp only
    rw [if_pos rfl]
    have R4 := sb _ _ _ (Same.refl _) Rw
    refine ⟨F3, ρ3, n2, ys, R4, ey, fun F4 H4 J1 st4 iv4 it1 => ?_⟩
    have M4 := M3.go hn st4 iv4
    refine ⟨fun j k H5 => k = ys.length - j ∧ j ≤ ys.length ∧ ∃ F5 acc5 n5, Mk1 B F1 H1 F5 H5 D acc5 n5 ∧ Same F4 F5 ∧ lcIn P1 te (wipeD ρ3 vs1) (ys.drop j) acc5 n5 fun acc' m => lcOut P P1 vs1 fi1 te (wipeD ρ (own.map (·.2))) (xs.drop (i + 1)) acc' m fun acc m => ∀ F' H' v, Stp B.S.sa F H F' H' → B.S.inv H' m → Fz F' v (.list acc) → Q v H',
      ⟨_, rfl, Nat.zero_le _, F4, acc, n2, M4, Same.refl _, q3⟩, ?_⟩
    rintro j k H5 ⟨rfl, hle1, F5, acc5, n5, M5, s45, q5⟩
    by_cases hlt1 : j < ys.length
    · refine .inr ⟨it1.goes F5 H5 j s45 M5.st.s hlt1, fun H' => ∃ F' acc' n', Mk1 B F1 H1 F' H' D acc' n' ∧ Same F4 F' ∧ lcIn P1 te (wipeD ρ3 vs1) (ys.drop (j + 1)) acc' n' fun acc' m => lcOut P P1 vs1 fi1 te (wipeD ρ (own.map (·.2))) (xs.drop (i + 1)) acc' m fun acc m => ∀ F' H' v, Stp B.S.sa F H F' H' → B.S.inv H' m → Fz F' v (.list acc) → Q v H',
        fun H' h => ⟨ys.length - (j + 1), by omega, rfl, hlt1, h⟩, fun x6 H6 hy6 => ?_⟩
      obtain ⟨y6, hx6⟩ : ∃ y, ys[j]? = some y := ⟨ys[j], by simp [hlt1]⟩
      obtain ⟨F6, st6, hv6⟩ := it1.yields F5 H5 j y6 x6 H6 s45 M5.st.s hx6 hy6
      have M6 := M5.go hn st6.wk (B.S.loc (fun a _ o e => st6.k a o (by simp) e) M5.iv)
      have ed6 : ys.drop j = y6 :: ys.drop (j + 1) := by
        rw [List.drop_eq_getElem_cons hlt1]
        congr 1
        rw [List.getElem?_eq_getElem hlt1] at hx6
        exact Option.some.inj hx6
      rw [ed6] at q5
      obtain ⟨ρ6, hb6, q6⟩ := q5
      have R6 := sb F6 H6 n5 ((st4.f.trans s45).trans st6.f) ((R1.goS M6.st M6.iv).wipe (own.map (·.2)))
      refine bind_ok (B := B) M6.st.s hv6 hb6 (fun σ7 sb7 hw7 => ⟨by rw [hw7 _ hP1, wipe_wipe], ?_⟩) wipe_set
      dsimp only
      rw [if_pos rfl]
      refine ⟨F6, ρ6, n5, sb7 _ _ _ (Same.refl _) (R6.wipe vs1), he _ _ _ _ (fun d k w F8 H8 v8 st8 iv8 hv8 => ?_) q6⟩
      have M8 := M6.go hn st8 iv8
      obtain ⟨vs, e1, e2, e3⟩ := M8.hD
      exact ⟨vs, e1, by rw [e3.length]; exact mil' w.1, F8, acc5 ++ [d], k, M8.add hn h0 hv8 e1 e3 (mil' w.1), (s45.trans st6.f).trans st8.f, w.2⟩
    · have e : j = ys.length := by omega
      subst e
      rw [List.drop_length] at q5
      exact .inl ⟨it1.stops F5 H5 s45 M5.st.s, F5, acc5, n5, M5, q5⟩
  · have e : i = xs.length := by omega
    subst e
    rw [List.drop_length] at q2
    obtain ⟨F4, st4, iv4, hf⟩ := M.fin h0
    exact .inl ⟨it.stops F2 H2 M.st.f M.st.s, q2 F4 H2 _ (st.trans st4) iv4 hf⟩
theorem de_comp2 (P P1 : Pt) (own : List (Str × Nat)) (vs1 : List Nat) (hc : X.calm = true) (hN : X.N.Nodup) (hi : DI X B tg iter fi) (ok : BlkOk X.N X.env.scope scope own) (hv : ∀ i ∈ vs1, i ∈ own.map (·.2)) (hg : InBlk X scope fun Y => PG Y tg (gOf X.K P))
    (hi1 : InBlk X scope fun Y => DI Y B tg1 iter1 fi1) (hg1 : InBlk X scope fun Y => PG Y tg1 (gOf X.K P1)) (he : InBlk X scope fun Y => DE Y B elt te)
    (hP : ∀ i ∈ P.ix, i ∈ own.map (·.2)) (hP1 : ∀ i ∈ P1.ix, i ∈ vs1) (hs : ∀ x, foldedSetIterable iter X.env x = pure x := by intro _; rfl) (hs1 : ∀ env x, foldedSetIterable iter1 env x = pure x := by intro _ _; rfl) :
    DE X B (.ListComp elt [⟨tg, iter, [], 0⟩, ⟨tg1, iter1, [], 0⟩] scope pos) (dComp2 P P1 (own.map (·.2)) vs1 te fi fi1) := by
  have z : Shared := X.s_0
  have me : MoE te := fun _ _ _ _ => (he z (fun _ => none) 0 [] []).mono
  refine ⟨pe_wk (pe_lc2 hc hN hi ok hv hg (fun _ _ _ _ _ => pts_nil) hi1 hg1 (fun _ _ _ _ _ => pts_nil) (fun s H C cl fp => (he s H C cl fp).pe) hs hs1) (comp2_op me hP hP1), fun h q => ?_⟩
  obtain ⟨xs, ex, q⟩ := q
  exact ⟨xs, ex, lcOut_mono me xs [] _ (fun a m y => h _ _ y) q⟩
end
end K50

set_option Elab.async false
set_option linter.all false
set_option maxRecDepth 100000
set_option maxHeartbeats 4000000
/-! defs: what is promised, how they are called; the guards of repr are carried -/
namespace K50
open PySem PySem.Spec PyProof.Rows L2

/-- a def keeps its promise wherever no repr is under way -/
structure FnG (P : Program) (w : World) (K : PySem.W.Frag) (mg : Str → Option Value) (base : Heap) (k : Nat) (f : Addr) (fd : FuncData) (ps : List Str) (sp : Sp) : Prop where
  len : ∀ vs H Q E, sp vs H Q E → vs.length = ps.length
  run : ∀ (A : Around) (outer : List Env) (s : Shared) (H : Hp) (args : Args) (us : List Value) (vs : List V) (Q : VK),
    Room k A → A.guards = some [] → Env0 P w K mg base A outer s H → BindsTo s fd args (ps.zip us) → Vals vs us → sp vs H Q E0 →
    codeAny (model P w) A (.call (.ref f) args) (CR CX0 outer P w H s Q E0) s
/-- the context of a def of this file -/
abbrev cxK (P : Program) (w : World) (K : PySem.W.Frag) (mg : Str → Option Value) (base : Heap) (N : List Str) (qual : Str) (scope : Scope) (f : Addr) (cd : Value) (A : Around) (outer : List Env) (s : Shared) (H : Hp) : Cx :=
  cxOf CX0 P w K mg base N qual scope f cd A outer s H E0
section
variable {P : Program} {w : World} {K : PySem.W.Frag} {mg : Str → Option Value} {base : Heap} {k : Nat} {f : Addr} {fd : FuncData} {ps N : List Str} {sp : Sp} {x qual : Str} {params : Arguments} {body : List Stmt} {scope : Scope}
theorem fnG_of (F : FunD K x qual params body scope [] [] f fd) (S : FnScope N ps scope) (hlen : ∀ vs H Q E, sp vs H Q E → vs.length = ps.length)
    (hbody : ∀ (cd : Value) (A : Around) (outer : List Env) (s : Shared) (H : Hp) (vs : List V) (Q : VK), Room k (A.deeper (envOfC qual scope s.heap.objs.size f cd)) → A.guards = some [] → sp vs H Q E0 →
      ∃ t, PSs (cxK P w K mg base N qual scope f cd A outer s H).nox body t ∧ t { nx := fun _ H' => Q .non H', rt := Q } (start N vs) H) : FnG P w K mg base (k + 1) f fd ps sp := by
  obtain ⟨oc, od, dV, kV, doc, pm, an, cd, ct, sl, rfl, look, code, _, _⟩ := F.ex
  refine ⟨hlen, ?_⟩
  intro A outer s H args us vs Q room gd e0 bnd rel want
  have nLen := hlen vs H Q E0 want
  have kept : ∀ b o, base.get? b = some o → s.heap.get? b = some o := fun b o e => (e0.bs b o e).1
  have kin : K.In s.heap := e0.mod.kin.keeps kept
  have nolim : s.heap.NoLimit := e0.mod.nolimit.keeps kept
  have places : ∀ y ∈ ps.zip us, scope.names.lookup y.1 = some .local ∨ (scope.names.lookup y.1 = some .cell ∧ ((cellsFrom (s.heap.objs.size + 1) scope.names []).lookup y.1).isSome = true) := by
    rintro ⟨nm, u⟩ hy
    cases S.par nm (List.of_mem_zip hy).1 with
    | inl q => exact .inl q
    | inr q => exact .inr ⟨q, PySem.W.cellsFrom_some _ _ _ (.inl q)⟩
  refine codeAny_call_function room.depth (kin _ _ look) rfl S.co S.gen rfl (PySem.W.codeRec_of kin code) (bnd _ _ _ _ ?_)
  refine wpAny_newFunctionEnv_cells S.kind places fun env hEnv s1 at1 => ?_
  cases hEnv
  refine ⟨nolim.keeps at1.toInCall.keep, codeAny_func ?_⟩
  obtain ⟨t, hPS, hT⟩ := hbody cd A outer s H vs Q (room.deeper _) gd want
  have I0 : Inv (cxK P w K mg base N qual scope f cd A outer s H) [] (start N vs) H s1 := inv_start S room.hd e0 nLen rel at1
  have toEnd : ∀ {σ' : L2.St} {H' : Hp} {s' : Shared} {v : V} {u : Value}, Inv (cxK P w K mg base N qual scope f cd A outer s H) [] σ' H' s' → RelV v u → Q v H' → CE outer P w H s Q u s' :=
    fun J r q => ⟨_, _, J.os, J.bare, J.base, J.hok, r, q⟩
  refine wpAny_mono (hPS.nox.run [] s1 (start N vs) H _ I0 hT) (fun fl s' out => ?_) fun _ _ z => z
  match fl, out with
  | .ret u, ⟨v, σ', H', J, r, q⟩ => exact toEnd J r q
  | .next, ⟨σ', H', J, q⟩ => exact toEnd (v := V.non) (u := Value.none) J rfl q
  | .brk, ⟨_, _, _, q⟩ => exact q.elim
  | .cont, ⟨_, _, _, q⟩ => exact q.elim
end
section
variable {X : Cx} {k : Nat} {f : Addr} {fd : FuncData} {ps : List Str} {sp : Sp} {x : Str} {p pos : Pos} {e : Expr} {es : List Expr} {t : TA}
theorem runG {pins : List (Addr × Obj)} {σ : L2.St} {H : Hp} {s : Shared} {Q : VK} {us : List Value} {vs : List V} {args : Args} (F : FnG X.prog X.w X.K X.mg X.base k f fd ps sp) (hr : Room k X.A) (hgd : X.A.guards = some []) (hb : BindsTo s fd args (ps.zip us))
    (I : Inv X pins σ H s) (r : Vals vs us) (h : sp vs H Q E0) : codeAny (model X.prog X.w) X.A (.call (.ref f) args) (fun r s' => match r with
      | .ok (.ret u) => EP X pins σ Q u s'
      | _ => False) s := by
  refine codeAny_mono (F.run X.A X.stack s H args us vs Q hr hgd I.env0 hb r h) fun res s' got => ?_
  match res, got with
  | .error _, z => exact z.elim
  | .ok (.ret u), z => exact I.after z
  | .ok .next, z => exact z.elim
  | .ok .brk, z => exact z.elim
  | .ok .cont, z => exact z.elim
theorem runG' {pins : List (Addr × Obj)} {σ : L2.St} {H : Hp} {s : Shared} {Q : VK} {us ws : List Value} {kw : List (Str × Value)} {vs : List V} (F : FnG X.prog X.w X.K X.mg X.base k f fd ps sp) (hr : Room k X.A) (hgd : X.A.guards = some []) (hb : BindsTo s fd ⟨ws, kw⟩ (ps.zip us))
    (I : Inv X pins σ H s) (r : Vals vs us) (h : sp vs H Q E0) : wpAny (model X.prog X.w) X.A (call (.ref f) ws kw) (EP X pins σ Q) X.xe s := by
  refine wpAny_call (codeAny_mono (runG F hr hgd hb I r h) fun res s' got => ?_)
  match res, got with
  | .error _, z => exact z.elim
  | .ok (.ret u), z => exact z
  | .ok .next, z => exact z.elim
  | .ok .brk, z => exact z.elim
  | .ok .cont, z => exact z.elim
def tCallG (sp : Sp) (t : TA) : TE := fun σ H Q => t σ H fun vs H1 => sp vs H1 Q E0
theorem pe_callG (F : FnG X.prog X.w X.K X.mg X.base k f fd ps sp) (hr : Room k X.A) (hgd : X.A.guards = some []) (hg : Gl X x) (hm : X.mg x = some (.ref f)) (hk : PySem.W.keepIn X.K (.ref f) = true) (hb : Binds X.K fd ps [])
    (ha : PA X (e :: es) t) (hdb : (x == ("__debug__" : Str)) = false := by decide) (he : starEach (e :: es) X.env = (false, eval e X.env) :: starEach es X.env := by rfl) (hpl : (backTo pos (starEach es X.env)).any (·.1) = false := by rfl) :
    PE X (.Call (.Name x p) (e :: es) [] pos) (tCallG sp t) := by
  constructor
  intro pins s σ H Q I want
  refine wpAny_Call_Name_kw (ld_glob I hg hm ?_ hdb)
  refine PySem.W.callWith_K (h₀ := X.base) I.ok.mod.kin hk (thn (ha.run pos pins s σ H _ I want) ?_) he hpl
  rintro us s1 ⟨vs, H1, I1, r, q⟩
  refine ⟨I1.kIn, ?_⟩
  have nl : us.length = ps.length := by rw [← r.length]; exact F.len _ _ _ _ q
  have b1 := hb s1 us I1.kIn (by rw [List.append_nil]; exact nl)
  rw [List.append_nil] at b1
  exact runG' F hr hgd b1 I1 r q
theorem pe_callG0 (F : FnG X.prog X.w X.K X.mg X.base k f fd ps sp) (hr : Room k X.A) (hgd : X.A.guards = some []) (hg : Gl X x) (hm : X.mg x = some (.ref f)) (hk : PySem.W.keepIn X.K (.ref f) = true) (hb : Binds X.K fd ps [])
    (hdb : (x == ("__debug__" : Str)) = false := by decide) : PE X (.Call (.Name x p) [] [] pos) (tCallG sp tNil) := by
  constructor
  intro pins s σ H Q I want
  refine wpAny_Call_Name_kw (ld_glob I hg hm ?_ hdb)
  have q : sp [] H Q E0 := want
  have nl : ([] : List Value).length = ps.length := F.len _ _ _ _ q
  have b1 := hb s [] I.kIn (by rw [List.append_nil]; exact nl)
  rw [List.append_nil] at b1
  exact PySem.W.callWith_K0 I.kIn hk (runG' F hr hgd b1 I .nil q)
end

/-- a pure def: a function of trees -/
def spF (n : Nat) (f : List PyData → Option PyData) : Sp := fun vs H Q _ => ∃ F ds d, Same F H ∧ FzAll F vs ds ∧ ds.length = n ∧ f ds = some d ∧ ∀ F' H' v, Stp [] F H F' H' → Fz F' v d → Q v H'
/-- a def by its name, ready to be called -/
def Cal (P : Program) (w : World) (K : PySem.W.Frag) (mg : Str → Option Value) (base : Heap) (k : Nat) (x : Str) (ps : List Str) (sp : Sp) : Prop :=
  ∃ f fd, FnG P w K mg base k f fd ps sp ∧ mg x = some (.ref f) ∧ PySem.W.keepIn K (.ref f) = true ∧ Binds K fd ps []
/-- what a body may lean on: room for calls, no repr under way -/
structure Rm (X : Cx) (k : Nat) : Prop where
  calm : X.calm = true
  room : Room k X.A
  gd : X.A.guards = some []
theorem Rm.u64 {X : Cx} {k : Nat} (h : Rm X k) : X.A.units + 64 < cLine := h.room.units
theorem Rm.u65 {X : Cx} {k : Nat} (h : Rm X k) : X.A.units + 65 < cLine := by have := h.room.un; omega
theorem Rm.down {X : Cx} {k j : Nat} (h : Rm X k) (hj : j ≤ k) : Rm X j := ⟨h.calm, h.room.mono hj, h.gd⟩
section
variable {X : Cx} {B : Bs} {j k n : Nat} {x : Str} {ps : List Str} {p pos : Pos} {e : Expr} {es : List Expr} {f : List PyData → Option PyData} {ta : TDA}
theorem spF_op (ha : DA X B es ta) (σ : L2.St) (H : Hp) (Q : VK) (hl : ∀ ds z, f ds = some z → ds.length = n) (h : liftE B (dC f ta) σ H Q) : tCallG (spF n f) (liftA B ta) σ H Q := by
  obtain ⟨F, ρ, m, R, q⟩ := h
  refine ⟨F, ρ, m, R, ha.mono (fun ds m' ⟨z, ez, q1⟩ F1 H1 vs st iv hv => ?_) q⟩
  exact ⟨F1, ds, z, st.s, hv, hl ds z ez, ez, fun F2 H2 v st2 hv2 => q1 F2 H2 v (st.trans st2.wk) ((R.goS st iv).inv_go st2) hv2⟩
theorem de_call (c : Cal X.prog X.w X.K X.mg X.base j x ps (spF n f)) (o : Rm X k) (hj : j ≤ k) (hl : ∀ ds z, f ds = some z → ds.length = n) (hg : Gl X x) (ha : DA X B (e :: es) ta)
    (hdb : (x == ("__debug__" : Str)) = false := by decide) (he : starEach (e :: es) X.env = (false, eval e X.env) :: starEach es X.env := by rfl) (hpl : (backTo pos (starEach es X.env)).any (·.1) = false := by rfl) :
    DE X B (.Call (.Name x p) (e :: es) [] pos) (dC f ta) := by
  obtain ⟨a, fd, F, hm, hk, hb⟩ := c
  exact ⟨pe_wk (pe_callG F (o.room.mono hj) o.gd hg hm hk hb ha.pa hdb he hpl) fun σ H Q h => spF_op ha σ H Q hl h, fun h q => dC_mono ha h q⟩
theorem de_call0 (c : Cal X.prog X.w X.K X.mg X.base j x ps (spF n f)) (o : Rm X k) (hj : j ≤ k) (hl : ∀ ds z, f ds = some z → ds.length = n) (hg : Gl X x)
    (hdb : (x == ("__debug__" : Str)) = false := by decide) : DE X B (.Call (.Name x p) [] [] pos) (dC f dNil) := by
  obtain ⟨a, fd, F, hm, hk, hb⟩ := c
  refine ⟨pe_wk (pe_callG0 F (o.room.mono hj) o.gd hg hm hk hb hdb) fun σ H Q h => ?_, fun h q => dC_mono (X := X) (B := B) da_nil h q⟩
  obtain ⟨F1, ρ, m, R, z, ez, q⟩ := h
  exact ⟨F1, [], z, R.step.s, .nil, hl _ _ ez, ez, fun F2 H2 v st2 hv2 => q F2 H2 v st2.wk (R.inv_go st2) hv2⟩
end

/-! ### a body by its function -/
inductive Out where
  | nx (ρ : Sl)
  | rt (d : PyData)
def ini (N : Nat) (ds : List PyData) : Sl := ds.map (fun d => some (.d d)) ++ List.replicate (N - ds.length) none
/-- what a body gives -/
def runF (n N : Nat) (body : Sl → Option Out) (ds : List PyData) : Option PyData := if ds.length = n then (match body (ini N ds) with
  | some (.rt d) => some d
  | some (.nx _) => some .none
  | none => none) else none
theorem runF_len {n N : Nat} {body : Sl → Option Out} (ds : List PyData) (z : PyData) (h : runF n N body ds = some z) : ds.length = n := by
  unfold runF at h
  split at h
  · next h' => exact h'
  · cases h
abbrev PSD (f : Sl → Option Out) : TSD := fun E ρ n => ∃ o, f ρ = some o ∧ match o with
  | .nx ρ' => E.nx ρ' n
  | .rt d => E.rt d n
theorem psd_mono {f : Sl → Option Out} {E E' : DEnds} {ρ : Sl} {n : Nat} (h : DLe E E') : PSD f E ρ n → PSD f E' ρ n := fun ⟨o, e, q⟩ => ⟨o, e, by
  cases o with
  | nx ρ' => exact h.nx _ _ q
  | rt d => exact h.rt _ _ q⟩
theorem ini_get {N : Nat} {ds : List PyData} {i : Nat} {e : EV} (h : (ini N ds)[i]? = some (some e)) : ∃ d, ds[i]? = some d ∧ e = .d d := by
  unfold ini at h
  by_cases hi : i < ds.length
  · rw [List.getElem?_append_left (by simpa using hi), List.getElem?_map] at h
    obtain ⟨d, h1, h2⟩ := Option.map_eq_some_iff.mp h
    cases h2
    exact ⟨d, h1, rfl⟩
  · rw [List.getElem?_append_right (by simpa using hi), List.getElem?_replicate] at h
    split at h <;> cases h
theorem start_get {N : List Str} {vs : List V} {i : Nat} {v : V} (h : vs[i]? = some v) : (start N vs)[i]? = some (some v) := by
  have hi := (List.getElem?_eq_some_iff.mp h).1
  unfold L2.start
  rw [List.getElem?_append_left (by simpa using hi), List.getElem?_map, h]
  rfl
/-- the entry of a pure def -/
theorem Rp.entry {F H : Hp} {N : List Str} {vs : List V} {ds : List PyData} (s : Same F H) (hv : FzAll F vs ds) : Rp ⟨S0, F, H⟩ F H (start N vs) (ini N.length ds) 0 where
  len := by
    have := hv.length
    unfold ini L2.start
    simp
    omega
  step := Stp.refl s
  slot := fun i e h => by
    obtain ⟨d, h1, rfl⟩ := ini_get h
    obtain ⟨v, h2, h3⟩ := hv.get h1
    exact ⟨v, start_get h2, h3⟩
  sep := fun i j xs ys l h1 _ _ _ => by
    obtain ⟨d, _, e⟩ := ini_get h1
    cases e
  stf := fun a ha => absurd (show a ∈ ([] : List Addr) from ha) (by simp)
  inv := trivial
section
variable {P : Program} {w : World} {K : PySem.W.Frag} {mg : Str → Option Value} {base : Heap} {k n : Nat} {ps N : List Str} {x : Str} {params : Arguments} {stmts : List Stmt} {scope : Scope} {body : Sl → Option Out}
/-- the context in which the body of a def is read -/
structure InDef (P : Program) (w : World) (K : PySem.W.Frag) (mg : Str → Option Value) (base : Heap) (k : Nat) (N : List Str) (scope : Scope) (X : Cx) : Prop where
  rm : Rm X k
  prog : X.prog = P
  w : X.w = w
  K : X.K = K
  mg : X.mg = mg
  base : X.base = base
  N : X.N = N
  scope : X.env.scope = scope
theorem fnG_body {f : Addr} {fd : FuncData} (F : FunD K x x params stmts scope [] [] f fd) (S : FnScope N ps scope) (hn : ps.length = n)
    (hb : ∀ (f : Addr) (cd : Value) (A : Around) (outer : List Env) (s : Shared) (H F : Hp), Rm (cxK P w K mg base N x scope f cd A outer s H).nox k → DSs (cxK P w K mg base N x scope f cd A outer s H).nox ⟨S0, F, H⟩ stmts (PSD body)) :
    FnG P w K mg base (k + 1) f fd ps (spF n (runF n N.length body)) := by
  refine fnG_of F S (fun vs H Q E h => ?_) (fun cd A outer s H vs Q hr hg h => ?_)
  · obtain ⟨F1, ds, d, _, hv, hl, _⟩ := h
    rw [hv.length, hl, hn]
  · obtain ⟨F1, ds, d, hs, hv, hl, hd, q⟩ := h
    have rm : Rm (cxK P w K mg base N x scope f cd A outer s H).nox k := ⟨rfl, hr, hg⟩
    have D := hb f cd A outer s H F1 rm
    refine ⟨_, D.ps, ⟨⟨fun _ _ => d = .none, fun d' _ => d' = d⟩, F1, ini N.length ds, 0, Rp.entry hs hv, ⟨fun F2 H2 σ ρ m s2 R e => ?_, fun F2 H2 v d' m st iv hv2 e => ?_⟩, ?_⟩⟩
    · subst e
      exact q F2 H2 _ R.step .non
    · subst e
      exact q F2 H2 v st hv2
    · unfold runF at hd
      rw [if_pos hl] at hd
      cases e : body (ini N.length ds) with
      | none => rw [e] at hd; cases hd
      | some o =>
        rw [e] at hd
        cases o with
        | nx ρ' => cases hd; exact ⟨_, e, rfl⟩
        | rt d' => cases hd; exact ⟨_, e, rfl⟩
theorem cal_of (hF : ∃ f fd, FunD K x x params stmts scope [] [] f fd ∧ mg x = some (.ref f)) (S : FnScope N ps scope) (hn : ps.length = n)
    (hbind : ∀ (kV doc pm : Value) (an : Option Addr) (cdv ct : Value) (us : List Value), us.length = ps.length → bindArgs (PySem.W.fnOf x x params stmts scope .none kV doc pm an cdv ct) ⟨us, []⟩ = pure (ps.zip us))
    (hb : ∀ (f : Addr) (cd : Value) (A : Around) (outer : List Env) (s : Shared) (H F : Hp), Rm (cxK P w K mg base N x scope f cd A outer s H).nox k → DSs (cxK P w K mg base N x scope f cd A outer s H).nox ⟨S0, F, H⟩ stmts (PSD body)) :
    Cal P w K mg base (k + 1) x ps (spF n (runF n N.length body)) := by
  obtain ⟨f, fd, F, hm⟩ := hF
  exact ⟨f, fd, fnG_body F S hn hb, hm, F.kp, FunD.bindsN F hbind⟩
end
end K50

set_option Elab.async false
set_option linter.all false
set_option maxRecDepth 100000
set_option maxHeartbeats 4000000
/-! the rules for pure code: each construct is a function of the slots -/
namespace K50
open PySem PySem.Spec PyProof.Rows L2

section
variable {X : Cx} {B : Bs} {a b c e : Expr} {es : List Expr} {f g : Sl → Option PyData} {tf tg : Sl → Option Bool} {pos : Pos} {rest : List Expr}
/-! expressions -/
theorem e2 {op : PyData → PyData → Option PyData} (h : DE X B e (d2 op (PD f) (PD g))) : DE X B e (PD (f2 op f g)) := de_f2 h
theorem e1 {op : PyData → Option PyData} (h : DE X B e (d1 op (PD f))) : DE X B e (PD (f1 op f)) := de_f1 h
theorem ec {op : List PyData → Option PyData} {h : Sl → Option (List PyData)} (q : DE X B e (dC op (PDA h))) : DE X B e (PD (fCall op h)) := de_fCall q
def boolOf : PyData → Option Bool
  | .bool b => some b
  | _ => none
def fT (f : Sl → Option PyData) : Sl → Option Bool := fun ρ => (f ρ).bind boolOf
theorem boolOf_some {d : PyData} {b : Bool} (h : boolOf d = some b) : d = .bool b := by
  unfold boolOf at h
  split at h
  · cases h; rfl
  · cases h
theorem t_of {ta : TD} (h : DT X B e (dTst ta)) (w : ∀ ρ n Q, PD f ρ n Q → ta ρ n Q) : DT X B e (PDT (fT f)) := h.imp (fun ρ n Q ⟨b, eb, q⟩ => by
  obtain ⟨d, e1, e2⟩ := Option.bind_eq_some_iff.mp eb
  exact w ρ n _ ⟨d, e1, b, boolOf_some e2, q⟩) pd_mono
theorem t2 {op : PyData → PyData → Option PyData} (h : DT X B e (dTst (d2 op (PD f) (PD g)))) : DT X B e (PDT (fT (f2 op f g))) := t_of h f2_d2
theorem t1 {op : PyData → Option PyData} (h : DT X B e (dTst (d1 op (PD f)))) : DT X B e (PDT (fT (f1 op f))) := t_of h f1_d1
theorem tv (h : DE X B e (PD f)) (he : ∀ whole, isTrue e X.env whole = (do let v ← whole; standAt e.pos; holding [v] (truthy v)) := by intro _; rfl) : DT X B e (PDT (fT f)) := t_of (dt_val h he) fun _ _ _ q => q
def fAnd (t u : Sl → Option Bool) : Sl → Option Bool := fun ρ => match t ρ with
  | some true => u ρ
  | o => o
def fOr (t u : Sl → Option Bool) : Sl → Option Bool := fun ρ => match t ρ with
  | some false => u ρ
  | o => o
def fNot (t : Sl → Option Bool) : Sl → Option Bool := fun ρ => (t ρ).map (!·)
theorem DW.imp {e : Expr} {t t' : TDT} (h : DW X B e t) (w : ∀ ρ n Q, t' ρ n Q → t ρ n Q) (mo : ∀ {ρ n} {Q Q' : Bool → Nat → Prop}, (∀ d m, Q d m → Q' d m) → t' ρ n Q → t' ρ n Q') : DW X B e t' :=
  ⟨pw_wk h.pw fun σ H Q ⟨F, ρ, n, R, q⟩ => ⟨F, ρ, n, R, w _ _ _ q⟩, mo⟩
theorem w_and1 (ha : DT X B a (PDT tf)) : DW X B (.BoolOp .And [a] pos) (PDT tf) := dw_and1 ha
theorem w_or1 (ha : DT X B a (PDT tf)) : DW X B (.BoolOp .Or [a] pos) (PDT tf) := dw_or1 ha
theorem w_and (ha : DT X B a (PDT tf)) (hb : DW X B (.BoolOp .And (b :: rest) pos) (PDT tg)) : DW X B (.BoolOp .And (a :: b :: rest) pos) (PDT (fAnd tf tg)) := (dw_and ha hb).imp (fun ρ n Q ⟨d, ed, q⟩ => by
  unfold fAnd at ed
  split at ed
  · next h => exact ⟨true, h, by (try dsimp only); rw [if_pos rfl]; exact ⟨d, ed, q⟩⟩
  · next h h' =>
    cases d with
    | true => exact absurd ed h'
    | false => exact ⟨false, ed, by (try dsimp only); rw [if_neg Bool.false_ne_true]; exact q⟩) pd_mono
theorem w_or (ha : DT X B a (PDT tf)) (hb : DW X B (.BoolOp .Or (b :: rest) pos) (PDT tg)) : DW X B (.BoolOp .Or (a :: b :: rest) pos) (PDT (fOr tf tg)) := (dw_or ha hb).imp (fun ρ n Q ⟨d, ed, q⟩ => by
  unfold fOr at ed
  split at ed
  · next h => exact ⟨false, h, by (try dsimp only); rw [if_neg Bool.false_ne_true]; exact ⟨d, ed, q⟩⟩
  · next h h' =>
    cases d with
    | false => exact absurd ed h'
    | true => exact ⟨true, ed, by (try dsimp only); rw [if_pos rfl]; exact q⟩) pd_mono
theorem t_not (ha : DT X B a (PDT tf)) : DT X B (.UnaryOp .Not a pos) (PDT (fNot tf)) := (dt_not ha).imp (fun ρ n Q ⟨d, ed, q⟩ => by
  obtain ⟨x, e1, e2⟩ := Option.map_eq_some_iff.mp ed
  subst e2
  exact ⟨x, e1, q⟩) pd_mono
def fAndV (f g : Sl → Option PyData) : Sl → Option PyData := fun ρ => match f ρ with
  | some (.bool true) => g ρ
  | some (.bool false) => some (.bool false)
  | _ => none
theorem v_and (ha : DE X B a (PD f)) (hb : DE X B (.BoolOp .And (b :: rest) pos) (PD g)) : DE X B (.BoolOp .And (a :: b :: rest) pos) (PD (fAndV f g)) := (de_and ha hb).imp (fun ρ n Q ⟨d, ed, q⟩ => by
  unfold fAndV at ed
  split at ed
  · next h => exact ⟨_, h, true, rfl, by (try dsimp only); rw [if_pos rfl]; exact ⟨d, ed, q⟩⟩
  · next h => cases ed; exact ⟨_, h, false, rfl, by (try dsimp only); rw [if_neg Bool.false_ne_true]; exact q⟩
  · cases ed) pd_mono
def fIfE (t : Sl → Option Bool) (f g : Sl → Option PyData) : Sl → Option PyData := fun ρ => match t ρ with
  | some true => f ρ
  | some false => g ρ
  | none => none
theorem v_if (hc : DT X B c (PDT tf)) (ha : DE X B a (PD f)) (hb : DE X B b (PD g)) : DE X B (.IfExp c a b pos) (PD (fIfE tf f g)) := (de_ifE hc ha hb).imp (fun ρ n Q ⟨d, ed, q⟩ => by
  unfold fIfE at ed
  split at ed
  · next h => exact ⟨true, h, by (try dsimp only); rw [if_pos rfl]; exact ⟨d, ed, q⟩⟩
  · next h => exact ⟨false, h, by (try dsimp only); rw [if_neg Bool.false_ne_true]; exact ⟨d, ed, q⟩⟩
  · cases ed) pd_mono
/-! comprehensions -/
def lcF (P : Pt) (tt : Sl → Option Bool) (fe : Sl → Option PyData) (ρw : Sl) : List PyData → Option (List PyData)
  | [] => some []
  | x :: xs => (bindP P x ρw).bind fun ρ1 => (tt ρ1).bind fun b => match b with
    | true => (fe ρ1).bind fun d => (lcF P tt fe ρw xs).bind fun r => some (d :: r)
    | false => lcF P tt fe ρw xs
def fComp (P : Pt) (own : List Nat) (tt : Sl → Option Bool) (fe : Sl → Option PyData) (fi : Sl → Option (List PyData)) : Sl → Option PyData := fun ρ => (fi ρ).bind fun xs => (lcF P tt fe (wipeD ρ own) xs).bind fun r => some (.list r)
theorem lcF_loop {P : Pt} {tt : Sl → Option Bool} {fe : Sl → Option PyData} {ρw : Sl} : ∀ (xs acc ys : List PyData) (n : Nat) (Q : List PyData → Nat → Prop), lcF P tt fe ρw xs = some ys → Q (acc ++ ys) n → lcLoop P (PDT tt) (PD fe) ρw xs acc n Q
  | [], acc, ys, n, Q, h, q => by
    cases h
    rw [List.append_nil] at q
    exact q
  | x :: xs, acc, ys, n, Q, h, q => by
    unfold lcF at h
    obtain ⟨ρ1, h1, h⟩ := Option.bind_eq_some_iff.mp h
    obtain ⟨b, h2, h⟩ := Option.bind_eq_some_iff.mp h
    refine ⟨ρ1, h1, b, h2, ?_⟩
    cases b with
    | true =>
      rw [if_pos rfl]
      obtain ⟨d, h3, h⟩ := Option.bind_eq_some_iff.mp h
      obtain ⟨r, h4, h⟩ := Option.bind_eq_some_iff.mp h
      cases h
      exact ⟨d, h3, lcF_loop xs (acc ++ [d]) r n Q h4 (by rw [List.append_assoc]; exact q)⟩
    | false =>
      rw [if_neg Bool.false_ne_true]
      exact lcF_loop xs acc ys n Q h q
theorem fComp_imp {P : Pt} {own : List Nat} {tt : Sl → Option Bool} {fe : Sl → Option PyData} {fi : Sl → Option (List PyData)} (ρ : Sl) (n : Nat) (Q : PyData → Nat → Prop) (h : PD (fComp P own tt fe fi) ρ n Q) : dComp P own (PDT tt) (PD fe) fi ρ n Q := by
  obtain ⟨d, ed, q⟩ := h
  obtain ⟨xs, e1, e2⟩ := Option.bind_eq_some_iff.mp ed
  obtain ⟨ys, e3, e4⟩ := Option.bind_eq_some_iff.mp e2
  cases e4
  exact ⟨xs, e1, lcF_loop xs [] ys n _ e3 q⟩
theorem v_comp {P : Pt} {own : List Nat} {tt : Sl → Option Bool} {fe : Sl → Option PyData} {fi : Sl → Option (List PyData)} (h : DE X B e (dComp P own (PDT tt) (PD fe) fi)) : DE X B e (PD (fComp P own tt fe fi)) := h.imp fComp_imp pd_mono
def fYes : Sl → Option Bool := fun _ => some true
theorem ts_nil : DTs X B [] (PDT fYes) := ⟨(dts_nil (X := X) (B := B)).pts |> fun h => pts_wk h fun σ H Q ⟨F, ρ, n, R, d, ed, q⟩ => by cases ed; exact ⟨F, ρ, n, R, q⟩, pd_mono⟩
theorem ts_one (h : DT X B c (PDT tf)) : DTs X B [c] (PDT tf) := dts_one h
def lcInF (P : Pt) (fe : Sl → Option PyData) (ρw : Sl) : List PyData → Option (List PyData)
  | [] => some []
  | x :: xs => (bindP P x ρw).bind fun ρ1 => (fe ρ1).bind fun d => (lcInF P fe ρw xs).bind fun r => some (d :: r)
def lcOutF (P P1 : Pt) (vs1 : List Nat) (fi1 : Sl → Option (List PyData)) (fe : Sl → Option PyData) (ρw : Sl) : List PyData → Option (List PyData)
  | [] => some []
  | x :: xs => (bindP P x ρw).bind fun ρ1 => (fi1 ρ1).bind fun ys => (lcInF P1 fe (wipeD ρ1 vs1) ys).bind fun r => (lcOutF P P1 vs1 fi1 fe ρw xs).bind fun r2 => some (r ++ r2)
def fComp2 (P P1 : Pt) (own vs1 : List Nat) (fe : Sl → Option PyData) (fi fi1 : Sl → Option (List PyData)) : Sl → Option PyData := fun ρ => (fi ρ).bind fun xs => (lcOutF P P1 vs1 fi1 fe (wipeD ρ own) xs).bind fun r => if r.length ≤ 1000000 then some (.list r) else none
theorem lcInF_loop {P : Pt} {fe : Sl → Option PyData} {ρw : Sl} : ∀ (xs acc ys : List PyData) (n : Nat) (Q : List PyData → Nat → Prop), lcInF P fe ρw xs = some ys → acc.length + ys.length ≤ 1000000 → Q (acc ++ ys) n → lcIn P (PD fe) ρw xs acc n Q
  | [], acc, ys, n, Q, h, _, q => by
    cases h
    rw [List.append_nil] at q
    exact q
  | x :: xs, acc, ys, n, Q, h, hl, q => by
    unfold lcInF at h
    obtain ⟨ρ1, h1, h⟩ := Option.bind_eq_some_iff.mp h
    obtain ⟨d, h3, h⟩ := Option.bind_eq_some_iff.mp h
    obtain ⟨r, h4, h⟩ := Option.bind_eq_some_iff.mp h
    cases h
    rw [List.length_cons] at hl
    exact ⟨ρ1, h1, d, h3, by omega, lcInF_loop xs (acc ++ [d]) r n Q h4 (by rw [List.length_append, List.length_singleton]; omega) (by rw [List.append_assoc]; exact q)⟩
theorem lcOutF_loop {P P1 : Pt} {vs1 : List Nat} {fi1 : Sl → Option (List PyData)} {fe : Sl → Option PyData} {ρw : Sl} : ∀ (xs acc ys : List PyData) (n : Nat) (Q : List PyData → Nat → Prop), lcOutF P P1 vs1 fi1 fe ρw xs = some ys → acc.length + ys.length ≤ 1000000 → Q (acc ++ ys) n → lcOut P P1 vs1 fi1 (PD fe) ρw xs acc n Q
  | [], acc, ys, n, Q, h, _, q => by
    cases h
    rw [List.append_nil] at q
    exact q
  | x :: xs, acc, ys, n, Q, h, hl, q => by
    unfold lcOutF at h
    obtain ⟨ρ1, h1, h⟩ := Option.bind_eq_some_iff.mp h
    obtain ⟨zs, h2, h⟩ := Option.bind_eq_some_iff.mp h
    obtain ⟨r, h3, h⟩ := Option.bind_eq_some_iff.mp h
    obtain ⟨r2, h4, h⟩ := Option.bind_eq_some_iff.mp h
    cases h
    rw [List.length_append] at hl
    refine ⟨ρ1, h1, zs, h2, lcInF_loop zs acc r n _ h3 (by omega) ?_⟩
    exact lcOutF_loop xs (acc ++ r) r2 n Q h4 (by rw [List.length_append]; omega) (by rw [List.append_assoc]; exact q)
theorem v_comp2 {P P1 : Pt} {own vs1 : List Nat} {fe : Sl → Option PyData} {fi fi1 : Sl → Option (List PyData)} (h : DE X B e (dComp2 P P1 own vs1 (PD fe) fi fi1)) : DE X B e (PD (fComp2 P P1 own vs1 fe fi fi1)) := h.imp (fun ρ n Q ⟨d, ed, q⟩ => by
  obtain ⟨xs, e1, e2⟩ := Option.bind_eq_some_iff.mp ed
  obtain ⟨ys, e3, e4⟩ := Option.bind_eq_some_iff.mp e2
  split at e4
  · next hl =>
    cases e4
    exact ⟨xs, e1, lcOutF_loop xs [] ys n _ e3 (by rw [List.length_nil]; omega) q⟩
  · cases e4) pd_mono
end

/-! statements -/
section
variable {X : Cx} {B : Bs} {st : Stmt} {sts : List Stmt} {f : Sl → Option PyData} {fa : Sl → Option (List PyData)} {tf : Sl → Option Bool} {g h : Sl → Option Out} {i j l : Nat}
def gNext : Sl → Option Out := fun ρ => some (.nx ρ)
def gSeq (g h : Sl → Option Out) : Sl → Option Out := fun ρ => match g ρ with
  | some (.nx ρ') => h ρ'
  | o => o
theorem s_nil : DSs X B [] (PSD gNext) := dss_nil.imp (fun E ρ n ⟨o, eo, q⟩ => by cases eo; exact q) psd_mono
theorem s_cons (h1 : DS X B st (PSD g)) (h2 : DSs X B sts (PSD h)) : DSs X B (st :: sts) (PSD (gSeq g h)) := (dss_cons h1 h2).imp (fun E ρ n ⟨o, eo, q⟩ => by
  unfold gSeq at eo
  split at eo
  · next ρ' e => exact ⟨_, e, o, eo, q⟩
  · next o' hn =>
    cases o with
    | nx ρ' => exact absurd eo (hn ρ')
    | rt d => exact ⟨_, eo, q⟩) psd_mono
theorem s_one (h1 : DS X B st (PSD g)) : DSs X B [st] (PSD g) := dss_one h1
def gFrz (i : Nat) (g : Sl → Option Out) : Sl → Option Out := fun ρ => match ρ[i]? with
  | some (some (.own xs)) => g (ρ.set i (some (.d (.list xs))))
  | _ => none
theorem s_frz (i : Nat) (h1 : DSs X B sts (PSD g)) : DSs X B sts (PSD (gFrz i g)) := (dss_frz (i := i) h1).imp (fun E ρ n ⟨o, eo, q⟩ => by
  unfold gFrz at eo
  split at eo
  · next xs e => exact ⟨xs, e, o, eo, q⟩
  · cases eo) psd_mono
def gNever : Sl → Option Out := fun _ => none
theorem s_never : DS X B st (PSD gNever) := ds_never.imp (fun E ρ n ⟨o, eo, q⟩ => by cases eo) psd_mono
def gDrop (f : Sl → Option PyData) : Sl → Option Out := fun ρ => (f ρ).bind fun _ => some (.nx ρ)
theorem s_drop (h1 : DS X B st (dDrop (PD f))) : DS X B st (PSD (gDrop f)) := h1.imp (fun E ρ n ⟨o, eo, q⟩ => by
  obtain ⟨d, e1, e2⟩ := Option.bind_eq_some_iff.mp eo
  cases e2
  exact ⟨d, e1, q⟩) psd_mono
def gRet (f : Sl → Option PyData) : Sl → Option Out := fun ρ => (f ρ).bind fun d => some (.rt d)
theorem s_ret (h1 : DS X B st (dRet (PD f))) : DS X B st (PSD (gRet f)) := h1.imp (fun E ρ n ⟨o, eo, q⟩ => by
  obtain ⟨d, e1, e2⟩ := Option.bind_eq_some_iff.mp eo
  cases e2
  exact ⟨d, e1, q⟩) psd_mono
def gIf (t : Sl → Option Bool) (g h : Sl → Option Out) : Sl → Option Out := fun ρ => match t ρ with
  | some true => g ρ
  | some false => h ρ
  | none => none
theorem s_if (h1 : DS X B st (dIf (PDT tf) (PSD g) (PSD h))) : DS X B st (PSD (gIf tf g h)) := h1.imp (fun E ρ n ⟨o, eo, q⟩ => by
  unfold gIf at eo
  split at eo
  · next e => exact ⟨true, e, by (try dsimp only); rw [if_pos rfl]; exact ⟨o, eo, q⟩⟩
  · next e => exact ⟨false, e, by (try dsimp only); rw [if_neg Bool.false_ne_true]; exact ⟨o, eo, q⟩⟩
  · cases eo) psd_mono
def gSet (i : Nat) (f : Sl → Option PyData) : Sl → Option Out := fun ρ => (f ρ).bind fun d => some (.nx (ρ.set i (some (.d d))))
theorem s_set (h1 : DS X B st (dSet i (PD f))) : DS X B st (PSD (gSet i f)) := h1.imp (fun E ρ n ⟨o, eo, q⟩ => by
  obtain ⟨d, e1, e2⟩ := Option.bind_eq_some_iff.mp eo
  cases e2
  exact ⟨d, e1, q⟩) psd_mono
theorem s_setC {P : Pt} {own : List Nat} {tt : Sl → Option Bool} {fe : Sl → Option PyData} {fi : Sl → Option (List PyData)} (h1 : DS X B st (dSet i (dComp P own (PDT tt) (PD fe) fi))) : DS X B st (PSD (gSet i (fComp P own tt fe fi))) := h1.imp (fun E ρ n ⟨o, eo, q⟩ => by
  obtain ⟨d, e1, e2⟩ := Option.bind_eq_some_iff.mp eo
  cases e2
  exact fComp_imp ρ n _ ⟨d, e1, q⟩) psd_mono
def gSetOwn (i : Nat) (fa : Sl → Option (List PyData)) : Sl → Option Out := fun ρ => (fa ρ).bind fun ds => if ds.length ≤ 1000000 then some (.nx (ρ.set i (some (.own ds)))) else none
theorem s_setOwn (h1 : DS X B st (dSetOwn i (PDA fa))) : DS X B st (PSD (gSetOwn i fa)) := h1.imp (fun E ρ n ⟨o, eo, q⟩ => by
  obtain ⟨d, e1, e2⟩ := Option.bind_eq_some_iff.mp eo
  split at e2
  · next hl => cases e2; exact ⟨d, e1, hl, q⟩
  · cases e2) psd_mono
def gSetCat (i : Nat) (f f' : Sl → Option PyData) : Sl → Option Out := fun ρ => (f ρ).bind fun x => (f' ρ).bind fun y => match x, y with
  | .list xs, .list ys => if xs.length + ys.length ≤ 1000000 then some (.nx (ρ.set i (some (.own (xs ++ ys))))) else none
  | _, _ => none
theorem s_setCat {f' : Sl → Option PyData} (h1 : DS X B st (dSetCat i (PD f) (PD f'))) : DS X B st (PSD (gSetCat i f f')) := h1.imp (fun E ρ n ⟨o, eo, q⟩ => by
  obtain ⟨x, e1, h2⟩ := Option.bind_eq_some_iff.mp eo
  obtain ⟨y, e2, h3⟩ := Option.bind_eq_some_iff.mp h2
  clear eo h2
  split at h3
  · next xs ys =>
    split at h3
    · next hl => cases h3; exact ⟨_, e1, _, e2, xs, ys, rfl, rfl, hl, q⟩
    · cases h3
  · cases h3) psd_mono
def gApp (i : Nat) (f : Sl → Option PyData) : Sl → Option Out := fun ρ => match ρ[i]? with
  | some (some (.own xs)) => (f ρ).bind fun d => if xs.length < 1000000 then some (.nx (ρ.set i (some (.own (xs ++ [d]))))) else none
  | _ => none
theorem s_app (h1 : DS X B st (dApp i (PD f))) : DS X B st (PSD (gApp i f)) := h1.imp (fun E ρ n ⟨o, eo, q⟩ => by
  unfold gApp at eo
  split at eo
  · next xs e =>
    obtain ⟨d, e1, e2⟩ := Option.bind_eq_some_iff.mp eo
    split at e2
    · next hl => cases e2; exact ⟨xs, e, d, e1, hl, q⟩
    · cases e2
  · cases eo) psd_mono
def gExt (i : Nat) (f : Sl → Option PyData) : Sl → Option Out := fun ρ => match ρ[i]? with
  | some (some (.own xs)) => (f ρ).bind fun d => match d with
    | .list ys => if xs.length + ys.length ≤ 1000000 then some (.nx (ρ.set i (some (.own (xs ++ ys))))) else none
    | _ => none
  | _ => none
theorem s_ext (h1 : DS X B st (dExt i (PD f))) : DS X B st (PSD (gExt i f)) := h1.imp (fun E ρ n ⟨o, eo, q⟩ => by
  unfold gExt at eo
  split at eo
  · next xs e =>
    obtain ⟨d, e1, e2⟩ := Option.bind_eq_some_iff.mp eo
    clear eo
    split at e2
    · next ys =>
      split at e2
      · next hl => cases e2; exact ⟨xs, e, _, e1, ys, rfl, hl, q⟩
      · cases e2
    · cases e2
  · cases eo) psd_mono
def gBind (P : Pt) (f : Sl → Option PyData) : Sl → Option Out := fun ρ => (f ρ).bind fun d => (bindP P d ρ).bind fun ρ' => some (.nx ρ')
theorem s_bind {P : Pt} (h1 : DS X B st (dBind P (PD f))) : DS X B st (PSD (gBind P f)) := h1.imp (fun E ρ n ⟨o, eo, q⟩ => by
  obtain ⟨d, e1, e2⟩ := Option.bind_eq_some_iff.mp eo
  obtain ⟨ρ', e3, e4⟩ := Option.bind_eq_some_iff.mp e2
  cases e4
  exact ⟨d, e1, ρ', e3, q⟩) psd_mono
def gPar (i j : Nat) (fa : Sl → Option (List PyData)) : Sl → Option Out := fun ρ => (fa ρ).bind fun ds => match ds with
  | [x, y] => some (.nx ((ρ.set i (some (.d x))).set j (some (.d y))))
  | _ => none
theorem s_par (h1 : DS X B st (dPar i j (PDA fa))) : DS X B st (PSD (gPar i j fa)) := h1.imp (fun E ρ n ⟨o, eo, q⟩ => by
  obtain ⟨d, e1, e2⟩ := Option.bind_eq_some_iff.mp eo
  clear eo
  split at e2
  · next x y => cases e2; exact ⟨_, e1, x, y, rfl, q⟩
  · cases e2) psd_mono
def gPar3 (i j l : Nat) (fa : Sl → Option (List PyData)) : Sl → Option Out := fun ρ => (fa ρ).bind fun ds => match ds with
  | [x, y, z] => some (.nx (((ρ.set i (some (.d x))).set j (some (.d y))).set l (some (.d z))))
  | _ => none
theorem s_par3 (h1 : DS X B st (dPar3 i j l (PDA fa))) : DS X B st (PSD (gPar3 i j l fa)) := h1.imp (fun E ρ n ⟨o, eo, q⟩ => by
  obtain ⟨d, e1, e2⟩ := Option.bind_eq_some_iff.mp eo
  clear eo
  split at e2
  · next x y z => cases e2; exact ⟨_, e1, x, y, z, rfl, q⟩
  · cases e2) psd_mono
def gParOO (i j : Nat) : Sl → Option Out := fun ρ => some (.nx ((ρ.set i (some (.own []))).set j (some (.own []))))
theorem s_parOO (h1 : DS X B st (dParOO i j)) : DS X B st (PSD (gParOO i j)) := h1.imp (fun E ρ n ⟨o, eo, q⟩ => by cases eo; exact q) psd_mono
def gParOD (i j : Nat) (f : Sl → Option PyData) : Sl → Option Out := fun ρ => (f ρ).bind fun d => some (.nx ((ρ.set i (some (.own []))).set j (some (.d d))))
theorem s_parOD (h1 : DS X B st (dParOD i j (PD f))) : DS X B st (PSD (gParOD i j f)) := h1.imp (fun E ρ n ⟨o, eo, q⟩ => by
  obtain ⟨d, e1, e2⟩ := Option.bind_eq_some_iff.mp eo
  cases e2
  exact ⟨d, e1, q⟩) psd_mono
def gLoop (P : Pt) (g : Sl → Option Out) : List PyData → Sl → Option Out
  | [], ρ => some (.nx ρ)
  | x :: xs, ρ => (bindP P x ρ).bind fun ρ1 => match g ρ1 with
    | some (.nx ρ2) => gLoop P g xs ρ2
    | o => o
def gFor (P : Pt) (fi : Sl → Option (List PyData)) (g : Sl → Option Out) : Sl → Option Out := fun ρ => (fi ρ).bind fun xs => gLoop P g xs ρ
theorem gLoop_d {P : Pt} : ∀ (xs : List PyData) (E : DEnds) (ρ : Sl) (n : Nat), PSD (gLoop P g xs) E ρ n → dLoop P (PSD g) xs E ρ n
  | [], E, ρ, n, ⟨o, eo, q⟩ => by cases eo; exact q
  | x :: xs, E, ρ, n, ⟨o, eo, q⟩ => by
    unfold gLoop at eo
    obtain ⟨ρ1, e1, e2⟩ := Option.bind_eq_some_iff.mp eo
    clear eo
    refine ⟨ρ1, e1, ?_⟩
    split at e2
    · next ρ2 e => exact ⟨_, e, gLoop_d xs E ρ2 n ⟨o, e2, q⟩⟩
    · next o' hn =>
      cases o with
      | nx ρ' => exact absurd e2 (hn ρ')
      | rt d => exact ⟨_, e2, q⟩
theorem s_for {P : Pt} {fi : Sl → Option (List PyData)} (h1 : DS X B st (dFor P fi (PSD g))) : DS X B st (PSD (gFor P fi g)) := h1.imp (fun E ρ n ⟨o, eo, q⟩ => by
  obtain ⟨xs, e1, e2⟩ := Option.bind_eq_some_iff.mp eo
  exact ⟨xs, e1, gLoop_d xs E ρ n ⟨o, e2, q⟩⟩) psd_mono
end
end K50

set_option Elab.async false
set_option linter.all false
set_option maxRecDepth 100000
set_option maxHeartbeats 4000000
/-! constructs that the hand layer lacks: tuple * 0 and * 1, enumerate of a tuple, max with a default, sum of a tuple, repr of data -/
namespace PySem
open Sem (wp)
open AutoSeq1 (wpAny_loadPart')
/-- t * 1 is t -/
theorem tupTimes_one (l : Addr) (items : Array Value) (n : Nat) (dd : Option Addr) (sl : Array (Option Value)) (x : Int) (u : Tok) (c0 : (decide (x < -(2 ^ 63)) || decide (x ≥ 2 ^ 63)) = false) (c1 : (items.isEmpty || x == 1) = true) :
    Meets (Builtin.«tuple.__mul__» ⟨[.ref l, .int x u], []⟩) (fun _ R s => s.heap.get? l = some { cls := .type "tuple", dict := dd, data := .seq items n, slots := sl } ∧ R (.ok (.ret (Value.ref l))) s) :=
  .of_wp fun prog w A R s h => by
    obtain ⟨hp, g, d, tk, os⟩ := s
    obtain ⟨hl, hR⟩ := h
    have f1 := AutoSeq1.idx_int
    wp_walk using wpAny_loadPart' hl
    repeat (first
      | (refine wpAny_ite_false (decide_eq_false (by rw [c0]; exact Bool.false_ne_true)) ?_; wp_walk using wpAny_loadPart' hl)
      | (refine wpAny_ite_true (decide_eq_true c1) ?_; wp_walk using wpAny_loadPart' hl))
    exact ⟨_, rfl, hR⟩
/-- t * 0 is a new empty tuple -/
theorem tupTimes_zero (l : Addr) (items : Array Value) (n : Nat) (dd : Option Addr) (sl : Array (Option Value)) (x : Int) (u : Tok) (c0 : (decide (x < -(2 ^ 63)) || decide (x ≥ 2 ^ 63)) = false) (c1 : (items.isEmpty || x == 1) = false) (c2 : (decide (x ≤ 0) || items.isEmpty) = true) :
    Meets (Builtin.«tuple.__mul__» ⟨[.ref l, .int x u], []⟩) (fun _ R s => s.heap.get? l = some { cls := .type "tuple", dict := dd, data := .seq items n, slots := sl } ∧
      R (.ok (.ret (Value.ref s.heap.objs.size))) { s with heap := s.heap.push { cls := Value.type "tuple", data := Data.seq #[] }, toks := s.toks }) :=
  .of_wp fun prog w A R s h => by
    obtain ⟨hp, g, d, tk, os⟩ := s
    obtain ⟨hl, hR⟩ := h
    have f1 := AutoSeq1.idx_int
    wp_walk using wpAny_loadPart' hl
    repeat (first
      | (refine wpAny_ite_false (decide_eq_false (by rw [c0]; exact Bool.false_ne_true)) ?_; wp_walk using wpAny_loadPart' hl)
      | (refine wpAny_ite_false (decide_eq_false (by rw [c1]; exact Bool.false_ne_true)) ?_; wp_walk using wpAny_loadPart' hl)
      | (refine wpAny_ite_true (decide_eq_true c2) ?_; wp_walk using wpAny_loadPart' hl))
    exact ⟨_, rfl, hR⟩
end PySem

namespace K50
open PySem PySem.Spec PyProof.Rows L2
/-- a tuple times 0 or 1 -/
def rTim (K : PySem.W.Frag) : R2 := fun x y H Q => ∃ l k xs, x = .ref l ∧ y = .int k ∧ SqT K H l xs ∧ ((xs = [] ∨ k = 1) ∧ -1000 ≤ k ∧ k ≤ 1000 ∧ Q (.ref l) H ∨ xs ≠ [] ∧ k = 0 ∧ ∀ p, H p = none → Q (.ref p) (upd H p (.tup [])))
theorem op_tim {X : Cx} : OpR X (binaryOp .Mult) (rTim X.K) := by
  intro pins s σ H x y v u Q I rx ry h
  obtain ⟨l, k, xs, rfl, rfl, hT, h⟩ := h
  cases rx
  obtain ⟨t, rfl⟩ := ry
  obtain ⟨its, r, ⟨⟨cls, dd, data, sl⟩, ho, hc, n, hd⟩, hs⟩ := I.tuple hT
  simp only at hc hd
  subst hc hd
  have hle : its.length = xs.length := r.length.symm
  have road : ∀ {Q' : Value → Shared → Prop}, (decide (k < -(2 ^ 63)) || decide (k ≥ 2 ^ 63)) = false → wpAny (model X.prog X.w) X.A (call (.builtin "tuple.__mul__") [.ref l, .int k t]) Q' X.xe s → wpAny (model X.prog X.w) X.A (binaryOp .Mult (.ref l) (.int k t)) Q' X.xe s := fun {Q'} c0 hq =>
    wpAny_binaryOp_repeat_ref (T := "tuple") (U := "int") (by decide) ⟨_, ho, rfl⟩ (fun s' => typeIs_int s' k t) noFill_tuple_mul F.fills_int_mul F.slot_int_rmul repeat_tuple F.slot_int_index.lookup
      (call_meets F.slot_int_rmul (typeIs_int s k t) F.entry_int_rmul (F.args_int_rmul_2 _ _) (int_rmul_tuple k t l its.toArray n dd sl) ⟨ho, rfl, ⟨_, ho, rfl⟩, hq⟩)
  rcases h with ⟨h1, hk1, hk2, q⟩ | ⟨h1, rfl, q⟩
  · have c0 : (decide (k < -(2 ^ 63)) || decide (k ≥ 2 ^ 63)) = false := by
      rw [decide_eq_false (by omega), decide_eq_false (by omega)] <;> rfl
    have c1 : (its.toArray.isEmpty || k == 1) = true := by
      rcases h1 with h1 | h1
      · subst h1
        have e : its = [] := List.eq_nil_of_length_eq_zero hle
        rw [e]
        rfl
      · subst h1
        simp
    exact road c0 (call_meets F.slot_tuple_mul ⟨_, ho, rfl⟩ F.entry_tuple_mul (F.args_tuple_mul_2 _ _) (tupTimes_one l its.toArray n dd sl k t c0 c1) ⟨ho, ⟨.ref l, H, I, rfl, q⟩⟩)
  · have hne : its ≠ [] := fun e => h1 (by
      rw [e] at hle
      exact List.eq_nil_of_length_eq_zero hle.symm)
    have c1 : (its.toArray.isEmpty || (0 : Int) == 1) = false := by
      cases its with
      | nil => exact absurd rfl hne
      | cons a b => rfl
    refine road rfl (call_meets F.slot_tuple_mul ⟨_, ho, rfl⟩ F.entry_tuple_mul (F.args_tuple_mul_2 _ _) (tupTimes_zero l its.toArray n dd sl 0 t rfl c1 rfl) ⟨ho, ?_⟩)
    refine ⟨.ref s.heap.objs.size, _, I.laid (t' := s.toks) (o := .tup []) (fun b ob q => Heap.get?_push_of_some _ q) (Nat.le_refl _) ?_, rfl, q _ (I.hok.fresh (Nat.le_refl _))⟩
    exact ⟨Nat.zero_le _, [], .nil, IsTup.new _ _⟩
theorem snd_mul {K : PySem.W.Frag} : Snd2 (fun x y H Q => rI CMul (fun i j => .int (i * j)) x y H Q ∨ rTim K x y H Q ∨ rRepT K x y H Q) opMul := by
  intro F H v w x y z Q s hv hw e q
  unfold opMul at e
  split at e
  · next a b =>
    split at e
    · next hk =>
      cases e
      refine .inl ⟨a, b, hv.int_inv, hw.int_inv, ?_, q F H _ (Stp.refl s) (.int _)⟩
      rcases hk with hk | hk
      · exact .inl ⟨by omega, by omega⟩
      · exact .inr ⟨by omega, by omega⟩
    · cases e
  · next xs k =>
    split at e
    · next hk =>
      cases e
      obtain ⟨⟨h0, h1⟩, h2⟩ := hk
      obtain ⟨a, vs, rfl, ha, za, fa⟩ := hv.tup_inv
      have la := fa.length
      have hT : SqT K H a vs := SqT.of (s _ _ ha)
      by_cases hx : vs = []
      · have hx' : xs = [] := fa.nil_iff.mp hx
        subst hx'
        refine .inr (.inl ⟨a, k, vs, rfl, hw.int_inv, hT, .inl ⟨.inl hx, by omega, by omega, q F H _ (Stp.refl s) ?_⟩⟩)
        have : (List.replicate k.toNat ([] : List PyData)).flatten = [] := by
          induction k.toNat with
          | zero => rfl
          | succ m ih => rw [List.replicate_succ, List.flatten_cons, ih]; rfl
        rw [this]
        exact .tup ha za fa
      · by_cases hk1 : k = 1
        · subst hk1
          refine .inr (.inl ⟨a, 1, vs, rfl, hw.int_inv, hT, .inl ⟨.inr rfl, by omega, by omega, q F H _ (Stp.refl s) ?_⟩⟩)
          have : (List.replicate (1 : Int).toNat xs).flatten = xs := by
            show xs ++ [] = xs
            rw [List.append_nil]
          rw [this]
          exact .tup ha za fa
        · by_cases hk0 : k = 0
          · subst hk0
            exact .inr (.inl ⟨a, 0, vs, rfl, hw.int_inv, hT, .inr ⟨hx, rfl, fun p hp => q _ _ _ (Stp.new s hp) (Fz.newT s hp (Nat.zero_le _) .nil)⟩⟩)
          · refine .inr (.inr ⟨a, k, vs, rfl, hw.int_inv, hT, hx, by omega, h1, by omega, fun p hp => q _ _ _ (Stp.new s hp) (Fz.newT s hp ?_ (fa.rep _))⟩)
            rw [PyProof.Rows.lm_len_rep_flat]
            have a1 : k.toNat * vs.length ≤ 1000 * 1000 := Nat.mul_le_mul (by omega) (by omega)
            exact mil (by omega)
    · cases e
  · cases e
theorem de_mul {X : Cx} {B : Bs} {a b : Expr} {ta tb : TD} {pos : Pos} (ha : DE X B a ta) (hb : DE X B b tb) : DE X B (.BinOp a .Mult b pos) (d2 opMul ta tb) := de_d2 (snd_mul (K := X.K)) (pe_op (OpR.or op_mul (OpR.or op_tim op_repT)) ha.pe hb.pe) ha hb
end K50

set_option Elab.async false
set_option linter.all false
set_option maxRecDepth 100000
set_option maxHeartbeats 4000000
/-! enumerate, zip -/
namespace PySem
open Sem (wp)
open AutoSeq1 (wpAny_loadPart')
theorem enumNew_tuple (l : Addr) (items : Array Value) (n : Nat) (dct : Option Addr) (sl : Array (Option Value)) :
    Meets (Builtin.«enumerate.__new__» ⟨[.type "enumerate", .ref l], []⟩) (fun _ R s => s.heap.get? l = some { cls := .type "tuple", dict := dct, data := .seq items n, slots := sl } ∧
      R (.ok (.ret (.ref (s.heap.push { cls := .type "tuple_iterator", data := .fields #[.ref l, .int 0 0] }).objs.size)))
        { s with heap := (s.heap.push { cls := .type "tuple_iterator", data := .fields #[.ref l, .int 0 0] }).push { cls := .type "enumerate", data := .fields #[.none, .bool false, .ref s.heap.objs.size, rawInt 0, .none, .none] } }) :=
  .of_wp fun prog w A R s h => by
    obtain ⟨hp, g, d, tk, os⟩ := s
    obtain ⟨hl, hR⟩ := h
    have hsub := sub_enumerate
    have hT : Heap.IsTuple (Shared.heap ⟨hp, g, d, tk, os⟩) l items := ⟨_, hl, rfl, n, rfl⟩
    wp_walk using wpAny_loadPart' hl
    refine wpAny_stack_any fun st => wpAny_pure ?_
    split
    · rename_i c _ _ _ _ _
      cases (c == Value.type "enumerate") <;> (wp_walk using wpAny_loadPart' hl, wpAny_pyIter_tuple hT) <;> exact ⟨_, rfl, hR⟩
    · wp_walk using wpAny_loadPart' hl, wpAny_pyIter_tuple hT
      exact ⟨_, rfl, hR⟩
theorem call_enumT {prog : Program} {w : World} {A : Around} {E : Value → Shared → Prop} {s : Shared} {l : Addr} {items : Array Value} {Q : Value → Shared → Prop} (hT : s.heap.IsTuple l items)
    (h : ∀ h', IsEnum h' (s.heap.objs.size + 1) s.heap.objs.size 0 .none → h'.IsTupleIter s.heap.objs.size l 0 → h'.objs.size = s.heap.objs.size + 2 → (∀ b o, s.heap.get? b = some o → h'.get? b = some o) → Q (.ref (s.heap.objs.size + 1)) { s with heap := h' }) :
    wpAny (model prog w) A (call (.type "enumerate") [.ref l]) Q E s := by
  obtain ⟨⟨c, dct, dt, sl⟩, hl, hc, n, hd⟩ := hT
  have hc' : c = .type "tuple" := hc
  have hd' : dt = .seq items n := hd
  subst hc' hd'
  refine callType_new F.called_enumerate (by decide) (F.typeCall_enumerate_1 _) (F.newCall_enumerate_1 _) (fun obj => F.args_object_init_2 obj _) F.entry_enumerate_new (enumNew_tuple l items n dct sl) ⟨hl, ?_⟩
  let oI : Obj := { cls := .type "tuple_iterator", data := .fields #[.ref l, .int 0 0] }
  let oE : Obj := { cls := .type "enumerate", data := .fields #[.none, .bool false, .ref s.heap.objs.size, rawInt 0, .none, .none] }
  have hz : (s.heap.push oI).objs.size = s.heap.objs.size + 1 := Heap.size_push ..
  have he : IsEnum ((s.heap.push oI).push oE) (s.heap.objs.size + 1) s.heap.objs.size 0 .none := by
    have q := Heap.get?_push_size (s.heap.push oI) (o := oE) rfl
    rw [hz] at q
    exact q
  show _ ∧ _
  rw [hz]
  exact ⟨⟨_, he, rfl⟩, h _ he ⟨_, Heap.get?_push_of_some _ (Heap.get?_push_size _ rfl), rfl, rfl⟩ (by rw [Heap.size_push, hz]) fun b o x => Heap.get?_push_of_some _ (Heap.get?_push_of_some _ x)⟩
theorem enumT_end {prog : Program} {w : World} {A : Around} {E : Value → Shared → Prop} {s : Shared} {e it l : Addr} {i : Nat} {items : Array Value} {old : Value} {Q : Option Value → Shared → Prop} (hh : A.handled = none)
    (he : IsEnum s.heap e it i old) (hit : s.heap.IsTupleIter it l i) (hl : s.heap.IsTuple l items) (hx : items[i]? = none) (hQ : ∀ h', Heap.ExtBut it s.heap h' → Q none { s with heap := h' }) : wpAny (model prog w) A (pyNext (.ref e)) Q E s := by
  have ty : s.TypeIs (.ref e) "enumerate" := ⟨_, he, rfl⟩
  unfold pyNext
  refine wpAny_bind (wpAny_attempt (wpAny_callSpecial?_slot (name := Str.ofString "__next__") ty F.slot_enumerate_next (wpAny_call_entry F.slot_enumerate_next ty F.entry_enumerate_next ?_ (F.args_enumerate_next_1 _))))
  show wpAny _ _ (field (.ref e) 2 >>= _) _ _ _
  refine wpAny_bind (wpAny_field he rfl (x := .ref it) rfl (wpAny_bind (wpAny_nextOf_tuple_end hh hit hl hx fun h' x ext cls => ?_)))
  obtain ⟨o, ho, hc⟩ := cls
  refine wpAny_bind (wpAny_isInstance (T := "StopIteration") (b := true) ⟨o, ho, hc⟩ isSubtype_stop ?_)
  exact wpAny_pure (hQ _ ext)
end PySem

namespace K50
open PySem PySem.Spec PyProof.Rows L2
/-- the tuple at a, each item in a new pair behind its number -/
def IteT (K : PySem.W.Frag) (a : Addr) : It where
  go := fun i H => ∃ (xs : List V) (x : V), SqT K H a xs ∧ xs[i]? = some x
  yld := fun i H v H' => ∃ (T : Addr) (x : V), v = .ref T ∧ H T = none ∧ H' = upd H T (.tup [.int (i : Nat), x]) ∧ ∀ xs, SqT K H a xs → xs[i]? = some x
  stop := fun i H => ∃ xs : List V, SqT K H a xs ∧ xs.length ≤ i
theorem turn_enumT {P : Program} {w : World} {K : PySem.W.Frag} {elts : List Expr} {kk : Nat} {tpos : Pos} (a e it : Addr) (hai : a ≠ it) (hae : a ≠ e) :
    Turn P w K (.Tuple elts kk tpos) (IteT K a) [e, it] e (fun i h => (∃ old, IsEnum h e it ((i : Nat) : Int) old) ∧ h.IsTupleIter it a i ∧ e ≠ it) where
  mem := by simp
  obj := by
    rintro i h ⟨⟨old, he⟩, ⟨o, ho, hc, hd⟩, _⟩ b hb
    rcases (by simpa using hb : b = e ∨ b = it) with rfl | rfl
    · exact ⟨_, he, fun v q => nomatch q⟩
    · exact ⟨o, ho, fun v q => by rw [hd] at q; cases q⟩
  keep := by
    rintro i h h' ⟨⟨old, he⟩, hi, hne⟩ k
    exact ⟨⟨old, k e (by simp) _ he⟩, hi.at fun o q => k it (by simp) o q, hne⟩
  item := by
    intro X hP hw hK hc i pins s σ H E I hf st hg
    subst hP hw hK
    obtain ⟨⟨old, he⟩, hit, hne⟩ := st
    obtain ⟨xs, x, hq, hx⟩ := hg
    obtain ⟨its, rv, p, hz⟩ := I.tuple hq
    obtain ⟨u, hu, ru⟩ := rv.get hx
    have hil : i < its.toArray.size := by
      have := (List.getElem?_eq_some_iff.mp hu).1
      simpa using this
    have Dr := Draws.tuple (prog := X.prog) (w := X.w) (A := X.A.in1) (I.ok.hd hc) it a hai its.toArray
    refine wpAny_pyNext_enum_itemD Dr he ⟨hit, p⟩ hil hne (by simp [hne]; exact fun q => hae q.symm) fun y h' tk hy ho st' hT hsz hk => ?_
    have e1 : y = u := by
      have : its.toArray[i]? = some u := by simpa using hu
      rw [this] at hy
      exact (Option.some.inj hy).symm
    subst e1
    have hel : e < s.heap.objs.size := Heap.lt_size he
    have hitl : it < s.heap.objs.size := by
      obtain ⟨_, q, _⟩ := hit
      exact Heap.lt_size q
    refine ⟨_, rfl, wpAny_letOwnedTupleGo_enum (s := { s with heap := h', toks := tk + 1 }) ho fun h'' he' sb => ?_⟩
    have hT2 : h''.get? s.heap.objs.size = some { cls := .type "tuple", data := .seq #[.int i tk, y] } := (sb.2 _ (Nat.ne_of_gt hel)).trans hT
    have new : ObjOk X.prog X.w (upd H s.heap.objs.size (.tup [.int (i : Nat), x])) h'' s.heap.objs.size (.tup [.int (i : Nat), x]) :=
      ⟨by show 2 ≤ sizeLine; decide, [.int i tk, y], .cons ⟨_, rfl⟩ (.cons ru .nil), ⟨_, hT2, rfl, _, rfl⟩⟩
    have I1 : Inv X pins σ (upd H s.heap.objs.size (.tup [.int (i : Nat), x])) { s with heap := h'', toks := tk + 1 } :=
      I.turnedNew (ch := [e, it]) (fun b ob hb q => (sb.2 b (fun z => hb (by simp [z]))).trans (hk b ob (fun z => hb (by simp [z])) (fun z => hb (by simp [z])) q)) hf (Nat.le_refl _) new
    refine ⟨.ref s.heap.objs.size, _, I1, rfl, ⟨_, x, rfl, I.hok.fresh (Nat.le_refl _), rfl, fun ys hy' => by rw [I.tuple_inj hy' hq]; exact hx⟩, ⟨⟨y, ?_⟩, st'.1.at fun o q => (sb.2 it (Ne.symm hne)).trans q, hne⟩, fun b hb => ?_⟩
    · rw [show ((i + 1 : Nat) : Int) = (i : Int) + 1 by omega]
      exact he'
    · have hb' : b < s.heap.objs.size := by
        rcases (by simpa using hb : b = e ∨ b = it) with z | z
        · rw [z]; exact hel
        · rw [z]; exact hitl
      rw [upd_ne (Nat.ne_of_lt hb')]
      exact (hf b hb).1
  done := by
    intro X hP hw hK hc i pins s σ H E I hf st hg
    subst hP hw hK
    obtain ⟨⟨old, he⟩, hit, hne⟩ := st
    obtain ⟨xs, hq, hx⟩ := hg
    obtain ⟨its, rv, p, hz⟩ := I.tuple hq
    obtain ⟨f0, f1, f2, f3, f4, f5⟩ := hf it (by simp)
    have hl := rv.length
    exact enumT_end (I.ok.hd hc) he hit p (by simp; omega) fun h' eb => ⟨rfl, I.turned (t' := s.toks) (fun b o hb q => eb b o hb q) f0 f1 f3 f4 f5⟩
  self := fun A i s Q E st h => by
    obtain ⟨⟨_, he⟩, _⟩ := st
    exact wpAny_pyIter_enum he h
def iEnumT (K : PySem.W.Frag) (ta : TA) : TI := fun σ H R => ta σ H fun vs H1 => ∃ a xs, vs = [.ref a] ∧ SqT K H1 a xs ∧ R (IteT K a) H1
section
variable {X : Cx} {B : Bs} {e e2 : Expr} {p pos tpos : Pos} {elts : List Expr} {kk : Nat} {f g : Sl → Option PyData}
theorem pi_enumT {ta : TA} (hg : Gl X "enumerate") (hm : X.mg "enumerate" = none) (ha : PA X [e] ta) (hs : starEach [e] X.env = [(false, eval e X.env)] := by rfl) : PI X (.Tuple elts kk tpos) (.Call (.Name "enumerate" p) [e] [] pos) (iEnumT X.K ta) := by
  constructor
  intro pins s σ H R I h
  refine Call_ (ld_blt I hg hm boot_enumerate (PyProof.Rows.callWith_type1 (thn (ha.run pos pins s σ H _ I h) ?_) hs rfl))
  rintro us s1 ⟨vs, H1, I1, r1, a, xs, rfl, hq, q⟩
  obtain ⟨u, rfl, ru⟩ := Vals.one r1
  obtain rfl : u = .ref a := ru
  obtain ⟨its, rv, p', hz⟩ := I1.tuple hq
  have hal : a < s1.heap.objs.size := by
    obtain ⟨o, ho, _⟩ := id p'
    exact Heap.lt_size ho
  refine call_enumT (show s1.heap.IsTuple a its.toArray from p') fun h' he hit hsz hk => wpAny_pyIter_enum he ?_
  refine ⟨s1.heap.objs.size + 1, [s1.heap.objs.size + 1, s1.heap.objs.size], _, _, H1, rfl, I1.kept (t' := s1.toks) hk, turn_enumT a (s1.heap.objs.size + 1) s1.heap.objs.size (Nat.ne_of_lt hal) (Nat.ne_of_lt (Nat.lt_succ_of_lt hal)), ⟨⟨.none, he⟩, hit, Nat.succ_ne_self _⟩, fun b hb => ?_, q⟩
  have hle : s1.heap.objs.size ≤ b := by
    rcases (by simpa using hb : b = s1.heap.objs.size + 1 ∨ b = s1.heap.objs.size) with z | z
    · rw [z]; exact Nat.le_add_right _ _
    · rw [z]; exact Nat.le_refl _
  exact I1.fpOk hle (I1.hok.fresh hle)
def enumD : Nat → List PyData → List PyData
  | _, [] => []
  | i, x :: xs => .tuple [.int (i : Nat), x] :: enumD (i + 1) xs
theorem enumD_get : ∀ (xs : List PyData) (k i : Nat) (y : PyData), (enumD k xs)[i]? = some y → ∃ x, xs[i]? = some x ∧ y = .tuple [.int ((k + i : Nat) : Int), x]
  | [], _, _, _, h => by simp [enumD] at h
  | x :: xs, k, 0, y, h => by
    simp [enumD] at h
    exact ⟨x, rfl, h.symm⟩
  | x :: xs, k, i + 1, y, h => by
    have h' : (enumD (k + 1) xs)[i]? = some y := by simpa [enumD] using h
    obtain ⟨z, h1, h2⟩ := enumD_get xs (k + 1) i y h'
    exact ⟨z, by simpa using h1, by rw [h2]; congr 3; omega⟩
theorem enumD_len : ∀ (xs : List PyData) (k : Nat), (enumD k xs).length = xs.length
  | [], _ => rfl
  | x :: xs, k => by simp [enumD, enumD_len xs]
theorem pair_new {F H : Hp} {T : Addr} {i : Int} {u : V} {x : PyData} (s : Same F H) (hT : H T = none) (fu : Fz F u x) : Fz (upd F T (.tup [.int i, u])) (.ref T) (.tuple [.int i, x]) :=
  Fz.newT s hT (by show 2 ≤ sizeLine; decide) (.cons (.int _) (.cons fu .nil))
theorem itD_enumL {K : PySem.W.Frag} {F : Hp} {a : Addr} {vs : List V} {xs : List PyData} (ha : F a = some (.lst vs)) (hz : vs.length ≤ sizeLine) (hf : FzAll F vs xs) : ItD (Ite K a) F (enumD 0 xs) where
  small := by rw [enumD_len, ← hf.length]; exact hz
  goes := fun F' H i s1 s2 hi => ⟨vs, vs[i]'(by rw [enumD_len] at hi; rw [hf.length]; exact hi), SqL.of (s2 _ _ (s1 _ _ ha)), by simp⟩
  stops := fun F' H s1 s2 => ⟨vs, SqL.of (s2 _ _ (s1 _ _ ha)), by rw [enumD_len, hf.length]; exact Nat.le_refl _⟩
  yields := fun F' H i y v H' s1 s2 hx ⟨T, u, e1, hT, e2, hy⟩ => by
    subst e1 e2
    obtain ⟨x, h1, rfl⟩ := enumD_get xs 0 i y hx
    obtain ⟨u', hu, fu⟩ := hf.get h1
    have := hy vs (SqL.of (s2 _ _ (s1 _ _ ha)))
    rw [hu] at this
    cases this
    rw [Nat.zero_add]
    exact ⟨_, Stp.new s2 hT, pair_new s2 hT (Fz.mono s1 _ _ fu)⟩
theorem itD_enumT {K : PySem.W.Frag} {F : Hp} {a : Addr} {vs : List V} {xs : List PyData} (ha : F a = some (.tup vs)) (hz : vs.length ≤ sizeLine) (hf : FzAll F vs xs) : ItD (IteT K a) F (enumD 0 xs) where
  small := by rw [enumD_len, ← hf.length]; exact hz
  goes := fun F' H i s1 s2 hi => ⟨vs, vs[i]'(by rw [enumD_len] at hi; rw [hf.length]; exact hi), SqT.of (s2 _ _ (s1 _ _ ha)), by simp⟩
  stops := fun F' H s1 s2 => ⟨vs, SqT.of (s2 _ _ (s1 _ _ ha)), by rw [enumD_len, hf.length]; exact Nat.le_refl _⟩
  yields := fun F' H i y v H' s1 s2 hx ⟨T, u, e1, hT, e2, hy⟩ => by
    subst e1 e2
    obtain ⟨x, h1, rfl⟩ := enumD_get xs 0 i y hx
    obtain ⟨u', hu, fu⟩ := hf.get h1
    have := hy vs (SqT.of (s2 _ _ (s1 _ _ ha)))
    rw [hu] at this
    cases this
    rw [Nat.zero_add]
    exact ⟨_, Stp.new s2 hT, pair_new s2 hT (Fz.mono s1 _ _ fu)⟩
def fEnum (f : Sl → Option PyData) : Sl → Option (List PyData) := fun ρ => ((f ρ).bind itemsOf).bind fun xs => some (enumD 0 xs)
theorem di_enum (hg : Gl X "enumerate") (hm : X.mg "enumerate" = none) (he : DE X B e (PD f)) (hs : starEach [e] X.env = [(false, eval e X.env)] := by rfl) : DI X B (.Tuple elts kk tpos) (.Call (.Name "enumerate" p) [e] [] pos) (fEnum f) := by
  refine pi_wk (pi_or (pi_enum hg hm (pa_cons he.pe pa_nil hs) hs) (pi_enumT hg hm (pa_cons he.pe pa_nil hs) hs)) fun σ H R ⟨F, ρ, n, xs, Rp', ex, q⟩ => ?_
  obtain ⟨ys, e0, e3⟩ := Option.bind_eq_some_iff.mp ex
  cases e3
  obtain ⟨d, e1, e2⟩ := Option.bind_eq_some_iff.mp e0
  unfold itemsOf at e2
  split at e2
  · next zs =>
    cases e2
    refine .inl ⟨F, ρ, n, Rp', _, e1, fun F1 H1 v st iv hv => ?_⟩
    obtain ⟨a, vs, rfl, ha, za, fa⟩ := hv.lst_inv
    exact ⟨a, vs, rfl, SqL.of (st.s _ _ ha), q F1 H1 _ st iv (itD_enumL ha za fa)⟩
  · next zs =>
    cases e2
    refine .inr ⟨F, ρ, n, Rp', _, e1, fun F1 H1 v st iv hv => ?_⟩
    obtain ⟨a, vs, rfl, ha, za, fa⟩ := hv.tup_inv
    exact ⟨a, vs, rfl, SqT.of (st.s _ _ ha), q F1 H1 _ st iv (itD_enumT ha za fa)⟩
  · cases e2
/-! zip of two tuples -/
def zipD : List PyData → List PyData → List PyData
  | x :: xs, y :: ys => .tuple [x, y] :: zipD xs ys
  | _, _ => []
theorem zipD_get : ∀ (xs ys : List PyData) (i : Nat) (z : PyData), (zipD xs ys)[i]? = some z → ∃ x y, xs[i]? = some x ∧ ys[i]? = some y ∧ z = .tuple [x, y]
  | [], _, _, _, h => by simp [zipD] at h
  | _ :: _, [], _, _, h => by simp [zipD] at h
  | x :: xs, y :: ys, 0, z, h => by
    simp [zipD] at h
    exact ⟨x, y, rfl, rfl, h.symm⟩
  | x :: xs, y :: ys, i + 1, z, h => by
    have h' : (zipD xs ys)[i]? = some z := by simpa [zipD] using h
    obtain ⟨a, b, h1, h2, h3⟩ := zipD_get xs ys i z h'
    exact ⟨a, b, by simpa using h1, by simpa using h2, h3⟩
theorem zipD_len : ∀ (xs ys : List PyData), (zipD xs ys).length = min xs.length ys.length
  | [], _ => by simp [zipD]
  | _ :: _, [] => by simp [zipD]
  | x :: xs, y :: ys => by
    simp only [zipD, List.length_cons, zipD_len xs ys]
    omega
theorem itD_zip {K : PySem.W.Frag} {F : Hp} {a b : Addr} {vs ws : List V} {xs ys : List PyData} (ha : F a = some (.tup vs)) (hb : F b = some (.tup ws)) (hz : vs.length ≤ sizeLine) (hf : FzAll F vs xs) (hg : FzAll F ws ys) : ItD (RZ.ItzT K a b) F (zipD xs ys) where
  small := by
    rw [zipD_len]
    have := hf.length
    exact Nat.le_trans (Nat.min_le_left _ _) (by omega)
  goes := fun F' H i s1 s2 hi => by
    rw [zipD_len] at hi
    have h1 := hf.length
    have h2 := hg.length
    exact ⟨vs, ws, vs[i]'(by omega), ws[i]'(by omega), SqT.of (s2 _ _ (s1 _ _ ha)), SqT.of (s2 _ _ (s1 _ _ hb)), by simp, by simp⟩
  stops := fun F' H s1 s2 => by
    rw [zipD_len]
    have h1 := hf.length
    have h2 := hg.length
    exact ⟨vs, ws, SqT.of (s2 _ _ (s1 _ _ ha)), SqT.of (s2 _ _ (s1 _ _ hb)), by omega⟩
  yields := fun F' H i z v H' s1 s2 hx ⟨T, x, y, e1, hT, e2, hy1, hy2⟩ => by
    subst e1 e2
    obtain ⟨x', y', h1, h2, rfl⟩ := zipD_get xs ys i z hx
    obtain ⟨u, hu, fu⟩ := hf.get h1
    obtain ⟨t, ht, ft⟩ := hg.get h2
    have q1 := hy1 vs (SqT.of (s2 _ _ (s1 _ _ ha)))
    have q2 := hy2 ws (SqT.of (s2 _ _ (s1 _ _ hb)))
    rw [hu] at q1
    rw [ht] at q2
    cases q1
    cases q2
    exact ⟨_, Stp.new s2 hT, Fz.newT s2 hT (by show 2 ≤ sizeLine; decide) (.cons (Fz.mono s1 _ _ fu) (.cons (Fz.mono s1 _ _ ft) .nil))⟩
def zipOf : PyData → PyData → Option (List PyData)
  | .tuple xs, .tuple ys => some (zipD xs ys)
  | _, _ => none
def fZip (f g : Sl → Option PyData) : Sl → Option (List PyData) := fun ρ => (f ρ).bind fun x => (g ρ).bind fun y => zipOf x y
theorem di_zip (hg : Gl X "zip") (hm : X.mg "zip" = none) (he : DE X B e (PD f)) (he2 : DE X B e2 (PD g)) (hs : starEach [e, e2] X.env = (false, eval e X.env) :: starEach [e2] X.env := by rfl) (hs2 : starEach [e2] X.env = (false, eval e2 X.env) :: starEach [] X.env := by rfl) (hpl : (backTo pos (starEach [e2] X.env)).any (·.1) = false := by rfl) :
    DI X B (.Tuple elts kk tpos) (.Call (.Name "zip" p) [e, e2] [] pos) (fZip f g) := by
  refine pi_wk (RZ.pi_zipA hg hm (pa_cons he.pe (pa_cons he2.pe pa_nil hs2) hs) hs hpl) fun σ H R ⟨F, ρ, n, xs, R0, ex, q⟩ => ?_
  obtain ⟨x, e1, h1⟩ := Option.bind_eq_some_iff.mp ex
  obtain ⟨y, e3, h2⟩ := Option.bind_eq_some_iff.mp h1
  clear ex h1
  unfold zipOf at h2
  split at h2
  · next xs ys =>
    cases h2
    refine ⟨F, ρ, n, R0, _, e1, fun F1 H1 v st iv hv => ?_⟩
    have R1 := R0.goS st iv
    refine ⟨F1, ρ, n, R1, _, e3, fun F2 H2 w st2 iv2 hw => ?_⟩
    obtain ⟨a, vs, rfl, ha, za, fa⟩ := (Fz.mono st2.f _ _ hv).tup_inv
    obtain ⟨b, ws, rfl, hb, zb, fb⟩ := hw.tup_inv
    exact ⟨a, b, vs, ws, rfl, .inr ⟨SqT.of (st2.s _ _ ha), SqT.of (st2.s _ _ hb), q F2 H2 _ (st.trans st2) iv2 (itD_zip ha hb za fa fb)⟩⟩
  · cases h2
end
end K50

set_option Elab.async false
set_option linter.all false
set_option maxRecDepth 100000
set_option maxHeartbeats 4000000
/-! max with a default, sum of a tuple, chains, index, repr, calls by keywords -/
namespace PySem
open Sem (wp)
section
variable {prog : Program} {w : World} {A : Around} {I : Addr} {fp wr : List Addr} {n : Nat} {P : Nat → Value → Prop} {St : Nat → Heap → Prop}
/-- the loop of max behind its first item, a default at hand -/
theorem maxD_loop {R : Result → Shared → Prop} (dv : Value) (W : Walks prog w A.in1 I fp wr n P St) (bt : Nat → Nat → Bool) (cmp : CmpOf prog w A.in1 .Gt P bt) (S : Addr) (out : S ∉ fp) :
    ∀ (left j : Nat) (s : Shared) (best : Value) (c : Nat), n - (j + 1) = left → j + 1 ≤ n → St (j + 1) s.heap → P (argBest bt j) best → s.heap.get? S = some { cls := .type "list", dict := none, data := .seq #[best, best] c, slots := #[] } →
    (∀ v h' tk, P (argBest bt (n - 1)) v → (∀ b o, b ∉ wr → b ≠ S → s.heap.get? b = some o → h'.get? b = some o) → R (.ok (.ret v)) { s with heap := h', toks := tk }) →
    codeAny (model prog w) A (.builtin "max.loop" ⟨[.ref I, .none, .ref S], [("default", dv)]⟩) R s := by
  have outW : S ∉ wr := fun q => out (W.sub _ q)
  have nm : (toString "max" ++ toString ".loop" : String) = "max.loop" := by decide
  intro left
  induction left with
  | zero =>
    intro j s best c e1 e2 st pb hS fin
    have e3 : j + 1 = n := by omega
    refine codeAny_builtin F.entry_max_loop ?_
    rw [Around.under_plainId F.plain_max_loop _]
    show wpAny _ A.in1 (seqItems? (.ref S) >>= _) _ _ s
    refine wpAny_bind (wpAny_seqItems hS rfl ?_)
    show wpAny _ A.in1 (tryCatch (pyNext (.ref I)) _ >>= _) _ _ s
    refine wpAny_bind (wpAny_tryCatch (W.done s _ _ (e3 ▸ st) fun h' tk kp => ?_))
    have hS1 := kp S _ outW hS
    show wpAny _ A.in1 (updateSeq S (fun _ => #[]) >>= _) _ _ _
    refine wpAny_bind (wpAny_updateSeq hS1 rfl (wpAny_bind (wpAny_letGo (wpAny_pure ?_))))
    exact fin best _ tk (by rw [← e3]; exact pb) fun b o h1 h2 q => (Heap.get?_update_other _ _ (Ne.symm h2)).trans (kp b o h1 q)
  | succ left ih =>
    intro j s best c e1 e2 st pb hS fin
    have lt : j + 1 < n := by omega
    refine codeAny_builtin F.entry_max_loop ?_
    rw [Around.under_plainId F.plain_max_loop _]
    show wpAny _ A.in1 (seqItems? (.ref S) >>= _) _ _ s
    refine wpAny_bind (wpAny_seqItems hS rfl ?_)
    show wpAny _ A.in1 (tryCatch (pyNext (.ref I)) _ >>= _) _ _ s
    refine wpAny_bind (wpAny_tryCatch (W.item (j + 1) s _ _ lt st fun v h' tk pv st' kp => ?_))
    have hS1 := kp S _ outW hS
    show wpAny _ A.in1 (tryCatch (holding [v, v] (richCompare .Gt v best >>= _)) _ >>= _) _ _ _
    refine wpAny_bind (wpAny_tryCatch (wpAny_holding (wpAny_bind (cmp (j + 1) (argBest bt j) v best _ _ _ pv pb ?_))))
    refine wpAny_bind (wpAny_holding (wpAny_truthy_bool (wpAny_bind (wpAny_letGo (wpAny_pure ?_)))))
    cases q : bt (j + 1) (argBest bt j) with
    | true =>
      simp only [if_true]
      refine wpAny_bind (wpAny_updateSeq hS1 rfl (wpAny_bind (wpAny_letGo ?_)))
      rw [nm]
      refine wpAny_pure ⟨plainId_quiet F.plain_max_loop _, ih (j + 1) _ v _ (by omega) lt (W.frame _ _ _ st' fun b hb o e => (Heap.get?_update_other _ _ (fun z : S = b => out (z ▸ hb))).trans e) (by simp only [argBest, q, if_true]; exact pv) (Heap.get?_update_self _ hS1 rfl)
        fun v' h'' tk'' pv' kp' => fin v' h'' tk'' pv' fun b o h1 h2 e => kp' b o h1 h2 ((Heap.get?_update_other _ _ (Ne.symm h2)).trans (kp b o h1 e))⟩
    | false =>
      simp only [Bool.false_eq_true, if_false]
      refine wpAny_bind (wpAny_letGo ?_)
      rw [nm]
      exact wpAny_pure ⟨plainId_quiet F.plain_max_loop _, ih (j + 1) _ best c (by omega) lt st' (by simp only [argBest, q, Bool.false_eq_true, if_false]; exact pb) hS1
        fun v' h'' tk'' pv' kp' => fin v' h'' tk'' pv' fun b o h1 h2 e => kp' b o h1 h2 (kp b o h1 e)⟩
theorem maxD_first {R : Result → Shared → Prop} (dv : Value) (W : Walks prog w A.in1 I fp wr n P St) (bt : Nat → Nat → Bool) (cmp : CmpOf prog w A.in1 .Gt P bt) (S : Addr) (out : S ∉ fp) (pos : 0 < n) {s : Shared} {c : Nat} (st : St 0 s.heap)
    (hS : s.heap.get? S = some { cls := .type "list", dict := none, data := .seq #[] c, slots := #[] })
    (fin : ∀ v h' tk, P (argBest bt (n - 1)) v → (∀ b o, b ∉ wr → b ≠ S → s.heap.get? b = some o → h'.get? b = some o) → R (.ok (.ret v)) { s with heap := h', toks := tk }) :
    codeAny (model prog w) A (.builtin "max.loop" ⟨[.ref I, .none, .ref S], [("default", dv)]⟩) R s := by
  have outW : S ∉ wr := fun q => out (W.sub _ q)
  have nm : (toString "max" ++ toString ".loop" : String) = "max.loop" := by decide
  refine codeAny_builtin F.entry_max_loop ?_
  rw [Around.under_plainId F.plain_max_loop _]
  show wpAny _ A.in1 (seqItems? (.ref S) >>= _) _ _ s
  refine wpAny_bind (wpAny_seqItems hS rfl ?_)
  show wpAny _ A.in1 (tryCatch (pyNext (.ref I)) _ >>= _) _ _ s
  refine wpAny_bind (wpAny_tryCatch (W.item 0 s _ _ pos st fun v h' tk pv st' kp => ?_))
  have hS1 := kp S _ outW hS
  show wpAny _ A.in1 (updateSeq S (fun _ => #[v, v]) >>= _) _ _ _
  refine wpAny_bind (wpAny_updateSeq hS1 rfl ?_)
  rw [nm]
  exact wpAny_pure ⟨plainId_quiet F.plain_max_loop _, maxD_loop dv W bt cmp S out _ 0 _ v _ rfl pos (W.frame _ _ _ st' fun b hb o e => (Heap.get?_update_other _ _ (fun z : S = b => out (z ▸ hb))).trans e) pv (Heap.get?_update_self _ hS1 rfl)
    fun v' h'' tk'' pv' kp' => fin v' h'' tk'' pv' fun b o h1 h2 e => kp' b o h1 h2 ((Heap.get?_update_other _ _ (Ne.symm h2)).trans (kp b o h1 e))⟩
theorem maxD_args (a v : Value) : argsOk "max" ⟨[a], [(Str.ofString "default", v)]⟩ := by unfold argsOk; kernel_rfl
theorem call_maxD {E : Value → Shared → Prop} {s : Shared} {a : Addr} {items : Array Value} {dv : Value} {Q : Value → Shared → Prop} (hh : A.handled = none) (ht : s.heap.IsTuple a items) (pos : 0 < items.size) (val : Nat → Int) (hval : ∀ i v, items[i]? = some v → ∃ t, v = Value.int (val i) t)
    (fin : ∀ j t h' tk, j < items.size → (∀ i, i < items.size → val i ≤ val j) → (∀ b o, s.heap.get? b = some o → h'.get? b = some o) → Q (.int (val j) t) { s with heap := h', toks := tk }) :
    wpAny (model prog w) A (call (.builtin "max") [.ref a] [(Str.ofString "default", dv)]) Q E s := by
  have nm : (toString "max" ++ toString ".loop" : String) = "max.loop" := by decide
  have hal : a < s.heap.objs.size := by
    obtain ⟨o, ho, _⟩ := id ht
    exact Heap.lt_size ho
  refine PyProof.Rows.kmk_tree F.kind_max F.plain_max F.entry_max (maxD_args _ _) ?_
  show wpAny _ A.in1 (Builtin.Builtins.bindParams "max" ["key", "default"] 0 ⟨[], [(Str.ofString "default", dv)]⟩ >>= _) _ _ s
  refine wpAny_bind (wpAny_of_eq (show Builtin.Builtins.bindParams "max" ["key", "default"] 0 ⟨[], [(Str.ofString "default", dv)]⟩ = pure [none, some dv] from rfl) ?_)
  refine wpAny_bind (wpAny_pure (wpAny_bind (wpAny_pyIter_tuple ht (wpAny_bind (wpAny_newList ?_ (Nat.zero_le _))))))
  rw [nm]
  let oI : Obj := { cls := .type "tuple_iterator", data := .fields #[.ref a, .int 0 0] }
  have hS : (s.heap.push oI).objs.size = s.heap.objs.size + 1 := Heap.size_push ..
  have gI : ((s.heap.push oI).push { cls := .type "list", dict := none, data := .seq #[] 0, slots := #[] }).get? s.heap.objs.size = some oI := Heap.get?_push_of_some _ (Heap.get?_push_size _ rfl)
  have gS : ((s.heap.push oI).push { cls := .type "list", dict := none, data := .seq #[] 0, slots := #[] }).get? (s.heap.push oI).objs.size = some { cls := .type "list", dict := none, data := .seq #[] 0, slots := #[] } := Heap.get?_push_size _ rfl
  have ks : ∀ b o, s.heap.get? b = some o → ((s.heap.push oI).push { cls := .type "list", dict := none, data := .seq #[] 0, slots := #[] }).get? b = some o := fun b o e => Heap.get?_push_of_some _ (Heap.get?_push_of_some _ e)
  have W := Walks.tuple (prog := prog) (w := w) (A := A.in1) hh s.heap.objs.size a (Nat.ne_of_lt hal) items
  refine wpAny_pure ⟨plainId_quiet F.plain_max_loop _, maxD_first dv W _ (CmpOf.ints_gt val hval) (s.heap.push oI).objs.size (by rw [hS]; simp; exact fun q => absurd hal (by rw [← q]; exact Nat.not_lt.mpr (Nat.le_succ _))) pos ⟨⟨_, gI, rfl, rfl⟩, ht.at fun o e => ks a o e⟩ gS fun v h' tk pv kp => ?_⟩
  obtain ⟨t, rfl⟩ := hval _ v pv
  have hb := argBest_gt val (items.size - 1)
  refine fin _ t h' tk (by omega) (fun i hi => hb.2 i (by omega)) fun b o e => kp b o ?_ ?_ (ks b o e)
  · simp
    exact Nat.ne_of_lt (Heap.lt_size e)
  · rw [hS]
    exact Nat.ne_of_lt (Nat.lt_succ_of_lt (Heap.lt_size e))
/-- sum of a tuple of ints -/
theorem call_sumT {E : Value → Shared → Prop} {s : Shared} {a : Addr} {items : Array Value} {Q : Value → Shared → Prop} (hh : A.handled = none) (ht : s.heap.IsTuple a items) (val : Nat → Int) (hval : ∀ i v, items[i]? = some v → ∃ t, v = Value.int (val i) t)
    (fin : ∀ t h' tk, (∀ b o, s.heap.get? b = some o → h'.get? b = some o) → Q (.int (preSum val items.size) t) { s with heap := h', toks := tk }) :
    wpAny (model prog w) A (call (.builtin "sum") [.ref a]) Q E s := by
  have hal : a < s.heap.objs.size := by
    obtain ⟨o, ho, _⟩ := id ht
    exact Heap.lt_size ho
  refine call_sum_walkG (wpAny_pyIter_tuple ht ?_)
  have W := Walks.tuple (prog := prog) (w := w) (A := A.in1) hh s.heap.objs.size a (Nat.ne_of_lt hal) items
  refine ⟨s.heap.objs.size, _, _, _, _, _, val, rfl, W, ⟨⟨_, Heap.get?_push_size _ rfl, rfl, rfl⟩, ht.at fun o e => Heap.get?_push_of_some _ e⟩, fun b hb => ?_, hval, fun h' tk t' kp => fin t' h' tk fun b o e => kp b o ?_ (Heap.get?_push_of_some _ e)⟩
  · rw [Heap.size_push]
    rcases (by simpa using hb : b = s.heap.objs.size ∨ b = a) with z | z
    · rw [z]; exact Nat.lt_succ_self _
    · rw [z]; exact Nat.lt_succ_of_lt hal
  · simp
    exact Nat.ne_of_lt (Heap.lt_size e)
end
end PySem

namespace K50
open PySem PySem.Spec PyProof.Rows L2
section
variable {X : Cx} {B : Bs} {a b c e : Expr} {f g h : Sl → Option PyData} {ta tb tc : TD} {pos p p1 p2 kp : Pos} {j : Nat}
/-! max(t, default=d) of a tuple that is not empty -/
def rMaxT (K : PySem.W.Frag) : List V → List V → Hp → VK → Prop := fun vs zs H Q => ∃ (a : Addr) (ns : List Int) (d : Int), vs = [V.ref a] ∧ zs = [V.int d] ∧ SqT K H a (ns.map V.int) ∧ 0 < ns.length ∧ ∀ m, m ∈ ns → (∀ y, y ∈ ns → y ≤ m) → Q (.int m) H
theorem cr_maxT (hc : X.calm = true) : CallRK X (.builtin "max") [Str.ofString "default"] (rMaxT X.K) := by
  intro pins s σ H vs zs us ws Q I r rz h
  obtain ⟨a, ns, d, rfl, rfl, hs, hne, q⟩ := h
  obtain ⟨u, rfl, ru⟩ := Vals.one r
  obtain rfl : u = .ref a := ru
  obtain ⟨z, rfl, t, rfl⟩ := Vals.one rz
  obtain ⟨its, rv, ht, _⟩ := I.tuple hs
  have hl := rv.length
  rw [List.length_map] at hl
  have at_ : ∀ (i : Nat) (v : Value), its.toArray[i]? = some v → ∃ t, v = Value.int (ns.getD i 0) t ∧ i < ns.length := fun i v hv => by
    have hi : i < ns.length := by
      have := (Array.getElem?_eq_some_iff.mp hv).1
      simp at this
      omega
    obtain ⟨u, hu, ru⟩ := rv.get (i := i) (x := V.int (ns.getD i 0)) (by simp [hi])
    have : its[i]? = some v := by simpa using hv
    rw [this] at hu
    cases hu
    obtain ⟨t, e⟩ := ru
    exact ⟨t, e, hi⟩
  refine call_maxD (I.ok.hd hc) ht (by simp; omega) (fun i => ns.getD i 0) (fun i v hv => let ⟨t, e, _⟩ := at_ i v hv; ⟨t, e⟩) fun j t h' tk hj hb kp => ?_
  have hj' : j < ns.length := by simp at hj; omega
  refine ⟨.int (ns.getD j 0), H, I.kept kp, ⟨t, rfl⟩, q _ ?_ fun y hy => ?_⟩
  · rw [List.getD_eq_getElem?_getD, List.getElem?_eq_getElem hj', Option.getD_some]
    exact List.getElem_mem hj'
  · obtain ⟨i, hi, rfl⟩ := List.getElem_of_mem hy
    have := hb i (by simp; omega)
    rw [List.getD_eq_getElem?_getD, List.getElem?_eq_getElem hi, Option.getD_some] at this
    exact this
def maxI (n : Int) (ns : List Int) : Int := ns.foldl (fun a b => if a < b then b else a) n
theorem maxI_ok : ∀ (ns : List Int) (n : Int), (maxI n ns ∈ n :: ns) ∧ ∀ y ∈ n :: ns, y ≤ maxI n ns
  | [], n => ⟨by simp [maxI], by simp [maxI]⟩
  | m :: ns, n => by
    have ih := maxI_ok ns (if n < m then m else n)
    have e : maxI n (m :: ns) = maxI (if n < m then m else n) ns := rfl
    rw [e]
    refine ⟨?_, fun y hy => ?_⟩
    · rcases List.mem_cons.mp ih.1 with q | q
      · rw [q]
        split <;> simp
      · exact List.mem_cons_of_mem _ (List.mem_cons_of_mem _ q)
    · have h0 := ih.2 _ (List.mem_cons_self ..)
      rcases List.mem_cons.mp hy with q | q
      · subst q
        exact Int.le_trans (show y ≤ if y < m then m else y by split <;> omega) h0
      · rcases List.mem_cons.mp q with q | q
        · subst q
          exact Int.le_trans (show y ≤ if n < y then y else n by split <;> omega) h0
        · exact ih.2 y (List.mem_cons_of_mem _ q)
def opMaxT : PyData → Option PyData
  | .tuple xs => (intsOf xs).bind fun ns => match ns with
    | [] => none
    | n :: r => some (.int (maxI n r))
  | _ => none
theorem de_maxT (hc : X.calm = true) (hg : Gl X "max") (hm : X.mg "max" = none) (ha : DE X B a ta) {i k0 : _} {kpos cpos : Pos}
    (he : backTo pos (starEach [a] X.env) = (false, eval a X.env) :: backTo pos (starEach [] X.env) := by rfl) (hpl : (backTo pos (starEach [a] X.env)).any (·.1) = false := by rfl) (hst : starEach [a] X.env = (false, eval a X.env) :: starEach [] X.env := by rfl)
    (hall : (backToKw pos (keywordEach [⟨some "default", .Constant (.int i) k0 cpos, kpos⟩] X.env)).all (·.1.isSome) = true := by rfl) (hnone : (backToKw pos (keywordEach [⟨some "default", .Constant (.int i) k0 cpos, kpos⟩] X.env)).any (·.1.isNone) = false := by rfl)
    (hks : (backToKw pos (keywordEach [⟨some "default", .Constant (.int i) k0 cpos, kpos⟩] X.env)).filterMap (·.1) = [Str.ofString "default"] := by rfl) :
    DE X B (.Call (.Name "max" p) [a] [⟨some "default", .Constant (.int i) k0 cpos, kpos⟩] pos) (d1 opMaxT ta) := by
  refine ⟨pe_wk (pe_callBK (cr_maxT hc) hg hm (by decide +kernel) (pa_cons ha.pe pa_nil hst) (pk_cons pe_int pk_nil) (by decide) (by decide) he hpl hall hnone hks) fun σ H Q h => ?_, fun h q => d1_mono ha h q⟩
  refine d1_op (r := fun x H1 Q => rMaxT X.K [x] [.int i] H1 Q) ?_ ha σ H Q h
  intro F H v x z Q s hv e q
  unfold opMaxT at e
  split at e
  · next xs =>
    obtain ⟨ns, e1, e2⟩ := Option.bind_eq_some_iff.mp e
    clear e
    split at e2
    · cases e2
    · next n r =>
      cases e2
      obtain ⟨b, vs, rfl, hb, zb, fb⟩ := hv.tup_inv
      refine ⟨b, n :: r, i, rfl, rfl, ?_, by simp, fun m hm hle => ?_⟩
      · rw [← intsOf_v fb e1]
        exact SqT.of (s _ _ hb)
      · have ok := maxI_ok r n
        have : m = maxI n r := Int.le_antisymm (ok.2 m hm) (hle _ ok.1)
        rw [this]
        exact q F H _ (Stp.refl s) (.int _)
  · cases e
/-! sum of a tuple -/
theorem sum_pre : ∀ (ns : List Int) (k : Nat), preSum (fun i => ns.getD i 0) k = (ns.take k).sum
  | ns, 0 => by simp [preSum]
  | ns, k + 1 => by
    rw [preSum, sum_pre ns k, List.take_add_one, List.sum_append]
    congr 1
    rw [List.getD_eq_getElem?_getD]
    cases ns[k]? <;> simp
def rSumT (K : PySem.W.Frag) : List V → Hp → VK → Prop := fun vs H Q => ∃ (a : Addr) (ns : List Int), vs = [V.ref a] ∧ SqT K H a (ns.map V.int) ∧ Q (.int ns.sum) H
theorem cr_sumT (hc : X.calm = true) : CallR X (.builtin "sum") (rSumT X.K) := by
  intro pins s σ H vs us Q I r h
  obtain ⟨a, ns, rfl, hs, q⟩ := h
  obtain ⟨u, rfl, ru⟩ := Vals.one r
  obtain rfl : u = .ref a := ru
  obtain ⟨its, rv, ht, _⟩ := I.tuple hs
  have hl := rv.length
  rw [List.length_map] at hl
  refine call_sumT (I.ok.hd hc) ht (fun i => ns.getD i 0) (fun i v hv => ?_) fun t h' tk kp => ?_
  · have hi : i < ns.length := by
      have := (Array.getElem?_eq_some_iff.mp hv).1
      simp at this
      omega
    obtain ⟨u, hu, ru⟩ := rv.get (i := i) (x := V.int (ns.getD i 0)) (by simp [hi])
    have : its[i]? = some v := by simpa using hv
    rw [this] at hu
    cases hu
    exact ru
  · rw [sum_pre, List.take_of_length_le (by simp; omega)]
    exact ⟨.int ns.sum, H, I.kept kp, ⟨t, rfl⟩, q⟩
def opSum2 : List PyData → Option PyData
  | [.list xs] => (intsOf xs).map fun ns => .int ns.sum
  | [.tuple xs] => (intsOf xs).map fun ns => .int ns.sum
  | _ => none
theorem snd_sum2 {K : PySem.W.Frag} : SndC (fun xs H Q => rSum K xs H Q ∨ rSumT K xs H Q) opSum2 := by
  intro F H vs ds z Q s hv ez q
  unfold opSum2 at ez
  split at ez
  · next xs =>
    obtain ⟨ns, e1, e2⟩ := Option.map_eq_some_iff.mp ez
    subst e2
    obtain ⟨v, rfl, hv1⟩ := hv.one
    obtain ⟨a, ws, rfl, ha, za, fa⟩ := hv1.lst_inv
    refine .inl ⟨a, ns, rfl, ?_, q F H _ (Stp.refl s) (.int _)⟩
    rw [← intsOf_v fa e1]
    exact SqL.of (s _ _ ha)
  · next xs =>
    obtain ⟨ns, e1, e2⟩ := Option.map_eq_some_iff.mp ez
    subst e2
    obtain ⟨v, rfl, hv1⟩ := hv.one
    obtain ⟨a, ws, rfl, ha, za, fa⟩ := hv1.tup_inv
    refine .inr ⟨a, ns, rfl, ?_, q F H _ (Stp.refl s) (.int _)⟩
    rw [← intsOf_v fa e1]
    exact SqT.of (s _ _ ha)
  · cases ez
theorem de_sum2 {tl : TDA} (hc : X.calm = true) (hg : Gl X "sum") (hm : X.mg "sum" = none) (ha : DA X B [e] tl) (he : starEach [e] X.env = (false, eval e X.env) :: starEach [] X.env := by rfl) : DE X B (.Call (.Name "sum" p) [e] [] pos) (dC opSum2 tl) :=
  de_callB (snd_sum2 (K := X.K)) (fun pins s σ H xs us Q I r h => h.elim (cr_sum hc pins s σ H xs us Q I r) (cr_sumT hc pins s σ H xs us Q I r)) hg hm (by decide +kernel) ha (by decide) (by decide) he rfl
/-! a <= b <= c of ints -/
def fChain (f g h : Sl → Option PyData) : Sl → Option PyData := fun ρ => (f ρ).bind fun x => (g ρ).bind fun y => match x, y with
  | .int i, .int j => if i ≤ j then (h ρ).bind fun z => match z with
    | .int k => some (.bool (decide (j ≤ k)))
    | _ => none
    else some (.bool false)
  | _, _ => none
theorem v_chain (ha : DE X B a (PD f)) (hb : DE X B b (PD g)) (hc : DE X B c (PD h)) (hm : lastMarks [CmpOp.LtE, CmpOp.LtE] [b, c] = false := by with_unfolding_all rfl) : DE X B (.Compare a [.LtE, .LtE] [b, c] pos) (PD (fChain f g h)) := by
  refine ⟨pe_wk (pe_chain op_le op_le ha.pe hb.pe hc.pe hm) fun σ H Q ⟨F, ρ, n, R, z, ez, q⟩ => ?_, pd_mono⟩
  obtain ⟨x, e1, h1⟩ := Option.bind_eq_some_iff.mp ez
  obtain ⟨y, e2, h2⟩ := Option.bind_eq_some_iff.mp h1
  clear ez h1
  split at h2
  · next i j =>
    refine ⟨F, ρ, n, R, _, e1, fun F1 H1 v st iv hv => ?_⟩
    have R1 := R.goS st iv
    refine ⟨F1, ρ, n, R1, _, e2, fun F2 H2 w st2 iv2 hw => ?_⟩
    have R2 := R1.goS st2 iv2
    refine ⟨i, j, (Fz.mono st2.f _ _ hv).int_inv, hw.int_inv, decide (i ≤ j), rfl, ?_⟩
    split at h2
    · next hij =>
      rw [decide_eq_true hij, if_pos rfl]
      obtain ⟨u, e3, h3⟩ := Option.bind_eq_some_iff.mp h2
      clear h2
      split at h3
      · next k =>
        cases h3
        exact ⟨F2, ρ, n, R2, _, e3, fun F3 H3 w3 st3 iv3 hw3 => ⟨j, k, (Fz.mono st3.f _ _ hw).int_inv, hw3.int_inv, q F3 H3 _ ((st.trans st2).trans st3) iv3 (.bl _)⟩⟩
      · cases h3
    · next hij =>
      cases h2
      rw [decide_eq_false hij, if_neg Bool.false_ne_true]
      exact q F2 H2 _ (st.trans st2) iv2 (.bl _)
  · cases h2
/-! xs.index(x) of a list -/
def idxOf (d : PyData) : List PyData → Nat → Option Nat
  | [], _ => none
  | x :: xs, i => if PyData.eqv x d then some i else idxOf d xs (i + 1)
theorem idxOf_some {d : PyData} : ∀ (xs : List PyData) (i k : Nat), idxOf d xs i = some k → ∃ j z, k = i + j ∧ xs[j]? = some z ∧ PyData.eqv z d = true ∧ ∀ (m : Nat) (z' : PyData), m < j → xs[m]? = some z' → PyData.eqv z' d = false
  | [], _, _, h => by cases h
  | x :: xs, i, k, h => by
    unfold idxOf at h
    split at h
    · next hx => cases h; exact ⟨0, x, rfl, rfl, hx, fun m z' hm _ => absurd hm (Nat.not_lt_zero _)⟩
    · next hx =>
      obtain ⟨j, z, e1, e2, e3, e4⟩ := idxOf_some xs (i + 1) k h
      refine ⟨j + 1, z, by omega, by simpa using e2, e3, fun m z' hm hz => ?_⟩
      cases m with
      | zero =>
        simp at hz
        subst hz
        simpa using hx
      | succ m => exact e4 m z' (by omega) (by simpa using hz)
def opIndex : PyData → PyData → Option PyData
  | .list xs, d => if SeqAt.shaped (.list xs) && SeqAt.shaped d then (idxOf d xs 0).map fun k => .int (k : Nat) else none
  | _, _ => none
def dIndex (ta tb : TD) : TD := fun ρ n Q => ta ρ n fun x m => ∃ xs, x = .list xs ∧ tb ρ m fun y k => ∃ z, opIndex x y = some z ∧ Q z k
theorem de_index {ap cp : Pos} (hu : X.A.units + 65 < cLine) (ha : DE X B a ta) (hb : DE X B b tb) (hbase : attributeBase a "index" X.env (eval a X.env) = eval a X.env := by rfl)
    (hfew : ((backTo cp (starEach [b] X.env)).all (fun x => !x.1) && (backToKw cp (keywordEach [] X.env)).all (fun x => x.1.isSome) && decide ([b].length + ([] : List Keyword).length + (if ([] : List Keyword).isEmpty then 0 else 1) < 30)) = true := by rfl)
    (hline : (ap.endLine == cp.line) = true := by rfl) (hs : starEach [b] X.env = (false, eval b X.env) :: starEach [] X.env := by rfl) :
    DE X B (.Call (.Attribute a "index" ap) [b] [] cp) (dIndex ta tb) := by
  refine ⟨pe_wk (pe_bm PySem.F.plainAttrs_list PySem.F.slot_list_index PySem.F.type_list_index (mt_indexD hu) ha.pe (pa_cons hb.pe pa_nil hs) hbase hfew hline hs rfl) fun σ H Q h => ?_,
    fun h q => ha.mono (fun x m ⟨xs, e, q1⟩ => ⟨xs, e, hb.mono (fun y k ⟨z, e2, q2⟩ => ⟨z, e2, h _ _ q2⟩) q1⟩) q⟩
  obtain ⟨F, ρ, n, R, q⟩ := h
  refine ⟨F, ρ, n, R, ha.mono (fun x m ⟨xs, ex, q1⟩ F1 H1 v st iv hv => ?_) q⟩
  subst ex
  have R1 := R.goS st iv
  obtain ⟨l, vs, rfl, hl, zl, fl⟩ := hv.lst_inv
  refine ⟨Or.inl ⟨rfl, _, Or.inl (Or.inl (st.s _ _ hl))⟩, F1, ρ, m, R1, hb.mono (fun y k q2 F2 H2 w st2 iv2 hw => ?_) q1⟩
  obtain ⟨z, ez, q3⟩ := q2
  unfold opIndex at ez
  dsimp only at ez
  split at ez
  · next hsh =>
    obtain ⟨s1, s2⟩ := Bool.and_eq_true_iff.mp hsh
    obtain ⟨i, e1, e2⟩ := Option.map_eq_some_iff.mp ez
    subst e2
    obtain ⟨j, z', rfl, h1, h2, h3⟩ := idxOf_some xs 0 i e1
    refine ⟨l, w, y, xs, j, z', rfl, rfl, (Fz.mono st2.f _ _ hv).dp st2.s, hw.dp st2.s, s1, s2, h1, h2, h3, ?_⟩
    rw [Nat.zero_add] at q3
    exact q3 F2 H2 _ (st.trans st2) iv2 (.int _)
  · cases ez
theorem v_index {e : Expr} (q : DE X B e (dIndex (PD f) (PD g))) : DE X B e (PD (f2 opIndex f g)) := q.imp (fun ρ n Q ⟨d, ed, q⟩ => by
  obtain ⟨x, e1, h1⟩ := Option.bind_eq_some_iff.mp ed
  obtain ⟨y, e2, h2⟩ := Option.bind_eq_some_iff.mp h1
  refine ⟨x, e1, ?_⟩
  cases x with
  | list xs => exact ⟨xs, rfl, y, e2, d, h2, q⟩
  | _ => cases h2) pd_mono
/-! repr(a) == repr(b), by data -/
def opRepr : PyData → Option PyData
  | .bool b => some (.str (if b then "True" else "False"))
  | .tuple xs => if (PyData.tuple xs).showable && !(PyData.tuple xs).hasDict && decide ((PyData.tuple xs).depth ≤ 20) && decide ((PyData.tuple xs).shown.length ≤ 1000000) then some (.str (PyData.tuple xs).shown) else none
  | .list xs => if (PyData.list xs).showable && !(PyData.list xs).hasDict && decide ((PyData.list xs).depth ≤ 20) && decide ((PyData.list xs).shown.length ≤ 1000000) then some (.str (PyData.list xs).shown) else none
  | _ => none
def rRepr (K : PySem.W.Frag) : List V → Hp → VK → Prop := fun vs H Q => ∃ (v : V) (d : PyData), vs = [v] ∧ Dp K H v d ∧ ((∃ b, d = .bool b ∧ Q (.str (if b then "True" else "False")) H) ∨ (∃ a, v = .ref a ∧ d.showable = true ∧ d.hasDict = false ∧ d.depth ≤ 20 ∧ d.shown.length ≤ 1000000 ∧ Q (.str d.shown) H))
theorem cr_repr {k : Nat} (o : Rm X k) : CallR X (.builtin "repr") (rRepr X.K) := by
  intro pins s σ H vs us Q I r h
  obtain ⟨v, d, rfl, hd, h⟩ := h
  obtain ⟨u, rfl, ru⟩ := Vals.one r
  rcases h with ⟨b, rfl, q⟩ | ⟨a, rfl, h1, h2, h3, h4, q⟩
  · cases hd
    cases ru
    exact PySem.P.repr_of_bool ⟨.str (if b then "True" else "False"), H, I.tok _, ⟨_, rfl⟩, q⟩
  · obtain ⟨as, rd⟩ := Dp.reads I d _ _ hd ru
    obtain rfl : u = .ref a := ru
    have un := o.room.un
    exact repr_of_reads' rd h1 (fun z => by rw [h2] at z; cases z) o.gd (by omega) (fun b ob e => e) (fun h' u tk kp => ⟨.str d.shown, H, I.kept kp, ⟨_, rfl⟩, q⟩) (mil h4)
theorem snd_repr {K : PySem.W.Frag} : SndC (rRepr K) (fun ds => match ds with
    | [d] => opRepr d
    | _ => none) := by
  intro F H vs ds z Q s hv ez q
  dsimp only at ez
  split at ez
  · next d =>
    obtain ⟨v, rfl, hv1⟩ := hv.one
    unfold opRepr at ez
    split at ez
    · next b =>
      cases ez
      exact ⟨v, _, rfl, hv1.dp s, .inl ⟨b, rfl, q F H _ (Stp.refl s) (.str _)⟩⟩
    · next xs =>
      split at ez
      · next hk =>
        cases ez
        simp only [Bool.and_eq_true, Bool.not_eq_true', decide_eq_true_eq] at hk
        obtain ⟨a, ws, e, _⟩ := hv1.tup_inv
        exact ⟨v, _, rfl, hv1.dp s, .inr ⟨a, e, hk.1.1.1, hk.1.1.2, hk.1.2, hk.2, q F H _ (Stp.refl s) (.str _)⟩⟩
      · cases ez
    · next xs =>
      split at ez
      · next hk =>
        cases ez
        simp only [Bool.and_eq_true, Bool.not_eq_true', decide_eq_true_eq] at hk
        obtain ⟨a, ws, e, _⟩ := hv1.lst_inv
        exact ⟨v, _, rfl, hv1.dp s, .inr ⟨a, e, hk.1.1.1, hk.1.1.2, hk.1.2, hk.2, q F H _ (Stp.refl s) (.str _)⟩⟩
      · cases ez
    · cases ez
  · cases ez
def opRepr1 : List PyData → Option PyData := fun ds => match ds with
  | [d] => opRepr d
  | _ => none
theorem de_repr {tl : TDA} {k : Nat} (o : Rm X k) (hg : Gl X "repr") (hm : X.mg "repr" = none) (ha : DA X B [e] tl) (he : starEach [e] X.env = (false, eval e X.env) :: starEach [] X.env := by rfl) : DE X B (.Call (.Name "repr" p) [e] [] pos) (dC opRepr1 tl) :=
  de_callB (snd_repr (K := X.K)) (cr_repr o) hg hm (by decide +kernel) ha (by decide) (by decide) he rfl
end
end K50

set_option Elab.async false
set_option linter.all false
set_option maxRecDepth 100000
set_option maxHeartbeats 4000000
/-! the text by places, the facts of the module, calls by keywords -/
namespace K50
open PySem PySem.Spec PyProof.Rows L2
def top (i : Nat) : Stmt := PySem.Challenge.pw_holdfills_k50_whole_maps_of_books.main.body.getD i (.Pass ⟨0, 0, 0, 0⟩)
/-- a def of the text stands in the module under its name -/
def Has (K : PySem.W.Frag) (mg : Str → Option Value) (x : Str) (i : Nat) : Prop := ∃ f fd, FunD K x x (defArgs (top i)) (defBody (top i)) (defScope (top i)) [] [] f fd ∧ mg x = some (.ref f)
structure Txt (mg : Str → Option Value) : Prop where
  shapes : ∃ t, mg "MOST_SHAPES" = some (.int 60 t)
  places : ∃ t, mg "MOST_PLACES" = some (.int 12 t)
  thrice : ∃ t, mg "MOST_THRICE" = some (.int 5000 t)
  len : mg "len" = none
  isinstance : mg "isinstance" = none
  int : mg "int" = none
  bool : mg "bool" = none
  tuple : mg "tuple" = none
  range : mg "range" = none
  enumerate : mg "enumerate" = none
  sum : mg "sum" = none
  max : mg "max" = none
  list : mg "list" = none
  zip : mg "zip" = none
  repr : mg "repr" = none
section
variable {X : Cx} {B : Bs} {e : Expr} {es : List Expr} {pos p : Pos} {x : Str} {f : Sl → Option PyData} {k : Nat}
theorem de_gint {i : Int} (h : ∃ t, X.mg x = some (.int i t)) (hg : Gl X x) (hd : (x == ("__debug__" : Str)) = false := by decide) : DE X B (.Name x pos) (PD (fC (.int i))) := by
  obtain ⟨t, ht⟩ := h
  exact de_c (v := .int i) (pe_glob hg ht ⟨t, rfl⟩ hd) fun _ => .int _
def opNotV : PyData → Option PyData
  | .bool c => some (.bool (!c))
  | _ => none
theorem v_not (h : DE X B e (PD f)) : DE X B (.UnaryOp .Not e pos) (PD (f1 opNotV f)) := (de_not h).imp (fun ρ n Q ⟨d, ed, q⟩ => by
  obtain ⟨y, e1, e2⟩ := Option.bind_eq_some_iff.mp ed
  refine ⟨y, e1, ?_⟩
  unfold opNotV at e2
  split at e2
  · cases e2; exact ⟨_, rfl, q⟩
  · cases e2) pd_mono
theorem Rm.blk {s : Shared} {H : Hp} {scope : Scope} {cenv : PySem.Env} {fp : List Addr} (o : Rm X k) : Rm (X.blk s H scope cenv fp) k := ⟨o.calm, o.room, o.gd⟩
end

/-! f(k = v, ..), every parameter by its name -/
def perm {α : Type} (is : List Nat) (l : List α) : List α := is.filterMap fun i => l[i]?
theorem perm_vals {vs : List V} {us : List Value} (h : Vals vs us) : ∀ is : List Nat, Vals (perm is vs) (perm is us)
  | [] => .nil
  | i :: is => by
    unfold perm
    rw [List.filterMap_cons, List.filterMap_cons]
    cases e : vs[i]? with
    | none =>
      rw [h.none_of e]
      exact perm_vals h is
    | some v =>
      obtain ⟨u, hu, r⟩ := h.get e
      rw [hu]
      exact .cons r (perm_vals h is)
theorem perm_fz {F : Hp} {vs : List V} {ds : List PyData} (h : FzAll F vs ds) : ∀ is : List Nat, FzAll F (perm is vs) (perm is ds)
  | [] => .nil
  | i :: is => by
    unfold perm
    rw [List.filterMap_cons, List.filterMap_cons]
    cases e : ds[i]? with
    | none =>
      have : vs[i]? = none := by
        have hl := h.length
        exact List.getElem?_eq_none_iff.mpr (by have := List.getElem?_eq_none_iff.mp e; omega)
      rw [this]
      exact perm_fz h is
    | some d =>
      obtain ⟨v, hv, fv⟩ := h.get e
      rw [hv]
      exact .cons fv (perm_fz h is)
def CalK (P : Program) (w : World) (K : PySem.W.Frag) (mg : Str → Option Value) (base : Heap) (k : Nat) (x : Str) (ps ks : List Str) (is : List Nat) (sp : Sp) : Prop :=
  ∃ f fd, FnG P w K mg base k f fd ps sp ∧ mg x = some (.ref f) ∧ PySem.W.keepIn K (.ref f) = true ∧ ∀ (s : Shared) (ws : List Value), (perm is ws).length = ps.length → BindsTo s fd ⟨[], ks.zip ws⟩ (ps.zip (perm is ws))
structure DK (X : Cx) (B : Bs) (kws : List Keyword) (t : TDA) : Prop where
  pk : PK X kws (liftA B t)
  mono : ∀ {ρ n} {Q Q' : List PyData → Nat → Prop}, (∀ d m, Q d m → Q' d m) → t ρ n Q → t ρ n Q'
section
variable {X : Cx} {B : Bs} {e : Expr} {kws : List Keyword} {pos p kpos : Pos} {x : Str} {f : Sl → Option PyData} {g : Sl → Option (List PyData)} {j k n : Nat} {ps ks : List Str} {is : List Nat} {fm : List PyData → Option PyData} {nm : Option Str}
theorem pk_wk {te te' : TA} (h : PK X kws te) (w : ∀ σ H Q, te' σ H Q → te σ H Q) : PK X kws te' := ⟨fun pos pins s σ H Q I q => h.run pos pins s σ H Q I (w σ H Q q)⟩
theorem dk_nil : DK X B [] (PDA fNil) := ⟨pk_wk pk_nil fun σ H Q ⟨F, ρ, n, R, d, e, q⟩ => by cases e; exact q F H [] (Stp.refl R.step.s) R.inv .nil, pd_mono⟩
theorem dk_cons (ha : DE X B e (PD f)) (hr : DK X B kws (PDA g)) : DK X B (⟨nm, e, kpos⟩ :: kws) (PDA (fCons f g)) := by
  refine ⟨pk_wk (pk_cons ha.pe hr.pk) fun σ H Q ⟨F, ρ, n, R, d, ed, q⟩ => ?_, pd_mono⟩
  obtain ⟨y, e1, h1⟩ := Option.bind_eq_some_iff.mp ed
  obtain ⟨ys, e2, h2⟩ := Option.bind_eq_some_iff.mp h1
  cases h2
  refine ⟨F, ρ, n, R, y, e1, fun F1 H1 v st iv hv => ?_⟩
  refine ⟨F1, ρ, n, R.goS st iv, ys, e2, fun F2 H2 vs st2 iv2 hvs => ?_⟩
  exact q F2 H2 (v :: vs) (st.trans st2) iv2 (.cons (Fz.mono st2.f _ _ hv) hvs)
theorem v_callK (c : CalK X.prog X.w X.K X.mg X.base j x ps ks is (spF n fm)) (o : Rm X k) (hj : j ≤ k) (hl : ∀ ds z, fm ds = some z → ds.length = n) (hg : Gl X x) (hk : DK X B kws (PDA g))
    (hall : (backToKw pos (keywordEach kws X.env)).all (·.1.isSome) = true := by rfl) (hks : (backToKw pos (keywordEach kws X.env)).filterMap (·.1) = ks := by rfl) (hdb : (x == ("__debug__" : Str)) = false := by decide)
    (hpl : ((backTo pos (starEach [] X.env)).any (·.1) || (backToKw pos (keywordEach kws X.env)).any (·.1.isNone)) = false := by rfl) :
    DE X B (.Call (.Name x p) [] kws pos) (PD (fCall (fun ds => fm (perm is ds)) g)) := by
  obtain ⟨a, fd, F, hm, hkp, hb⟩ := c
  refine ⟨⟨fun pins s σ H Q I h => ?_⟩, pd_mono⟩
  obtain ⟨F1, ρ, m, R, z, ez, q⟩ := h
  obtain ⟨ds, e1, e2⟩ := Option.bind_eq_some_iff.mp ez
  refine wpAny_Call_Name_kw (ld_glob I hg hm ?_ hdb)
  refine PySem.W.callWith_KW0 (h₀ := X.base) I.ok.mod.kin hkp hall ?_ hpl
  refine thn (hk.pk.run pos pins s σ H (fun vs H2 => spF n fm (perm is vs) H2 Q E0) I ⟨F1, ρ, m, R, ds, e1, fun F2 H2 vs st iv hv => ⟨F2, perm is ds, z, st.s, perm_fz hv is, hl _ _ e2, e2, fun F3 H3 v st3 hv3 => q F3 H3 v (st.trans st3.wk) ((R.goS st iv).inv_go st3) hv3⟩⟩) ?_
  rintro ws s2 ⟨vs, H2, I2, r2, want⟩
  refine ⟨I2.kIn, ?_⟩
  rw [hks]
  have r3 := perm_vals r2 is
  exact runG' F (o.room.mono hj) o.gd (hb s2 ws (by rw [← r3.length]; exact F.len _ _ _ _ want)) I2 r3 want
end
/-! a def that is called by its keywords -/
section
variable {P : Program} {w : World} {K : PySem.W.Frag} {mg : Str → Option Value} {base : Heap} {k n : Nat} {ps ks N : List Str} {is : List Nat} {x : Str} {params : Arguments} {stmts : List Stmt} {scope : Scope} {body : Sl → Option Out}
theorem calK_of (hF : ∃ f fd, FunD K x x params stmts scope [] [] f fd ∧ mg x = some (.ref f)) (S : FnScope N ps scope) (hn : ps.length = n)
    (hbind : ∀ (kV doc pm : Value) (an : Option Addr) (cdv ct : Value) (ws : List Value), (perm is ws).length = ps.length → bindArgs (PySem.W.fnOf x x params stmts scope .none kV doc pm an cdv ct) ⟨[], ks.zip ws⟩ = pure (ps.zip (perm is ws)))
    (hb : ∀ (f : Addr) (cd : Value) (A : Around) (outer : List Env) (s : Shared) (H F : Hp), Rm (cxK P w K mg base N x scope f cd A outer s H).nox k → DSs (cxK P w K mg base N x scope f cd A outer s H).nox ⟨S0, F, H⟩ stmts (PSD body)) :
    CalK P w K mg base (k + 1) x ps ks is (spF n (runF n N.length body)) := by
  obtain ⟨f, fd, F, hm⟩ := hF
  refine ⟨f, fd, fnG_body F S hn hb, hm, F.kp, fun s ws hl => ?_⟩
  obtain ⟨oc, od, dV, kV, doc, pm, an, cdv, ct, osl, rfl, lk, hcd, hD, hK⟩ := F.ex
  rcases hD with ⟨_, rfl⟩ | ⟨e, _⟩
  · exact BindsTo.of_eq (hbind kV doc pm an cdv ct ws hl)
  · exact absurd rfl e
end
end K50

set_option Elab.async false
set_option linter.all false
set_option maxRecDepth 100000
set_option maxHeartbeats 4000000
/-! code that draws: every outcome, and how many draws at most -/
namespace K50
open PySem PySem.Spec PyProof.Rows L2

abbrev Nm (α : Type) := Option (Nat × List α)
def nAll {α β : Type} (k : α → Nm β) : List α → Nm β
  | [] => some (0, [])
  | a :: as => (k a).bind fun x => (nAll k as).bind fun y => some (max x.1 y.1, x.2 ++ y.2)
def nBind {α β : Type} (x : Nm α) (k : α → Nm β) : Nm β := x.bind fun y => (nAll k y.2).bind fun z => some (y.1 + z.1, z.2)
def nRet {α : Type} (a : α) : Nm α := some (0, [a])
def nOpt {α : Type} (o : Option α) : Nm α := o.bind nRet
def Nd {α : Type} (x : Nm α) (n : Nat) (Q : α → Nat → Prop) : Prop := ∃ y, x = some y ∧ n + y.1 ≤ 1000000 ∧ ∀ a ∈ y.2, ∀ m, n ≤ m → m ≤ n + y.1 → Q a m
theorem Nd.mono {α : Type} {x : Nm α} {n : Nat} {Q Q' : α → Nat → Prop} (h : ∀ a m, Q a m → Q' a m) : Nd x n Q → Nd x n Q' := fun ⟨y, e, l, q⟩ => ⟨y, e, l, fun a ha m h1 h2 => h _ _ (q a ha m h1 h2)⟩
theorem nAll_at {α β : Type} {k : α → Nm β} : ∀ {as : List α} {z : Nat × List β}, nAll k as = some z → ∀ a ∈ as, ∃ x, k a = some x ∧ x.1 ≤ z.1 ∧ ∀ b ∈ x.2, b ∈ z.2
  | [], _, _, a, ha => absurd ha (by simp)
  | c :: as, z, h, a, ha => by
    unfold nAll at h
    obtain ⟨x, h1, h⟩ := Option.bind_eq_some_iff.mp h
    obtain ⟨y, h2, h⟩ := Option.bind_eq_some_iff.mp h
    cases h
    rcases List.mem_cons.mp ha with rfl | ha
    · exact ⟨x, h1, Nat.le_max_left _ _, fun b hb => List.mem_append.mpr (.inl hb)⟩
    · obtain ⟨w, h3, h4, h5⟩ := nAll_at h2 a ha
      exact ⟨w, h3, Nat.le_trans h4 (Nat.le_max_right _ _), fun b hb => List.mem_append.mpr (.inr (h5 b hb))⟩
theorem Nd.bind {α β : Type} {x : Nm α} {k : α → Nm β} {n : Nat} {Q : β → Nat → Prop} (h : Nd (nBind x k) n Q) : Nd x n fun a m => Nd (k a) m Q := by
  obtain ⟨y, e, l, q⟩ := h
  obtain ⟨u, h1, h2⟩ := Option.bind_eq_some_iff.mp e
  obtain ⟨z, h3, h4⟩ := Option.bind_eq_some_iff.mp h2
  cases h4
  dsimp only at l q
  refine ⟨u, h1, by omega, fun a ha m m1 m2 => ?_⟩
  obtain ⟨w, h5, h6, h7⟩ := nAll_at h3 a ha
  exact ⟨w, h5, by omega, fun b hb m' m3 m4 => q b (h7 b hb) m' (by omega) (by omega)⟩
theorem Nd.ret {α : Type} {a : α} {n : Nat} {Q : α → Nat → Prop} (h : Nd (nRet a) n Q) : Q a n := by
  obtain ⟨y, e, l, q⟩ := h
  cases e
  exact q a (by simp) n (Nat.le_refl _) (by simp)
theorem Nd.opt {α : Type} {o : Option α} {n : Nat} {Q : α → Nat → Prop} (h : Nd (nOpt o) n Q) : ∃ a, o = some a ∧ Q a n := by
  cases o with
  | none => obtain ⟨y, e, _⟩ := h; cases e
  | some a => exact ⟨a, rfl, Nd.ret h⟩
theorem Nd.no {α : Type} {n : Nat} {Q : α → Nat → Prop} (h : Nd (none : Nm α) n Q) : False := by
  obtain ⟨y, e, _⟩ := h
  cases e
abbrev ND (f : Sl → Nm PyData) : TD := fun ρ n Q => Nd (f ρ) n Q
abbrev NDA (f : Sl → Nm (List PyData)) : TDA := fun ρ n Q => Nd (f ρ) n Q
abbrev NDT (f : Sl → Nm Bool) : TDT := fun ρ n Q => Nd (f ρ) n Q
section
variable {X : Cx} {B : Bs} {a b c e : Expr} {es : List Expr} {f g : Sl → Nm PyData} {fa : Sl → Nm (List PyData)} {tf tg : Sl → Nm Bool} {pos : Pos} {rest : List Expr}
/-! expressions -/
def nP {α : Type} (f : Sl → Option α) : Sl → Nm α := fun ρ => nOpt (f ρ)
theorem ne_p {f : Sl → Option PyData} (h : DE X B e (PD f)) : DE X B e (ND (nP f)) := h.imp (fun ρ n Q q => Nd.opt q) Nd.mono
theorem na_p {f : Sl → Option (List PyData)} (h : DA X B es (PDA f)) : DA X B es (NDA (nP f)) := h.imp (fun ρ n Q q => Nd.opt q) Nd.mono
theorem nt_p {f : Sl → Option Bool} (h : DT X B e (PDT f)) : DT X B e (NDT (nP f)) := h.imp (fun ρ n Q q => Nd.opt q) Nd.mono
def n2 (op : PyData → PyData → Option PyData) (f g : Sl → Nm PyData) : Sl → Nm PyData := fun ρ => nBind (f ρ) fun x => nBind (g ρ) fun y => nOpt (op x y)
theorem n2_d {op : PyData → PyData → Option PyData} (ρ : Sl) (n : Nat) (Q : PyData → Nat → Prop) (h : ND (n2 op f g) ρ n Q) : d2 op (ND f) (ND g) ρ n Q := Nd.mono (fun x m q => Nd.mono (fun y k z => Nd.opt z) (Nd.bind q)) (Nd.bind h)
theorem ne2 {op : PyData → PyData → Option PyData} (h : DE X B e (d2 op (ND f) (ND g))) : DE X B e (ND (n2 op f g)) := h.imp n2_d Nd.mono
def nIfE (t : Sl → Nm Bool) (f g : Sl → Nm PyData) : Sl → Nm PyData := fun ρ => nBind (t ρ) fun b => if b = true then f ρ else g ρ
theorem ne_if (hc : DT X B c (NDT tf)) (ha : DE X B a (ND f)) (hb : DE X B b (ND g)) : DE X B (.IfExp c a b pos) (ND (nIfE tf f g)) := (de_ifE hc ha hb).imp (fun ρ n Q q => Nd.mono (fun b m z => by
  cases b with
  | true => rw [if_pos rfl]; rw [if_pos rfl] at z; exact z
  | false => rw [if_neg Bool.false_ne_true]; rw [if_neg Bool.false_ne_true] at z; exact z) (Nd.bind q)) Nd.mono
def nCons (f : Sl → Nm PyData) (fr : Sl → Nm (List PyData)) : Sl → Nm (List PyData) := fun ρ => nBind (f ρ) fun x => nBind (fr ρ) fun xs => nRet (x :: xs)
theorem na_cons {fr : Sl → Nm (List PyData)} (ha : DE X B e (ND f)) (hr : DA X B es (NDA fr)) (hs : starEach (e :: es) X.env = (false, eval e X.env) :: starEach es X.env := by rfl) : DA X B (e :: es) (NDA (nCons f fr)) :=
  (da_cons ha hr hs).imp (fun ρ n Q q => Nd.mono (fun x m z => Nd.mono (fun xs k y => Nd.ret y) (Nd.bind z)) (Nd.bind q)) Nd.mono
theorem na_nil : DA X B [] (NDA fun _ => nRet []) := da_nil.imp (fun ρ n Q q => Nd.ret q) Nd.mono
def nCall (op : List PyData → Option PyData) (fa : Sl → Nm (List PyData)) : Sl → Nm PyData := fun ρ => nBind (fa ρ) fun ds => nOpt (op ds)
theorem nec {op : List PyData → Option PyData} (h : DE X B e (dC op (NDA fa))) : DE X B e (ND (nCall op fa)) := h.imp (fun ρ n Q q => Nd.mono (fun x m z => Nd.opt z) (Nd.bind q)) Nd.mono
/-! tests -/
def nBool (f : Sl → Nm PyData) : Sl → Nm Bool := fun ρ => nBind (f ρ) fun x => nOpt (boolOf x)
theorem nt_of {ta : TD} (h : DT X B e (dTst ta)) (w : ∀ ρ n Q, ND f ρ n Q → ta ρ n Q) : DT X B e (NDT (nBool f)) := h.imp (fun ρ n Q q => w ρ n _ (Nd.mono (fun x m z => by
  obtain ⟨b, e1, q1⟩ := Nd.opt z
  exact ⟨b, boolOf_some e1, q1⟩) (Nd.bind q))) Nd.mono
theorem nt2 {op : PyData → PyData → Option PyData} (h : DT X B e (dTst (d2 op (ND f) (ND g)))) : DT X B e (NDT (nBool (n2 op f g))) := nt_of h n2_d
theorem ntv (h : DE X B e (ND f)) (he : ∀ whole, isTrue e X.env whole = (do let v ← whole; standAt e.pos; holding [v] (truthy v)) := by intro _; rfl) : DT X B e (NDT (nBool f)) := nt_of (dt_val h he) fun _ _ _ q => q
def nNot (t : Sl → Nm Bool) : Sl → Nm Bool := fun ρ => nBind (t ρ) fun b => nRet (!b)
theorem nt_not (ha : DT X B a (NDT tf)) : DT X B (.UnaryOp .Not a pos) (NDT (nNot tf)) := (dt_not ha).imp (fun ρ n Q q => Nd.mono (fun b m z => Nd.ret z) (Nd.bind q)) Nd.mono
def nAnd (t u : Sl → Nm Bool) : Sl → Nm Bool := fun ρ => nBind (t ρ) fun b => if b = true then u ρ else nRet false
def nOr (t u : Sl → Nm Bool) : Sl → Nm Bool := fun ρ => nBind (t ρ) fun b => if b = true then nRet true else u ρ
theorem nw_and1 (ha : DT X B a (NDT tf)) : DW X B (.BoolOp .And [a] pos) (NDT tf) := dw_and1 ha
theorem nw_or1 (ha : DT X B a (NDT tf)) : DW X B (.BoolOp .Or [a] pos) (NDT tf) := dw_or1 ha
theorem nw_and (ha : DT X B a (NDT tf)) (hb : DW X B (.BoolOp .And (b :: rest) pos) (NDT tg)) : DW X B (.BoolOp .And (a :: b :: rest) pos) (NDT (nAnd tf tg)) := (dw_and ha hb).imp (fun ρ n Q q => Nd.mono (fun b m z => by
  cases b with
  | true => rw [if_pos rfl]; rw [if_pos rfl] at z; exact z
  | false => rw [if_neg Bool.false_ne_true]; rw [if_neg Bool.false_ne_true] at z; exact Nd.ret z) (Nd.bind q)) Nd.mono
theorem nw_or (ha : DT X B a (NDT tf)) (hb : DW X B (.BoolOp .Or (b :: rest) pos) (NDT tg)) : DW X B (.BoolOp .Or (a :: b :: rest) pos) (NDT (nOr tf tg)) := (dw_or ha hb).imp (fun ρ n Q q => Nd.mono (fun b m z => by
  cases b with
  | true => rw [if_pos rfl]; rw [if_pos rfl] at z; exact Nd.ret z
  | false => rw [if_neg Bool.false_ne_true]; rw [if_neg Bool.false_ne_true] at z; exact z) (Nd.bind q)) Nd.mono
/-! a comprehension -/
def nlc (P : Pt) (fe : Sl → Nm PyData) (ρw : Sl) : List PyData → Nm (List PyData)
  | [] => nRet []
  | x :: xs => match bindP P x ρw with
    | some ρ1 => nBind (fe ρ1) fun d => nBind (nlc P fe ρw xs) fun r => nRet (d :: r)
    | none => none
def nComp (P : Pt) (own : List Nat) (fe : Sl → Nm PyData) (fi : Sl → Option (List PyData)) : Sl → Nm PyData := fun ρ => match fi ρ with
  | some xs => nBind (nlc P fe (wipeD ρ own) xs) fun r => nRet (.list r)
  | none => none
theorem nlc_loop {P : Pt} {fe : Sl → Nm PyData} {ρw : Sl} : ∀ (xs acc : List PyData) (n : Nat) (Q : List PyData → Nat → Prop), Nd (nlc P fe ρw xs) n (fun r m => Q (acc ++ r) m) → lcLoop P (PDT fYes) (ND fe) ρw xs acc n Q
  | [], acc, n, Q, h => by
    have := Nd.ret h
    rw [List.append_nil] at this
    exact this
  | x :: xs, acc, n, Q, h => by
    unfold nlc at h
    split at h
    · next ρ1 e1 =>
      refine ⟨ρ1, e1, true, rfl, ?_⟩
      dsimp only
      rw [if_pos rfl]
      exact Nd.mono (fun d m z => nlc_loop xs (acc ++ [d]) m Q (Nd.mono (fun r k y => by
        have := Nd.ret y
        rw [List.append_assoc]
        exact this) (Nd.bind z))) (Nd.bind h)
    · exact (Nd.no h).elim
theorem ne_comp {P : Pt} {own : List Nat} {fe : Sl → Nm PyData} {fi : Sl → Option (List PyData)} (h : DE X B e (dComp P own (PDT fYes) (ND fe) fi)) : DE X B e (ND (nComp P own fe fi)) := h.imp (fun ρ n Q q => by
  change Nd (nComp P own fe fi ρ) n Q at q
  unfold nComp at q
  split at q
  · next xs e1 => exact ⟨xs, e1, nlc_loop xs [] n _ (Nd.mono (fun r m z => Nd.ret z) (Nd.bind q))⟩
  · exact (Nd.no q).elim) Nd.mono
end

/-! ### statements -/
def nEnd (E : DEnds) : Out → Nat → Prop := fun o m => match o with
  | .nx ρ' => E.nx ρ' m
  | .rt d => E.rt d m
abbrev NSD (g : Sl → Nm Out) : TSD := fun E ρ n => Nd (g ρ) n (nEnd E)
theorem nd_out {E : DEnds} {o : Out} {n : Nat} (h : Nd (nRet o) n (nEnd E)) : nEnd E o n := Nd.ret h
theorem nsd_mono {g : Sl → Nm Out} {E E' : DEnds} {ρ : Sl} {n : Nat} (h : DLe E E') : NSD g E ρ n → NSD g E' ρ n := Nd.mono fun o m q => by
  cases o with
  | nx ρ' => exact h.nx _ _ q
  | rt d => exact h.rt _ _ q
section
variable {X : Cx} {B : Bs} {st : Stmt} {sts : List Stmt} {f f' : Sl → Nm PyData} {fa : Sl → Nm (List PyData)} {tf : Sl → Nm Bool} {g h : Sl → Nm Out} {i j : Nat}
theorem ns_p {g : Sl → Option Out} (h1 : DS X B st (PSD g)) : DS X B st (NSD (nP g)) := h1.imp (fun E ρ n q => by
  obtain ⟨o, e, z⟩ := Nd.opt q
  cases o <;> exact ⟨_, e, z⟩) nsd_mono
theorem nss_p {g : Sl → Option Out} (h1 : DSs X B sts (PSD g)) : DSs X B sts (NSD (nP g)) := h1.imp (fun E ρ n q => by
  obtain ⟨o, e, z⟩ := Nd.opt q
  cases o <;> exact ⟨_, e, z⟩) nsd_mono
def nNext : Sl → Nm Out := fun ρ => nRet (.nx ρ)
theorem ns_nil : DSs X B [] (NSD nNext) := dss_nil.imp (fun E ρ n q => nd_out q) nsd_mono
def nSeq (g h : Sl → Nm Out) : Sl → Nm Out := fun ρ => nBind (g ρ) fun o => match o with
  | .nx ρ' => h ρ'
  | .rt d => nRet (.rt d)
theorem ns_cons (h1 : DS X B st (NSD g)) (h2 : DSs X B sts (NSD h)) : DSs X B (st :: sts) (NSD (nSeq g h)) := (dss_cons h1 h2).imp (fun E ρ n q => Nd.mono (fun o m z => by
  cases o with
  | nx ρ' => exact z
  | rt d => exact (nd_out (E := E) z : E.rt d m)) (Nd.bind q)) nsd_mono
theorem ns_one (h1 : DS X B st (NSD g)) : DSs X B [st] (NSD g) := dss_one h1
def nFrz (i : Nat) (g : Sl → Nm Out) : Sl → Nm Out := fun ρ => match ρ[i]? with
  | some (some (.own xs)) => g (ρ.set i (some (.d (.list xs))))
  | _ => none
theorem ns_frz (i : Nat) (h1 : DSs X B sts (NSD g)) : DSs X B sts (NSD (nFrz i g)) := (dss_frz (i := i) h1).imp (fun E ρ n q => by
  change Nd (nFrz i g ρ) n _ at q
  unfold nFrz at q
  split at q
  · next xs e => exact ⟨xs, e, q⟩
  · exact (Nd.no q).elim) nsd_mono
def nRt (f : Sl → Nm PyData) : Sl → Nm Out := fun ρ => nBind (f ρ) fun d => nRet (.rt d)
theorem nx_ret {Q : Out → Nat → Prop} {x : Nm PyData} {k : PyData → Out} {n : Nat} (q : Nd (nBind x fun d => nRet (k d)) n Q) : Nd x n fun d m => Q (k d) m := Nd.mono (fun d m z => Nd.ret z) (Nd.bind q)
theorem ns_ret (h1 : DS X B st (dRet (ND f))) : DS X B st (NSD (nRt f)) := h1.imp (fun E ρ n q => nx_ret (k := .rt) q) nsd_mono
def nIf (t : Sl → Nm Bool) (g h : Sl → Nm Out) : Sl → Nm Out := fun ρ => nBind (t ρ) fun b => if b = true then g ρ else h ρ
theorem ns_if (h1 : DS X B st (dIf (NDT tf) (NSD g) (NSD h))) : DS X B st (NSD (nIf tf g h)) := h1.imp (fun E ρ n q => Nd.mono (fun b m z => by
  cases b with
  | true => rw [if_pos rfl]; rw [if_pos rfl] at z; exact z
  | false => rw [if_neg Bool.false_ne_true]; rw [if_neg Bool.false_ne_true] at z; exact z) (Nd.bind q)) nsd_mono
def nSet (i : Nat) (f : Sl → Nm PyData) : Sl → Nm Out := fun ρ => nBind (f ρ) fun d => nRet (.nx (ρ.set i (some (.d d))))
theorem ns_set (h1 : DS X B st (dSet i (ND f))) : DS X B st (NSD (nSet i f)) := h1.imp (fun E ρ n q => nx_ret (k := fun d => .nx (ρ.set i (some (.d d)))) q) nsd_mono
def nBnd (P : Pt) (f : Sl → Nm PyData) : Sl → Nm Out := fun ρ => nBind (f ρ) fun d => nOpt ((bindP P d ρ).map .nx)
theorem ns_bind {P : Pt} (h1 : DS X B st (dBind P (ND f))) : DS X B st (NSD (nBnd P f)) := h1.imp (fun E ρ n q => Nd.mono (fun d m z => by
  obtain ⟨o, e1, q1⟩ := Nd.opt z
  obtain ⟨ρ', e2, rfl⟩ := Option.map_eq_some_iff.mp e1
  exact ⟨ρ', e2, q1⟩) (Nd.bind q)) nsd_mono
def nPar (i j : Nat) (fa : Sl → Nm (List PyData)) : Sl → Nm Out := fun ρ => nBind (fa ρ) fun ds => match ds with
  | [x, y] => nRet (.nx ((ρ.set i (some (.d x))).set j (some (.d y))))
  | _ => none
theorem ns_par (h1 : DS X B st (dPar i j (NDA fa))) : DS X B st (NSD (nPar i j fa)) := h1.imp (fun E ρ n q => Nd.mono (fun ds m z => by
  split at z
  · next x y => exact ⟨x, y, rfl, nd_out z⟩
  · exact (Nd.no z).elim) (Nd.bind q)) nsd_mono
def nIns (i : Nat) (f f' : Sl → Nm PyData) : Sl → Nm Out := fun ρ => match ρ[i]? with
  | some (some (.own xs)) => nBind (f ρ) fun x => nBind (f' ρ) fun y => match x with
    | .int (.ofNat j) => if j ≤ 1000000 ∧ xs.length < 1000000 then nRet (.nx (ρ.set i (some (.own (xs.take j ++ [y] ++ xs.drop j))))) else none
    | _ => none
  | _ => none
theorem ns_ins (h1 : DS X B st (dIns i (ND f) (ND f'))) : DS X B st (NSD (nIns i f f')) := h1.imp (fun E ρ n q => by
  change Nd (nIns i f f' ρ) n _ at q
  unfold nIns at q
  split at q
  · next xs e =>
    refine ⟨xs, e, Nd.mono (fun x m z => Nd.mono (fun y k w => ?_) (Nd.bind z)) (Nd.bind q)⟩
    split at w
    · next j =>
      split at w
      · next hl =>
        exact ⟨j, rfl, hl.1, hl.2, nd_out w⟩
      · exact (Nd.no w).elim
    · exact (Nd.no w).elim
  · exact (Nd.no q).elim) nsd_mono
def nLoop (P : Pt) (g : Sl → Nm Out) : List PyData → Sl → Nm Out
  | [], ρ => nRet (.nx ρ)
  | x :: xs, ρ => match bindP P x ρ with
    | some ρ1 => nBind (g ρ1) fun o => match o with
      | .nx ρ2 => nLoop P g xs ρ2
      | .rt d => nRet (.rt d)
    | none => none
def nFor (P : Pt) (fi : Sl → Option (List PyData)) (g : Sl → Nm Out) : Sl → Nm Out := fun ρ => match fi ρ with
  | some xs => nLoop P g xs ρ
  | none => none
theorem nLoop_d {P : Pt} (hm : ∀ {E E' : DEnds} {ρ n}, DLe E E' → NSD g E ρ n → NSD g E' ρ n) : ∀ (xs : List PyData) (E : DEnds) (ρ : Sl) (n : Nat), NSD (nLoop P g xs) E ρ n → dLoop P (NSD g) xs E ρ n
  | [], E, ρ, n, q => nd_out q
  | x :: xs, E, ρ, n, q => by
    change Nd (nLoop P g (x :: xs) ρ) n _ at q
    unfold nLoop at q
    split at q
    · next ρ1 e1 =>
      refine ⟨ρ1, e1, Nd.mono (fun o m z => ?_) (Nd.bind q)⟩
      cases o with
      | nx ρ2 => exact nLoop_d hm xs E ρ2 m z
      | rt d => exact (nd_out (E := E) z : E.rt d m)
    · exact (Nd.no q).elim
theorem ns_for {P : Pt} {fi : Sl → Option (List PyData)} (h1 : DS X B st (dFor P fi (NSD g))) : DS X B st (NSD (nFor P fi g)) := h1.imp (fun E ρ n q => by
  change Nd (nFor P fi g ρ) n _ at q
  unfold nFor at q
  split at q
  · next xs e1 => exact ⟨xs, e1, nLoop_d nsd_mono xs E ρ n q⟩
  · exact (Nd.no q).elim) nsd_mono
end
end K50

set_option Elab.async false
set_option linter.all false
set_option maxRecDepth 100000
set_option maxHeartbeats 4000000
/-! the law's state and the defs that take it -/
namespace K50
open PySem PySem.Spec PyProof.Rows L2

def stD (c l : Addr) (n : Nat) : HO := .dK [(.inr ("cells" : Str), .ref c), (.inr ("lefts" : Str), .ref l), (.inr ("at" : Str), .int (n : Int))]
def LInv (p c l : Addr) (L : Nat) (H : Hp) (n : Nat) : Prop := ∃ cs ls : List Int, H p = some (stD c l n) ∧ H c = some (.lst (cs.map V.int)) ∧ H l = some (.lst (ls.map V.int)) ∧ cs.length = L ∧ ls.length = L ∧ 0 < L ∧ L ≤ 1000 ∧ c ≠ l
theorem linv_ne {p c l : Addr} {L : Nat} {H : Hp} {n : Nat} (h : LInv p c l L H n) : p ≠ c ∧ p ≠ l ∧ c ≠ l := by
  obtain ⟨cs, ls, h1, h2, h3, _, _, _, _, h4⟩ := h
  refine ⟨fun e => ?_, fun e => ?_, h4⟩
  · rw [e, h2] at h1; cases h1
  · rw [e, h3] at h1; cases h1
def LawS (p c l : Addr) (L : Nat) : SSp := ⟨p, [p, c, l], LInv p c l L, fun h ⟨cs, ls, h1, h2, h3, r⟩ => ⟨cs, ls, h p (by simp) _ h1, h c (by simp) _ h2, h l (by simp) _ h3, r⟩, fun ⟨cs, ls, h1, h2, h3, r⟩ a ha => by
  rcases List.mem_cons.mp ha with rfl | ha
  · rw [h1]; simp
  rcases List.mem_cons.mp ha with rfl | ha
  · rw [h2]; simp
  rcases List.mem_cons.mp ha with rfl | ha
  · rw [h3]; simp
  · exact absurd ha (by simp)⟩
/-- a def that takes the state -/
def spN (k : Nat) (f : List PyData → Nm PyData) : Sp := fun vs H Q _ => ∃ p c l L F ws ds n, Same F H ∧ (∀ a ∈ [p, c, l], F a = none) ∧ LInv p c l L H n ∧ vs = .ref p :: ws ∧ FzAll F ws ds ∧ ds.length + 1 = k ∧
  Nd (f ds) n fun d m => ∀ F' H' v, Stp [p, c, l] F H F' H' → LInv p c l L H' m → Fz F' v d → Q v H'
def stAt (i : Nat) (ρ : Sl) : Bool := match ρ[i]? with
  | some (some .st) => true
  | _ => false
theorem stAt_some {i : Nat} {ρ : Sl} (h : stAt i ρ = true) : ρ[i]? = some (some .st) := by
  unfold stAt at h
  split at h
  · next e => exact e
  · cases h
def nCallN (i : Nat) (f : List PyData → Nm PyData) (fa : Sl → Nm (List PyData)) : Sl → Nm PyData := fun ρ => match stAt i ρ with
  | true => nBind (fa ρ) f
  | false => none
section
variable {X : Cx} {p c l : Addr} {L : Nat} {F0 H0 : Hp} {j k n i : Nat} {x y : Str} {ps : List Str} {pp pos py : Pos} {e : Expr} {es : List Expr} {f : List PyData → Nm PyData} {fa : Sl → Nm (List PyData)}
theorem st_slot {F H : Hp} {σ : L2.St} {ρ : Sl} {m : Nat} (R : Rp ⟨LawS p c l L, F0, H0⟩ F H σ ρ m) (h : stAt i ρ = true) : σ[i]? = some (some (.ref p)) := by
  obtain ⟨v, h1, h2⟩ := R.slot i .st (stAt_some h)
  rw [show v = V.ref p from h2] at h1
  exact h1
theorem de_callN (c' : Cal X.prog X.w X.K X.mg X.base j x ps (spN n f)) (o : Rm X k) (hj : j ≤ k) (hl : ∀ ds z, f ds = some z → ds.length + 1 = n) (hg : Gl X x) (hv : PE X (.Name y py) (tVar i)) (ha : DA X ⟨LawS p c l L, F0, H0⟩ es (NDA fa))
    (hdb : (x == ("__debug__" : Str)) = false := by decide) (he : starEach (.Name y py :: es) X.env = (false, eval (.Name y py) X.env) :: starEach es X.env := by rfl) (hpl : (backTo pos (starEach es X.env)).any (·.1) = false := by rfl) :
    DE X ⟨LawS p c l L, F0, H0⟩ (.Call (.Name x pp) (.Name y py :: es) [] pos) (ND (nCallN i f fa)) := by
  obtain ⟨a, fd, F, hm, hk, hb⟩ := c'
  refine ⟨pe_wk (pe_callG F (o.room.mono hj) o.gd hg hm hk hb (pa_cons hv ha.pa he) hdb he hpl) fun σ H Q h => ?_, Nd.mono⟩
  obtain ⟨F1, ρ, m, R, q⟩ := h
  change Nd (nCallN i f fa ρ) m _ at q
  unfold nCallN at q
  split at q
  · next hs =>
    refine ⟨.ref p, st_slot R hs, F1, ρ, m, R, Nd.mono (fun ds m1 q1 F2 H2 vs st iv hvs => ?_) (Nd.bind q)⟩
    have R1 := R.goS st iv
    have hlen : ds.length + 1 = n := by
      obtain ⟨z, ez, _⟩ := q1
      exact hl _ _ ez
    exact ⟨p, c, l, L, F2, vs, ds, m1, st.s, R1.stf, iv, rfl, hvs, hlen, Nd.mono (fun d m2 z F3 H3 v st2 iv2 hv2 => z F3 H3 v (st.trans st2) iv2 hv2) q1⟩
  · exact (Nd.no q).elim
end

/-! ### a body -/
def iniN (N : Nat) (ds : List PyData) : Sl := some .st :: ini (N - 1) ds
def runN (n N : Nat) (body : Sl → Nm Out) (ds : List PyData) : Nm PyData := if ds.length + 1 = n then nBind (body (iniN N ds)) (fun o => nRet (match o with
  | .rt d => d
  | .nx _ => .none)) else none
theorem runN_len {n N : Nat} {body : Sl → Nm Out} (ds : List PyData) (z : Nat × List PyData) (h : runN n N body ds = some z) : ds.length + 1 = n := by
  unfold runN at h
  split at h
  · next h' => exact h'
  · cases h
theorem Rp.entryN {F H : Hp} {p c l : Addr} {L m : Nat} {y : Str} {N : List Str} {vs : List V} {ds : List PyData} (s : Same F H) (hf : ∀ a ∈ [p, c, l], F a = none) (iv : LInv p c l L H m) (hv : FzAll F vs ds) :
    Rp ⟨LawS p c l L, F, H⟩ F H (start (y :: N) (.ref p :: vs)) (iniN (y :: N).length ds) m where
  len := by
    have := hv.length
    unfold iniN ini L2.start
    simp
    omega
  step := Stp.refl s
  slot := fun i e h => by
    cases i with
    | zero =>
      cases h
      exact ⟨.ref p, start_get (vs := .ref p :: vs) rfl, rfl⟩
    | succ i =>
      obtain ⟨d, h1, rfl⟩ := ini_get (i := i) (by unfold iniN at h; simpa using h)
      obtain ⟨v, h2, h3⟩ := hv.get h1
      exact ⟨v, start_get (vs := .ref p :: vs) (i := i + 1) (by simpa using h2), h3⟩
  sep := fun i j xs ys a h1 h2 _ _ => by
    cases i with
    | zero => cases h1
    | succ i =>
      obtain ⟨d, _, e⟩ := ini_get (i := i) (by unfold iniN at h1; simpa using h1)
      cases e
  stf := hf
  inv := iv
section
variable {P : Program} {w : World} {K : PySem.W.Frag} {mg : Str → Option Value} {base : Heap} {k n : Nat} {ps N : List Str} {x y : Str} {params : Arguments} {stmts : List Stmt} {scope : Scope} {body : Sl → Nm Out}
theorem calN_gen {f : List PyData → Nm PyData} (hF : ∃ f fd, FunD K x x params stmts scope [] [] f fd ∧ mg x = some (.ref f)) (S : FnScope (y :: N) ps scope) (hn : ps.length = n)
    (hbind : ∀ (kV doc pm : Value) (an : Option Addr) (cdv ct : Value) (us : List Value), us.length = ps.length → bindArgs (PySem.W.fnOf x x params stmts scope .none kV doc pm an cdv ct) ⟨us, []⟩ = pure (ps.zip us))
    (hb : ∀ (f' : Addr) (cd : Value) (A : Around) (outer : List Env) (s : Shared) (H F : Hp) (p c l : Addr) (L : Nat), Rm (cxK P w K mg base (y :: N) x scope f' cd A outer s H).nox k → 0 < L → L ≤ 1000 →
      ∃ t, DSs (cxK P w K mg base (y :: N) x scope f' cd A outer s H).nox ⟨LawS p c l L, F, H⟩ stmts t ∧ ∀ (ds : List PyData) (m : Nat) (T : PyData → Nat → Prop), ds.length + 1 = n → Nd (f ds) m T → t ⟨fun _ m => T .none m, T⟩ (iniN (y :: N).length ds) m) :
    Cal P w K mg base (k + 1) x ps (spN n f) := by
  obtain ⟨f', fd, F, hm⟩ := hF
  refine ⟨f', fd, fnG_of F S (fun vs H Q E h => ?_) (fun cd A outer s H vs Q hr hg h => ?_), hm, F.kp, FunD.bindsN F hbind⟩
  · obtain ⟨p, c, l, L, F1, ws, ds, m, _, _, _, rfl, hv, hl, _⟩ := h
    rw [List.length_cons, hv.length, hl, hn]
  · obtain ⟨p, c, l, L, F1, ws, ds, m, hs, hf, iv, rfl, hv, hl, q⟩ := h
    have rm : Rm (cxK P w K mg base (y :: N) x scope f' cd A outer s H).nox k := ⟨rfl, hr, hg⟩
    have hL : 0 < L ∧ L ≤ 1000 := by
      obtain ⟨_, _, _, _, _, _, _, h1, h2, _⟩ := iv
      exact ⟨h1, h2⟩
    obtain ⟨t, D, ht⟩ := hb f' cd A outer s H F1 p c l L rm hL.1 hL.2
    let T : PyData → Nat → Prop := fun d m => ∀ F' H' v, Stp [p, c, l] F1 H F' H' → LInv p c l L H' m → Fz F' v d → Q v H'
    refine ⟨_, D.ps, ⟨⟨fun _ m => T .none m, T⟩, F1, iniN (y :: N).length ds, m, Rp.entryN hs hf iv hv, ⟨fun F2 H2 σ ρ m s2 R e => ?_, fun F2 H2 v d' m st iv hv2 e => ?_⟩, ht ds m T hl q⟩⟩
    · exact e F2 H2 _ R.step R.inv .non
    · exact e F2 H2 v st iv hv2
theorem calN_of (hF : ∃ f fd, FunD K x x params stmts scope [] [] f fd ∧ mg x = some (.ref f)) (S : FnScope (y :: N) ps scope) (hn : ps.length = n)
    (hbind : ∀ (kV doc pm : Value) (an : Option Addr) (cdv ct : Value) (us : List Value), us.length = ps.length → bindArgs (PySem.W.fnOf x x params stmts scope .none kV doc pm an cdv ct) ⟨us, []⟩ = pure (ps.zip us))
    (hb : ∀ (f : Addr) (cd : Value) (A : Around) (outer : List Env) (s : Shared) (H F : Hp) (p c l : Addr) (L : Nat), Rm (cxK P w K mg base (y :: N) x scope f cd A outer s H).nox k → DSs (cxK P w K mg base (y :: N) x scope f cd A outer s H).nox ⟨LawS p c l L, F, H⟩ stmts (NSD body)) :
    Cal P w K mg base (k + 1) x ps (spN n (runN n (y :: N).length body)) :=
  calN_gen hF S hn hbind fun f cd A outer s H F p c l L rm _ _ => ⟨_, hb f cd A outer s H F p c l L rm, fun ds m T hl q => by
    unfold runN at q
    rw [if_pos hl] at q
    refine Nd.mono (fun o m1 z => ?_) (Nd.bind q)
    have := Nd.ret z
    cases o with
    | nx ρ' => exact this
    | rt d => exact this⟩
end

/-! ### what the state holds -/
theorem val_cells {c l : Addr} {n : Nat} : valV [((.inr ("cells" : Str) : Key), V.ref c), (.inr ("lefts" : Str), .ref l), (.inr ("at" : Str), .int (n : Int))] (.inr ("cells" : Str)) = some (.ref c) := valV_pos rfl
theorem val_lefts {c l : Addr} {n : Nat} : valV [((.inr ("cells" : Str) : Key), V.ref c), (.inr ("lefts" : Str), .ref l), (.inr ("at" : Str), .int (n : Int))] (.inr ("lefts" : Str)) = some (.ref l) := (valV_neg (fun h => absurd (Sum.inr.inj h) (by decide))).trans (valV_pos rfl)
theorem val_at {c l : Addr} {n : Nat} : valV [((.inr ("cells" : Str) : Key), V.ref c), (.inr ("lefts" : Str), .ref l), (.inr ("at" : Str), .int (n : Int))] (.inr ("at" : Str)) = some (.int (n : Int)) := (valV_neg (fun h => absurd (Sum.inr.inj h) (by decide))).trans ((valV_neg (fun h => absurd (Sum.inr.inj h) (by decide))).trans (valV_pos rfl))
theorem put_at {c l : Addr} {x v : V} : putK [((.inr ("cells" : Str) : Key), V.ref c), (.inr ("lefts" : Str), .ref l), (.inr ("at" : Str), x)] (.inr ("at" : Str)) v = [((.inr ("cells" : Str) : Key), V.ref c), (.inr ("lefts" : Str), .ref l), (.inr ("at" : Str), v)] := by
  have e1 : ¬ (Str.ofString "cells" = Str.ofString "at") := by decide
  have e2 : ¬ (Str.ofString "lefts" = Str.ofString "at") := by decide
  unfold putK
  simp [e1, e2]
section
variable {X : Cx} {p c l : Addr} {L : Nat} {F0 H0 : Hp} {i : Nat} {y : Str} {pos py pk pt : Pos} {jk : Nat} {e : Expr} {te : TD}
theorem pe_key {key : Str} (hu : X.A.units + 1 < cLine) (hv : PE X (.Name y py) (tVar i)) : PE X (.Subscript (.Name y py) (.Constant (.str key) jk pk) pt) (tDGet (tVar i) (tC (.str key))) := pe_dget hu hv pe_str fun _ _ => rfl
def dAt (i : Nat) : TD := fun ρ n Q => stAt i ρ = true ∧ Q (.int (n : Int)) n
theorem de_at (hu : X.A.units + 1 < cLine) (hv : PE X (.Name y py) (tVar i)) : DE X ⟨LawS p c l L, F0, H0⟩ (.Subscript (.Name y py) (.Constant (.str "at") jk pk) pt) (dAt i) := by
  refine ⟨pe_wk (pe_key hu hv) fun σ H Q ⟨F, ρ, n, R, hs, q⟩ => ?_, fun h ⟨a, b⟩ => ⟨a, h _ _ b⟩⟩
  obtain ⟨cs, ls, h1, _⟩ := R.inv
  exact ⟨.ref p, st_slot R hs, p, _, rfl, by
    have := DGet.k (k := .inr ("at" : Str)) h1
    rw [val_at] at this
    exact this, q F H _ (Stp.refl R.step.s) R.inv (.int _)⟩
def dItem (i : Nat) (te : TD) (L : Nat) : TD := fun ρ n Q => stAt i ρ = true ∧ te ρ n fun d m => ∃ j : Nat, d = .int (j : Int) ∧ j < L ∧ ∀ x : Int, Q (.int x) m
theorem de_item (b : Bool) (hu : X.A.units + 1 < cLine) (hv : PE X (.Name y py) (tVar i)) (he : DE X ⟨LawS p c l L, F0, H0⟩ e te) (hs : PlainIx e := by exact fun _ _ => rfl) :
    DE X ⟨LawS p c l L, F0, H0⟩ (.Subscript (.Subscript (.Name y py) (.Constant (.str (if b then "cells" else "lefts")) jk pk) pt) e pos) (dItem i te L) := by
  refine ⟨pe_wk (pe_ix ix_list (pe_key hu hv) he.pe hs) fun σ H Q ⟨F, ρ, n, R, hs, q⟩ => ?_, fun h ⟨a, q⟩ => ⟨a, he.mono (fun d m ⟨j, e1, e2, z⟩ => ⟨j, e1, e2, fun x => h _ _ (z x)⟩) q⟩⟩
  obtain ⟨cs, ls, h1, h2, h3, h4, h5, _⟩ := R.inv
  have g1 := DGet.k (k := .inr ("cells" : Str)) h1
  rw [val_cells] at g1
  have g2 := DGet.k (k := .inr ("lefts" : Str)) h1
  rw [val_lefts] at g2
  have fin : ∀ (a : Addr) (xs : List Int), (∀ {m F' H'}, Stp [p, c, l] F H F' H' → LInv p c l L H' m → ∃ xs : List Int, H' a = some (.lst (xs.map V.int)) ∧ xs.length = L) →
      liftE ⟨LawS p c l L, F0, H0⟩ te σ H fun v H1 => rIxL X.K (.ref a) v H1 Q := fun a xs ha => by
    refine ⟨F, ρ, n, R, he.mono (fun d m ⟨j, e1, e2, z⟩ F1 H1 v st iv hv => ?_) q⟩
    subst e1
    obtain ⟨ys, ha1, ha2⟩ := ha st iv
    obtain ⟨x, hx⟩ : ∃ x, ys[j]? = some x := ⟨_, List.getElem?_eq_getElem (by omega)⟩
    exact ⟨a, ys.map V.int, _, .int x, rfl, hv.int_inv, SqL.of ha1, atI_nat (by rw [List.getElem?_map, hx]; rfl), z x F1 H1 _ st iv (.int _)⟩
  cases b with
  | true => exact ⟨.ref p, st_slot R hs, p, _, rfl, g1, fin c cs fun st iv => by obtain ⟨cs, ls, h1, h2, h3, h4, h5, _⟩ := iv; exact ⟨cs, h2, h4⟩⟩
  | false => exact ⟨.ref p, st_slot R hs, p, _, rfl, g2, fin l ls fun st iv => by obtain ⟨cs, ls, h1, h2, h3, h4, h5, _⟩ := iv; exact ⟨ls, h3, h5⟩⟩
def dLenC (i : Nat) (L : Nat) : TD := fun ρ n Q => stAt i ρ = true ∧ Q (.int (L : Int)) n
theorem de_lenC {pl pc : Pos} (hu : X.A.units + 1 < cLine) (hg : Gl X "len") (hm : X.mg "len" = none) (hv : PE X (.Name y py) (tVar i))
    (he : starEach [(.Subscript (.Name y py) (.Constant (.str "cells") jk pk) pt : Expr)] X.env = (false, eval (.Subscript (.Name y py) (.Constant (.str "cells") jk pk) pt) X.env) :: starEach [] X.env := by rfl) :
    DE X ⟨LawS p c l L, F0, H0⟩ (.Call (.Name "len" pl) [.Subscript (.Name y py) (.Constant (.str "cells") jk pk) pt] [] pc) (dLenC i L) := by
  refine ⟨pe_wk (pe_callB call_len_seq hg hm PySem.boot_len (pa_cons (pe_key hu hv) pa_nil he) (by decide) (by decide) he rfl) fun σ H Q ⟨F, ρ, n, R, hs, q⟩ => ?_, fun h ⟨a, b⟩ => ⟨a, h _ _ b⟩⟩
  obtain ⟨cs, ls, h1, h2, h3, h4, _⟩ := R.inv
  have g1 := DGet.k (k := .inr ("cells" : Str)) h1
  rw [val_cells] at g1
  exact ⟨.ref p, st_slot R hs, p, _, rfl, g1, c, _, rfl, .inl (SqL.of h2), by rw [List.length_map, h4]; exact q F H _ (Stp.refl R.step.s) R.inv (.int _)⟩
/-! stores -/
theorem Rp.goI {F H : Hp} {σ : L2.St} {ρ : Sl} {n m : Nat} (R : Rp ⟨LawS p c l L, F0, H0⟩ F H σ ρ n) {a : Addr} {o : HO} (ha : a ∈ [p, c, l]) (iv : LInv p c l L (upd H a o) m) : Rp ⟨LawS p c l L, F0, H0⟩ F (upd H a o) σ ρ m := by
  refine R.goS ⟨Same.refl F, fun b u e => ?_, fun b u hb e => ?_, fun b hb => ?_, fun b hb => .inl hb⟩ iv
  · rw [upd_ne (fun q => by subst q; rw [R.stf b ha] at e; cases e)]; exact R.step.s b u e
  · rw [upd_ne (fun q => by subst q; exact hb ha)]; exact e
  · by_cases q : b = a
    · rw [q, upd_same]; simp
    · rw [upd_ne q]; exact hb
def dPutAt (i : Nat) (te : TD) : TSD := fun E ρ n => stAt i ρ = true ∧ te ρ n fun d m => d = .int ((m : Int) + 1) ∧ E.nx ρ (m + 1)
theorem ds_putAt {ps : Pos} (hu : X.A.units + 1 < cLine) (hv : PE X (.Name y py) (tVar i)) (he : DE X ⟨LawS p c l L, F0, H0⟩ e te) (hs : swapsWith e (some (.Subscript (.Name y py) (.Constant (.str "at") jk pk) pt)) ps.line X.env = pure false := by rfl) :
    DS X ⟨LawS p c l L, F0, H0⟩ (.Assign [.Subscript (.Name y py) (.Constant (.str "at") jk pk) pt] e ps) (dPutAt i te) := by
  refine ⟨ps_wk (ps_dput hu hv pe_str he.pe hs) fun D σ H ⟨E, F, ρ, n, R, ok, h1, q⟩ => ?_, fun h ⟨a, q⟩ => ⟨a, he.mono (fun d m ⟨e1, z⟩ => ⟨e1, h.nx _ _ z⟩) q⟩⟩
  refine ⟨F, ρ, n, R, he.mono (fun d m ⟨e1, z⟩ F1 H1 v st iv hv => ?_) q⟩
  subst e1
  have R1 := R.goS st iv
  obtain ⟨g1, g2, g3⟩ := linv_ne iv
  obtain ⟨cs, ls, h2, h3, h4, h5⟩ := iv
  refine ⟨.ref p, st_slot R1 h1, p, _, rfl, DPut.k (k := .inr ("at" : Str)) h2 (by rw [sizeLine_eq]; show 3 < _; decide), ok.nx _ _ _ _ _ st.f (R1.goI (by simp) ⟨cs, ls, ?_, ?_, ?_, h5⟩) z⟩
  · rw [upd_same, hv.int_inv]
    show some (HO.dK (putK _ _ _)) = some (stD c l (m + 1))
    rw [put_at]
    rfl
  · rw [upd_ne (Ne.symm g1)]; exact h3
  · rw [upd_ne (Ne.symm g2)]; exact h4
def dPutL (i : Nat) (ti tv : TD) (L : Nat) : TSD := fun E ρ n => stAt i ρ = true ∧ tv ρ n fun d m => (∃ x, d = .int x) ∧ ti ρ m fun d2 m2 => ∃ j : Nat, d2 = .int (j : Int) ∧ j < L ∧ E.nx ρ m2
theorem ds_putL {ps : Pos} {ei : Expr} {ti : TD} (hu : X.A.units + 1 < cLine) (hv : PE X (.Name y py) (tVar i)) (hi : DE X ⟨LawS p c l L, F0, H0⟩ ei ti) (he : DE X ⟨LawS p c l L, F0, H0⟩ e te)
    (ha : ∀ v, assign (.Subscript (.Subscript (.Name y py) (.Constant (.str "lefts") jk pk) pt) ei pos) X.env v = (do
      let ov ← holding [v] (eval (.Subscript (.Name y py) (.Constant (.str "lefts") jk pk) pt) X.env)
      let iv ← holding [v, ov] (eval ei X.env)
      standAt pos
      holding [v, ov, iv] (setItem ov iv v)
      release [v, ov, iv] []) := by intro _; rfl)
    (hs : swapsWithSole [.Subscript (.Subscript (.Name y py) (.Constant (.str "lefts") jk pk) pt) ei pos] e ps.line X.env = pure false := by rfl) (hw : swappedStores [.Subscript (.Subscript (.Name y py) (.Constant (.str "lefts") jk pk) pt) ei pos] e X.env = pure none := by rfl)
    (h1 : (assignEach [.Subscript (.Subscript (.Name y py) (.Constant (.str "lefts") jk pk) pt) ei pos] X.env).map (·.2) = [assign (.Subscript (.Subscript (.Name y py) (.Constant (.str "lefts") jk pk) pt) ei pos) X.env] := by rfl) :
    DS X ⟨LawS p c l L, F0, H0⟩ (.Assign [.Subscript (.Subscript (.Name y py) (.Constant (.str "lefts") jk pk) pt) ei pos] e ps) (dPutL i ti te L) := by
  refine ⟨ps_wk (ps_asg he.pe (pg_sub (pe_key hu hv) hi.pe set_list ha) hs hw h1) fun D σ H ⟨E, F, ρ, n, R, ok, hst, q⟩ => ?_, fun h ⟨a, q⟩ => ⟨a, he.mono (fun d m ⟨e1, z⟩ => ⟨e1, hi.mono (fun d2 m2 ⟨j, e2, e3, z⟩ => ⟨j, e2, e3, h.nx _ _ z⟩) z⟩) q⟩⟩
  refine ⟨F, ρ, n, R, he.mono (fun d m ⟨⟨x, e1⟩, z⟩ F1 H1 v st iv hv1 => ?_) q⟩
  subst e1
  have R1 := R.goS st iv
  obtain ⟨cs, ls, h2, h3, h4, h5⟩ := iv
  have g2 := DGet.k (k := .inr ("lefts" : Str)) h2
  rw [val_lefts] at g2
  refine ⟨.ref p, st_slot R1 hst, p, _, rfl, g2, F1, ρ, m, R1, hi.mono (fun d2 m2 ⟨j, e2, e3, z⟩ F2 H2 v2 st2 iv2 hv2 => ?_) z⟩
  subst e2
  have R2 := R1.goS st2 iv2
  obtain ⟨g3, g4, g5⟩ := linv_ne iv2
  obtain ⟨cs, ls, h2, h3, h4, h5, h6, h7⟩ := iv2
  refine ⟨l, _, _, j, rfl, hv2.int_inv, h4, ?_, ok.nx _ _ _ _ _ (st.f.trans st2.f) (R2.goI (by simp) ⟨cs, ls.set j x, ?_, ?_, ?_, h5, by rw [List.length_set]; exact h6, h7⟩) z⟩
  · rw [List.length_map, h6]
    unfold ixN
    rw [if_pos (by omega), if_pos (by omega)]
    simp
  · rw [upd_ne g4]; exact h2
  · rw [upd_ne g5]; exact h3
  · rw [upd_same, hv1.int_inv, List.map_set]
end
end K50

set_option Elab.async false
set_option linter.all false
set_option maxRecDepth 100000
set_option maxHeartbeats 4000000
namespace K50
open PySem PySem.Spec PyProof.Rows L2
variable {P : Program} {w : World} {K : PySem.W.Frag} {mg : Str → Option Value} {base : Heap}

theorem relab {y : Str} (env : Env) : ∀ names : List (Str × NameKind), names.lookup y = some .cell ∨ names.lookup y = some .free →
    (names.map fun (n, k) => if (k == NameKind.free && env.scope.kind == .function && env.kindOf n == some .cell) then (n, NameKind.cell) else (n, k)).lookup y = some .cell ∨
    (names.map fun (n, k) => if (k == NameKind.free && env.scope.kind == .function && env.kindOf n == some .cell) then (n, NameKind.cell) else (n, k)).lookup y = some .free
  | [], h => by rcases h with h | h <;> simp at h
  | (n, k) :: r, h => by
    have ih := relab (y := y) env r
    simp only [List.map_cons]
    cases hx : y == n with
    | true =>
      simp only [List.lookup_cons, hx] at h
      split
      · exact Or.inl (by simp only [List.lookup_cons, hx])
      · rcases h with h | h <;> cases h
        · exact Or.inl (by simp only [List.lookup_cons, hx])
        · exact Or.inr (by simp only [List.lookup_cons, hx])
    | false =>
      simp only [List.lookup_cons, hx] at h
      split <;> simp only [List.lookup_cons, hx] <;> exact ih h
theorem blkOk_in {X : Cx} {N : List Str} {s : Shared} {H : Hp} {sc scope : Scope} {own : List (Str × Nat)} {cl : List (Str × Addr)} {C : Addr} {E : Env} {fp : List Addr} (hN : X.N = N) (h : blkC N sc scope own = true) :
    BlkOk (X.blk s H sc (compEnvC sc cl C E) fp).N (X.blk s H sc (compEnvC sc cl C E) fp).env.scope scope own := by
  have b := blkOk_by h
  subst hN
  exact ⟨b.kind, b.uniq, b.ix, fun y hy e => relab E sc.names (b.free y hy e), b.own⟩

/-! is_from -/
def b_p_is_from : Sl → Option Out := (gRet (fAndV (f1 opIsInt (fVar 0)) (fAndV (f1 opNotV (f1 opIsBool (fVar 0))) (fChain (fVar 1) (fVar 0) (fVar 2)))))
def p_is_from : List PyData → Option PyData := runF 3 3 b_p_is_from
theorem sc_p_is_from : FnScope ["value", "low", "high"] ["value", "low", "high"] (defScope (top 9)) := ⟨rfl, rfl, rfl, by decide +kernel, rfl, by decide +kernel, by decide +kernel⟩
theorem ok_p_is_from (T : Txt mg) (hF : Has K mg "is_from" 9) : Cal P w K mg base 1 "is_from" ["value", "low", "high"] (spF 3 p_is_from) :=
  cal_of (k := 0) (N := ["value", "low", "high"]) hF sc_p_is_from rfl (fun _ _ _ _ _ _ us hl => match us, hl with | [_, _, _], _ => rfl) (body := b_p_is_from) fun f cd A outer s H F o =>
  (s_one (s_ret (ds_ret (v_and (e1 (de_isInt rfl T.isinstance rfl T.int (de_var 0 (pv 0)))) (v_and (v_not (e1 (de_isBool rfl T.isinstance rfl T.bool (de_var 0 (pv 0))))) (de_and1 (v_chain (de_var 1 (pv 1)) (de_var 0 (pv 0)) (de_var 2 (pv 2)))))))))

/-! is_holder -/
def b_p_is_holder : Sl → Option Out := (gSeq (gIf (fOr (fNot (fT (f1 opIsTup (fVar 0)))) (fT (f2 opGt (fCall opLen (fCons (fVar 0) fNil)) (fC (.int 60)))))
  (gRet (fC (.bool false)))
  gNext)
  (gRet (f2 opEq (fCall opLen (fCons (fComp (.nm 1) [1] (fNot (fT (fCall p_is_from (fCons (fVar 1) (fCons (fC (.int 0)) (fCons (fC (.int 12)) fNil)))))) (fC (.int 1)) (fItems (fVar 0))) fNil)) (fC (.int 0)))))
def p_is_holder : List PyData → Option PyData := runF 1 2 b_p_is_holder
theorem sc_p_is_holder : FnScope ["value", "item"] ["value"] (defScope (top 10)) := ⟨rfl, rfl, rfl, by decide +kernel, rfl, by decide +kernel, by decide +kernel⟩
theorem ok_p_is_holder (T : Txt mg) (hF : Has K mg "is_holder" 10) (c_p_is_from : Cal P w K mg base 1 "is_from" ["value", "low", "high"] (spF 3 p_is_from)) : Cal P w K mg base 2 "is_holder" ["value"] (spF 1 p_is_holder) :=
  cal_of (k := 1) (N := ["value", "item"]) hF sc_p_is_holder rfl (fun _ _ _ _ _ _ us hl => match us, hl with | [_], _ => rfl) (body := b_p_is_holder) fun f cd A outer s H F o =>
  (s_cons (s_if (ds_if (DW.dt (w_or (t_not (tv (e1 (de_isTup rfl T.isinstance rfl T.tuple (de_var 0 (pv 0)))))) (w_or1 (t2 (dt_gt (ec (de_len rfl T.len (da_fCons (de_var 0 (pv 0)) da_fNil))) (de_gint T.shapes rfl))))))
  (s_one (s_ret (ds_ret de_bl)))
  s_nil))
  (s_one (s_ret (ds_ret (e2 (de_eq o.u64 (ec (de_len rfl T.len (da_fCons (v_comp (de_comp (.nm 1) [("item", 1)] o.calm sc_p_is_holder.nd (di_seq (de_var 0 (pv 0))) (blkOk_by (N := ["value", "item"]) (sc := defScope (top 10)) (by decide +kernel)) (fun _ _ _ _ _ => (pg_name (i := 1) sc_p_is_holder.nd rfl (by first | exact Or.inl rfl | exact Or.inr rfl))) (fun _ _ _ _ _ => (ts_one (t_not (tv (ec (de_call c_p_is_from o.blk (by decide) runF_len rfl (da_fCons (de_var 1 (pv 1)) (da_fCons de_int (da_fCons (de_gint T.places rfl) da_fNil))))))))) (fun _ _ _ _ _ => de_int) (by decide))) da_fNil))) de_int))))))

/-! need_holder -/
def b_p_need_holder : Sl → Option Out := (gSeq (gIf (fNot (fT (fCall p_is_holder (fCons (fVar 0) fNil))))
  gNever
  gNext)
  (gRet (fVar 0)))
def p_need_holder : List PyData → Option PyData := runF 1 1 b_p_need_holder
theorem sc_p_need_holder : FnScope ["value"] ["value"] (defScope (top 11)) := ⟨rfl, rfl, rfl, by decide +kernel, rfl, by decide +kernel, by decide +kernel⟩
theorem ok_p_need_holder (T : Txt mg) (hF : Has K mg "need_holder" 11) (c_p_is_holder : Cal P w K mg base 2 "is_holder" ["value"] (spF 1 p_is_holder)) : Cal P w K mg base 3 "need_holder" ["value"] (spF 1 p_need_holder) :=
  cal_of (k := 2) (N := ["value"]) hF sc_p_need_holder rfl (fun _ _ _ _ _ _ us hl => match us, hl with | [_], _ => rfl) (body := b_p_need_holder) fun f cd A outer s H F o =>
  (s_cons (s_if (ds_if (t_not (tv (ec (de_call c_p_is_holder o (by decide) runF_len rfl (da_fCons (de_var 0 (pv 0)) da_fNil)))))
  (s_one s_never)
  s_nil))
  (s_one (s_ret (ds_ret (de_var 0 (pv 0))))))

/-! power_so -/
def b_p_power_so : Sl → Option Out := (gSeq (gSet 2 (fC (.int 1)))
  (gSeq (gFor (.nm 3) (fRange (fVar 1))
  (gSet 2 (f2 opMul (fVar 2) (fVar 0))))
  (gRet (fVar 2))))
def p_power_so : List PyData → Option PyData := runF 2 4 b_p_power_so
theorem sc_p_power_so : FnScope ["number", "times", "found", "step"] ["number", "times"] (defScope (top 12)) := ⟨rfl, rfl, rfl, by decide +kernel, rfl, by decide +kernel, by decide +kernel⟩
theorem ok_p_power_so (T : Txt mg) (hF : Has K mg "power_so" 12) : Cal P w K mg base 1 "power_so" ["number", "times"] (spF 2 p_power_so) :=
  cal_of (k := 0) (N := ["number", "times", "found", "step"]) hF sc_p_power_so rfl (fun _ _ _ _ _ _ us hl => match us, hl with | [_, _], _ => rfl) (body := b_p_power_so) fun f cd A outer s H F o =>
  (s_cons (s_set (ds_set 2 sc_p_power_so.nd rfl (by first | exact Or.inl rfl | exact Or.inr rfl) de_int))
  (s_cons (s_for (ds_for (.nm 3) PassesOwn.never o.calm (di_range rfl T.range (de_var 1 (pv 1))) (pg_name (i := 3) sc_p_power_so.nd rfl (by first | exact Or.inl rfl | exact Or.inr rfl))
  (s_one (s_set (ds_set 2 sc_p_power_so.nd rfl (by first | exact Or.inl rfl | exact Or.inr rfl) (e2 (de_mul (de_var 2 (pv 2)) (de_var 0 (pv 0)))))))))
  (s_one (s_ret (ds_ret (de_var 2 (pv 2)))))))

/-! fillings_so -/
def b_p_fillings_so : Sl → Option Out := (gRet (fCall opSum2 (fCons (fComp (.nm 2) [2] fYes (fCall p_power_so (fCons (fVar 1) (fCons (fVar 2) fNil))) (fItems (fVar 0))) fNil)))
def p_fillings_so : List PyData → Option PyData := runF 2 3 b_p_fillings_so
theorem sc_p_fillings_so : FnScope ["holder", "many", "places"] ["holder", "many"] (defScope (top 13)) := ⟨rfl, rfl, rfl, by decide +kernel, rfl, by decide +kernel, by decide +kernel⟩
theorem ok_p_fillings_so (T : Txt mg) (hF : Has K mg "fillings_so" 13) (c_p_power_so : Cal P w K mg base 1 "power_so" ["number", "times"] (spF 2 p_power_so)) : Cal P w K mg base 2 "fillings_so" ["holder", "many"] (spF 2 p_fillings_so) :=
  cal_of (k := 1) (N := ["holder", "many", "places"]) hF sc_p_fillings_so rfl (fun _ _ _ _ _ _ us hl => match us, hl with | [_, _], _ => rfl) (body := b_p_fillings_so) fun f cd A outer s H F o =>
  (s_one (s_ret (ds_ret (ec (de_sum2 o.calm rfl T.sum (da_fCons (v_comp (de_comp (.nm 2) [("places", 2)] o.calm sc_p_fillings_so.nd (di_seq (de_var 0 (pv 0))) (blkOk_by (N := ["holder", "many", "places"]) (sc := defScope (top 13)) (by decide +kernel)) (fun _ _ _ _ _ => (pg_name (i := 2) sc_p_fillings_so.nd rfl (by first | exact Or.inl rfl | exact Or.inr rfl))) (fun _ _ _ _ _ => ts_nil) (fun _ _ _ _ _ => (ec (de_call c_p_power_so o.blk (by decide) runF_len rfl (da_fCons (de_var 1 (pv 1)) (da_fCons (de_var 2 (pv 2)) da_fNil))))) (by decide))) da_fNil))))))

/-! rows_of -/
def b_p_rows_of : Sl → Option Out := (gSeq (gSet 2 (fLst (fCons (fTup fNil) fNil)))
  (gSeq (gFor (.nm 3) (fRange (fVar 1))
  (gSeq (gSetOwn 4 fNil)
  (gSeq (gFor (.nm 5) (fItems (fVar 2))
  (gExt 4 (fComp (.nm 6) [6] fYes (f2 opAdd (fVar 5) (fTup (fCons (fVar 6) fNil))) (fItems (fVar 0)))))
  (gFrz 4 (gSet 2 (fCall opList (fCons (fVar 4) fNil)))))))
  (gRet (fVar 2))))
def p_rows_of : List PyData → Option PyData := runF 2 7 b_p_rows_of
theorem sc_p_rows_of : FnScope ["things", "size", "found", "step", "longer", "row", "thing"] ["things", "size"] (defScope (top 15)) := ⟨rfl, rfl, rfl, by decide +kernel, rfl, by decide +kernel, by decide +kernel⟩
theorem ok_p_rows_of (T : Txt mg) (hF : Has K mg "rows_of" 15) : Cal P w K mg base 1 "rows_of" ["things", "size"] (spF 2 p_rows_of) :=
  cal_of (k := 0) (N := ["things", "size", "found", "step", "longer", "row", "thing"]) hF sc_p_rows_of rfl (fun _ _ _ _ _ _ us hl => match us, hl with | [_, _], _ => rfl) (body := b_p_rows_of) fun f cd A outer s H F o =>
  (s_cons (s_set (ds_set 2 sc_p_rows_of.nd rfl (by first | exact Or.inl rfl | exact Or.inr rfl) (de_fLst (da_fCons (de_fTup da_fNil) da_fNil))))
  (s_cons (s_for (ds_for (.nm 3) PassesOwn.never o.calm (di_range rfl T.range (de_var 1 (pv 1))) (pg_name (i := 3) sc_p_rows_of.nd rfl (by first | exact Or.inl rfl | exact Or.inr rfl))
  (s_cons (s_setOwn (ds_setOwn 4 sc_p_rows_of.nd rfl (by first | exact Or.inl rfl | exact Or.inr rfl) da_fNil))
  (s_cons (s_for (ds_for (.nm 5) PassesOwn.never o.calm (di_seq (de_var 2 (pv 2))) (pg_name (i := 5) sc_p_rows_of.nd rfl (by first | exact Or.inl rfl | exact Or.inr rfl))
  (s_one (s_ext (ds_ext 4 (pv 4) (v_comp (de_comp (.nm 6) [("thing", 6)] o.calm sc_p_rows_of.nd (di_seq (de_var 0 (pv 0))) (blkOk_by (N := ["things", "size", "found", "step", "longer", "row", "thing"]) (sc := defScope (top 15)) (by decide +kernel)) (fun _ _ _ _ _ => (pg_name (i := 6) sc_p_rows_of.nd rfl (by first | exact Or.inl rfl | exact Or.inr rfl))) (fun _ _ _ _ _ => ts_nil) (fun _ _ _ _ _ => (e2 (de_add (de_var 5 (pv 5)) (de_fTup (da_fCons (de_var 6 (pv 6)) da_fNil))))) (by decide))))))))
  (s_frz 4 (s_one (s_set (ds_set 2 sc_p_rows_of.nd rfl (by first | exact Or.inl rfl | exact Or.inr rfl) (ec (de_list rfl T.list (da_fCons (de_var 4 (pv 4)) da_fNil)))))))))))
  (s_one (s_ret (ds_ret (de_var 2 (pv 2)))))))

/-! own_so -/
def b_p_own_so : Sl → Option Out := (gRet (fTup (fCons (fVar 1) (fCons (fRng .tuple fZero (f2 opIdx (fVar 0) (fVar 1))) fNil))))
def p_own_so : List PyData → Option PyData := runF 2 2 b_p_own_so
theorem sc_p_own_so : FnScope ["holder", "shape"] ["holder", "shape"] (defScope (top 16)) := ⟨rfl, rfl, rfl, by decide +kernel, rfl, by decide +kernel, by decide +kernel⟩
theorem ok_p_own_so (T : Txt mg) (hF : Has K mg "own_so" 16) : Cal P w K mg base 1 "own_so" ["holder", "shape"] (spF 2 p_own_so) :=
  cal_of (k := 0) (N := ["holder", "shape"]) hF sc_p_own_so rfl (fun _ _ _ _ _ _ us hl => match us, hl with | [_, _], _ => rfl) (body := b_p_own_so) fun f cd A outer s H F o =>
  (s_one (s_ret (ds_ret (de_fTup (da_fCons (de_var 1 (pv 1)) (da_fCons (de_tupRg1 o.calm rfl T.tuple rfl T.range (e2 (de_idx (de_var 0 (pv 0)) (de_var 1 (pv 1))))) da_fNil))))))

/-! is_row -/
def b_p_is_row : Sl → Option Out := (gSeq (gIf (fOr (fNot (fT (f1 opIsTup (fVar 2)))) (fOr (fT (f2 opNe (fCall opLen (fCons (fVar 2) fNil)) (fC (.int 2)))) (fNot (fT (f1 opIsTup (f2 opIdx (fVar 2) (fC (.int 1))))))))
  (gRet (fC (.bool false)))
  gNext)
  (gSeq (gIf (fOr (fNot (fT (fCall p_is_from (fCons (f2 opIdx (fVar 2) (fC (.int 0))) (fCons (fC (.int 0)) (fCons (f2 opSub (fCall opLen (fCons (fVar 1) fNil)) (fC (.int 1))) fNil)))))) (fT (f2 opNe (fCall opLen (fCons (f2 opIdx (fVar 2) (fC (.int 1))) fNil)) (f2 opIdx (fVar 1) (f2 opIdx (fVar 2) (fC (.int 0)))))))
  (gRet (fC (.bool false)))
  gNext)
  (gRet (f2 opEq (fCall opLen (fCons (fComp (.nm 3) [3] (fNot (fT (fCall p_is_from (fCons (fVar 3) (fCons (fC (.int 0)) (fCons (f2 opSub (fVar 0) (fC (.int 1))) fNil)))))) (fC (.int 1)) (fItems (f2 opIdx (fVar 2) (fC (.int 1))))) fNil)) (fC (.int 0))))))
def p_is_row : List PyData → Option PyData := runF 3 4 b_p_is_row
theorem sc_p_is_row : FnScope ["places", "goal", "value", "place"] ["places", "goal", "value"] (defScope (top 18)) := ⟨rfl, rfl, rfl, by decide +kernel, rfl, by decide +kernel, by decide +kernel⟩
theorem ok_p_is_row (T : Txt mg) (hF : Has K mg "is_row" 18) (c_p_is_from : Cal P w K mg base 1 "is_from" ["value", "low", "high"] (spF 3 p_is_from)) : Cal P w K mg base 2 "is_row" ["places", "goal", "value"] (spF 3 p_is_row) :=
  cal_of (k := 1) (N := ["places", "goal", "value", "place"]) hF sc_p_is_row rfl (fun _ _ _ _ _ _ us hl => match us, hl with | [_, _, _], _ => rfl) (body := b_p_is_row) fun f cd A outer s H F o =>
  (s_cons (s_if (ds_if (DW.dt (w_or (t_not (tv (e1 (de_isTup rfl T.isinstance rfl T.tuple (de_var 2 (pv 2)))))) (w_or (t2 (dt_ne o.u64 (ec (de_len rfl T.len (da_fCons (de_var 2 (pv 2)) da_fNil))) de_int)) (w_or1 (t_not (tv (e1 (de_isTup rfl T.isinstance rfl T.tuple (e2 (de_idx (de_var 2 (pv 2)) de_int))))))))))
  (s_one (s_ret (ds_ret de_bl)))
  s_nil))
  (s_cons (s_if (ds_if (DW.dt (w_or (t_not (tv (ec (de_call c_p_is_from o (by decide) runF_len rfl (da_fCons (e2 (de_idx (de_var 2 (pv 2)) de_int)) (da_fCons de_int (da_fCons (e2 (de_sub (ec (de_len rfl T.len (da_fCons (de_var 1 (pv 1)) da_fNil))) de_int)) da_fNil))))))) (w_or1 (t2 (dt_ne o.u64 (ec (de_len rfl T.len (da_fCons (e2 (de_idx (de_var 2 (pv 2)) de_int)) da_fNil))) (e2 (de_idx (de_var 1 (pv 1)) (e2 (de_idx (de_var 2 (pv 2)) de_int)))))))))
  (s_one (s_ret (ds_ret de_bl)))
  s_nil))
  (s_one (s_ret (ds_ret (e2 (de_eq o.u64 (ec (de_len rfl T.len (da_fCons (v_comp (de_comp (.nm 3) [("place", 3)] o.calm sc_p_is_row.nd (di_seq (e2 (de_idx (de_var 2 (pv 2)) de_int))) (blkOk_by (N := ["places", "goal", "value", "place"]) (sc := defScope (top 18)) (by decide +kernel)) (fun _ _ _ _ _ => (pg_name (i := 3) sc_p_is_row.nd rfl (by first | exact Or.inl rfl | exact Or.inr rfl))) (fun _ _ _ _ _ => (ts_one (t_not (tv (ec (de_call c_p_is_from o.blk (by decide) runF_len rfl (da_fCons (de_var 3 (pv 3)) (da_fCons de_int (da_fCons (e2 (de_sub (de_var 0 (pv 0)) de_int)) da_fNil))))))))) (fun _ _ _ _ _ => de_int) (by decide))) da_fNil))) de_int)))))))

/-! check_program -/
def b_p_check_program : Sl → Option Out := (gSeq (gIf (fOr (fNot (fT (f1 opIsTup (fVar 2)))) (fT (f2 opNe (fCall opLen (fCons (fVar 2) fNil)) (fCall opLen (fCons (fVar 0) fNil)))))
  gNever
  gNext)
  (gSeq (gFor (.pr 3 4) (fEnum (fVar 0))
  (gIf (fNot (fT (fCall p_is_row (fCons (fVar 4) (fCons (fVar 1) (fCons (f2 opIdx (fVar 2) (fVar 3)) fNil))))))
  gNever
  gNext))
  (gRet (fVar 2))))
def p_check_program : List PyData → Option PyData := runF 3 5 b_p_check_program
theorem sc_p_check_program : FnScope ["holder", "goal", "program", "shape", "places"] ["holder", "goal", "program"] (defScope (top 19)) := ⟨rfl, rfl, rfl, by decide +kernel, rfl, by decide +kernel, by decide +kernel⟩
theorem ok_p_check_program (T : Txt mg) (hF : Has K mg "check_program" 19) (c_p_is_row : Cal P w K mg base 2 "is_row" ["places", "goal", "value"] (spF 3 p_is_row)) : Cal P w K mg base 3 "check_program" ["holder", "goal", "program"] (spF 3 p_check_program) :=
  cal_of (k := 2) (N := ["holder", "goal", "program", "shape", "places"]) hF sc_p_check_program rfl (fun _ _ _ _ _ _ us hl => match us, hl with | [_, _, _], _ => rfl) (body := b_p_check_program) fun f cd A outer s H F o =>
  (s_cons (s_if (ds_if (DW.dt (w_or (t_not (tv (e1 (de_isTup rfl T.isinstance rfl T.tuple (de_var 2 (pv 2)))))) (w_or1 (t2 (dt_ne o.u64 (ec (de_len rfl T.len (da_fCons (de_var 2 (pv 2)) da_fNil))) (ec (de_len rfl T.len (da_fCons (de_var 0 (pv 0)) da_fNil))))))))
  (s_one s_never)
  s_nil))
  (s_cons (s_for (ds_for (.pr 3 4) PassesOwn.never o.calm (di_enum rfl T.enumerate (de_var 0 (pv 0))) (pg_pr o.calm (pg_name (i := 3) sc_p_check_program.nd rfl (by first | exact Or.inl rfl | exact Or.inr rfl)) (pg_name (i := 4) sc_p_check_program.nd rfl (by first | exact Or.inl rfl | exact Or.inr rfl)))
  (s_one (s_if (ds_if (t_not (tv (ec (de_call c_p_is_row o (by decide) runF_len rfl (da_fCons (de_var 4 (pv 4)) (da_fCons (de_var 1 (pv 1)) (da_fCons (e2 (de_idx (de_var 2 (pv 2)) (de_var 3 (pv 3)))) da_fNil)))))))
  (s_one s_never)
  s_nil)))))
  (s_one (s_ret (ds_ret (de_var 2 (pv 2)))))))

/-! done_so -/
def b_p_done_so : Sl → Option Out := (gSeq (gBind (.pr 2 3) (f2 opIdx (fVar 0) (f2 opIdx (fVar 1) (fC (.int 0)))))
  (gRet (fTup (fCons (fVar 2) (fCons (fCall opTuple (fCons (fComp (.nm 4) [4] fYes (f2 opIdx (f2 opIdx (fVar 1) (fC (.int 1))) (fVar 4)) (fItems (fVar 3))) fNil)) fNil)))))
def p_done_so : List PyData → Option PyData := runF 2 5 b_p_done_so
theorem sc_p_done_so : FnScope ["program", "filling", "goal", "places", "place"] ["program", "filling"] (defScope (top 20)) := ⟨rfl, rfl, rfl, by decide +kernel, rfl, by decide +kernel, by decide +kernel⟩
theorem ok_p_done_so (T : Txt mg) (hF : Has K mg "done_so" 20) : Cal P w K mg base 1 "done_so" ["program", "filling"] (spF 2 p_done_so) :=
  cal_of (k := 0) (N := ["program", "filling", "goal", "places", "place"]) hF sc_p_done_so rfl (fun _ _ _ _ _ _ us hl => match us, hl with | [_, _], _ => rfl) (body := b_p_done_so) fun f cd A outer s H F o =>
  (s_cons (s_bind (ds_bind (.pr 2 3) (pg_pr o.calm (pg_name (i := 2) sc_p_done_so.nd rfl (by first | exact Or.inl rfl | exact Or.inr rfl)) (pg_name (i := 3) sc_p_done_so.nd rfl (by first | exact Or.inl rfl | exact Or.inr rfl))) (e2 (de_idx (de_var 0 (pv 0)) (e2 (de_idx (de_var 1 (pv 1)) de_int))))))
  (s_one (s_ret (ds_ret (de_fTup (da_fCons (de_var 2 (pv 2)) (da_fCons (ec (de_tuple rfl T.tuple (da_fCons (v_comp (de_comp (.nm 4) [("place", 4)] o.calm sc_p_done_so.nd (di_seq (de_var 3 (pv 3))) (blkOk_by (N := ["program", "filling", "goal", "places", "place"]) (sc := defScope (top 20)) (by decide +kernel)) (fun _ _ _ _ _ => (pg_name (i := 4) sc_p_done_so.nd rfl (by first | exact Or.inl rfl | exact Or.inr rfl))) (fun _ _ _ _ _ => ts_nil) (fun _ _ _ _ _ => (e2 (de_idx (e2 (de_idx (de_var 1 (pv 1)) de_int)) (de_var 4 (pv 4))))) (by decide))) da_fNil))) da_fNil)))))))

/-! check_size -/
def b_p_check_size : Sl → Option Out := (gSeq (gIf (fT (f2 opGt (fVar 0) (fC (.int 60))))
  gNever
  gNext)
  (gIf (fT (f2 opGt (fVar 1) (fC (.int 12))))
  gNever
  gNext))
def p_check_size : List PyData → Option PyData := runF 2 2 b_p_check_size
theorem sc_p_check_size : FnScope ["shapes", "places"] ["shapes", "places"] (defScope (top 22)) := ⟨rfl, rfl, rfl, by decide +kernel, rfl, by decide +kernel, by decide +kernel⟩
theorem ok_p_check_size (T : Txt mg) (hF : Has K mg "check_size" 22) : Cal P w K mg base 1 "check_size" ["shapes", "places"] (spF 2 p_check_size) :=
  cal_of (k := 0) (N := ["shapes", "places"]) hF sc_p_check_size rfl (fun _ _ _ _ _ _ us hl => match us, hl with | [_, _], _ => rfl) (body := b_p_check_size) fun f cd A outer s H F o =>
  (s_cons (s_if (ds_if (t2 (dt_gt (de_var 0 (pv 0)) (de_gint T.shapes rfl)))
  (s_one s_never)
  s_nil))
  (s_one (s_if (ds_if (t2 (dt_gt (de_var 1 (pv 1)) (de_gint T.places rfl)))
  (s_one s_never)
  s_nil))))

/-! greatest -/
def b_p_greatest : Sl → Option Out := (gRet (f1 opMaxT (fVar 0)))
def p_greatest : List PyData → Option PyData := runF 1 1 b_p_greatest
theorem sc_p_greatest : FnScope ["holder"] ["holder"] (defScope (top 23)) := ⟨rfl, rfl, rfl, by decide +kernel, rfl, by decide +kernel, by decide +kernel⟩
theorem ok_p_greatest (T : Txt mg) (hF : Has K mg "greatest" 23) : Cal P w K mg base 1 "greatest" ["holder"] (spF 1 p_greatest) :=
  cal_of (k := 0) (N := ["holder"]) hF sc_p_greatest rfl (fun _ _ _ _ _ _ us hl => match us, hl with | [_], _ => rfl) (body := b_p_greatest) fun f cd A outer s H F o =>
  (s_one (s_ret (ds_ret (e1 (de_maxT o.calm rfl T.max (de_var 0 (pv 0)))))))

/-! multiplied_so -/
def b_p_multiplied_so : Sl → Option Out := (gSeq (gSet 2 (f2 opMul (fCall opLen (fCons (fVar 0) fNil)) (fCall opLen (fCons (fVar 1) fNil))))
  (gSeq (gDrop (fCall p_check_size (fCons (fVar 2) (fCons (fIfE (fT (f2 opGt (fVar 2) (fC (.int 0)))) (f2 opAdd (fCall p_greatest (fCons (fVar 0) fNil)) (fCall p_greatest (fCons (fVar 1) fNil))) (fC (.int 0))) fNil))))
  (gRet (fCall opTuple (fCons (fComp2 (.nm 3) (.nm 4) [3, 4] [4] (f2 opAdd (fVar 3) (fVar 4)) (fItems (fVar 0)) (fItems (fVar 1))) fNil)))))
def p_multiplied_so : List PyData → Option PyData := runF 2 5 b_p_multiplied_so
theorem sc_p_multiplied_so : FnScope ["one", "other", "shapes", "near", "far"] ["one", "other"] (defScope (top 24)) := ⟨rfl, rfl, rfl, by decide +kernel, rfl, by decide +kernel, by decide +kernel⟩
theorem ok_p_multiplied_so (T : Txt mg) (hF : Has K mg "multiplied_so" 24) (c_p_greatest : Cal P w K mg base 1 "greatest" ["holder"] (spF 1 p_greatest)) (c_p_check_size : Cal P w K mg base 1 "check_size" ["shapes", "places"] (spF 2 p_check_size)) : Cal P w K mg base 2 "multiplied_so" ["one", "other"] (spF 2 p_multiplied_so) :=
  cal_of (k := 1) (N := ["one", "other", "shapes", "near", "far"]) hF sc_p_multiplied_so rfl (fun _ _ _ _ _ _ us hl => match us, hl with | [_, _], _ => rfl) (body := b_p_multiplied_so) fun f cd A outer s H F o =>
  (s_cons (s_set (ds_set 2 sc_p_multiplied_so.nd rfl (by first | exact Or.inl rfl | exact Or.inr rfl) (e2 (de_mul (ec (de_len rfl T.len (da_fCons (de_var 0 (pv 0)) da_fNil))) (ec (de_len rfl T.len (da_fCons (de_var 1 (pv 1)) da_fNil)))))))
  (s_cons (s_drop (ds_expr (ec (de_call c_p_check_size o (by decide) runF_len rfl (da_fCons (de_var 2 (pv 2)) (da_fCons (v_if (t2 (dt_gt (de_var 2 (pv 2)) de_int)) (e2 (de_add (ec (de_call c_p_greatest o (by decide) runF_len rfl (da_fCons (de_var 0 (pv 0)) da_fNil))) (ec (de_call c_p_greatest o (by decide) runF_len rfl (da_fCons (de_var 1 (pv 1)) da_fNil))))) de_int) da_fNil))))))
  (s_one (s_ret (ds_ret (ec (de_tuple rfl T.tuple (da_fCons (v_comp2 (de_comp2 (.nm 3) (.nm 4) [("near", 3), ("far", 4)] [4] o.calm sc_p_multiplied_so.nd (di_seq (de_var 0 (pv 0))) (blkOk_by (N := ["one", "other", "shapes", "near", "far"]) (sc := defScope (top 24)) (by decide +kernel)) (by decide) (fun _ _ _ _ _ => (pg_name (i := 3) sc_p_multiplied_so.nd rfl (by first | exact Or.inl rfl | exact Or.inr rfl))) (fun _ _ _ _ _ => (di_seq (de_var 1 (pv 1)))) (fun _ _ _ _ _ => (pg_name (i := 4) sc_p_multiplied_so.nd rfl (by first | exact Or.inl rfl | exact Or.inr rfl))) (fun _ _ _ _ _ => (e2 (de_add (de_var 3 (pv 3)) (de_var 4 (pv 4))))) (by decide) (by decide))) da_fNil))))))))

/-! multiplied -/
def b_p_multiplied : Sl → Option Out := (gSeq (gDrop (fCall p_need_holder (fCons (fVar 0) fNil)))
  (gRet (fCall p_multiplied_so (fCons (fVar 0) (fCons (fCall p_need_holder (fCons (fVar 1) fNil)) fNil)))))
def p_multiplied : List PyData → Option PyData := runF 2 2 b_p_multiplied
theorem sc_p_multiplied : FnScope ["one", "other"] ["one", "other"] (defScope (top 25)) := ⟨rfl, rfl, rfl, by decide +kernel, rfl, by decide +kernel, by decide +kernel⟩
theorem ok_p_multiplied (T : Txt mg) (hF : Has K mg "multiplied" 25) (c_p_need_holder : Cal P w K mg base 3 "need_holder" ["value"] (spF 1 p_need_holder)) (c_p_multiplied_so : Cal P w K mg base 2 "multiplied_so" ["one", "other"] (spF 2 p_multiplied_so)) : Cal P w K mg base 4 "multiplied" ["one", "other"] (spF 2 p_multiplied) :=
  cal_of (k := 3) (N := ["one", "other"]) hF sc_p_multiplied rfl (fun _ _ _ _ _ _ us hl => match us, hl with | [_, _], _ => rfl) (body := b_p_multiplied) fun f cd A outer s H F o =>
  (s_cons (s_drop (ds_expr (ec (de_call c_p_need_holder o (by decide) runF_len rfl (da_fCons (de_var 0 (pv 0)) da_fNil)))))
  (s_one (s_ret (ds_ret (ec (de_call c_p_multiplied_so o (by decide) runF_len rfl (da_fCons (de_var 0 (pv 0)) (da_fCons (ec (de_call c_p_need_holder o (by decide) runF_len rfl (da_fCons (de_var 1 (pv 1)) da_fNil))) da_fNil))))))))

/-! into_count -/
def b_p_into_count : Sl → Option Out := (gRet (fCall opSum2 (fCons (fComp (.nm 2) [2] fYes (fCall p_power_so (fCons (fCall opLen (fCons (fVar 1) fNil)) (fCons (fVar 2) fNil))) (fItems (fVar 0))) fNil)))
def p_into_count : List PyData → Option PyData := runF 2 3 b_p_into_count
theorem sc_p_into_count : FnScope ["one", "other", "places"] ["one", "other"] (defScope (top 27)) := ⟨rfl, rfl, rfl, by decide +kernel, rfl, by decide +kernel, by decide +kernel⟩
theorem ok_p_into_count (T : Txt mg) (hF : Has K mg "into_count" 27) (c_p_power_so : Cal P w K mg base 1 "power_so" ["number", "times"] (spF 2 p_power_so)) : Cal P w K mg base 2 "into_count" ["one", "other"] (spF 2 p_into_count) :=
  cal_of (k := 1) (N := ["one", "other", "places"]) hF sc_p_into_count rfl (fun _ _ _ _ _ _ us hl => match us, hl with | [_, _], _ => rfl) (body := b_p_into_count) fun f cd A outer s H F o =>
  (s_one (s_ret (ds_ret (ec (de_sum2 o.calm rfl T.sum (da_fCons (v_comp (de_comp (.nm 2) [("places", 2)] o.calm sc_p_into_count.nd (di_seq (de_var 0 (pv 0))) (blkOk_by (N := ["one", "other", "places"]) (sc := defScope (top 27)) (by decide +kernel)) (fun _ _ _ _ _ => (pg_name (i := 2) sc_p_into_count.nd rfl (by first | exact Or.inl rfl | exact Or.inr rfl))) (fun _ _ _ _ _ => ts_nil) (fun _ _ _ _ _ => (ec (de_call c_p_power_so o.blk (by decide) runF_len rfl (da_fCons (ec (de_len rfl T.len (da_fCons (de_var 1 (pv 1)) da_fNil))) (da_fCons (de_var 2 (pv 2)) da_fNil))))) (by decide))) da_fNil))))))

/-! into_so -/
def b_p_into_so : Sl → Option Out := (gRet (fComp2 (.pr 3 4) (.nm 2) [3, 4, 2] [2] (fTup (fCons (fVar 3) (fCons (fVar 2) fNil))) (fEnum (fVar 0)) (fItems (fCall p_rows_of (fCons (fRng .list fZero (fCall opLen (fCons (fVar 1) fNil))) (fCons (fVar 4) fNil))))))
def p_into_so : List PyData → Option PyData := runF 2 5 b_p_into_so
theorem sc_p_into_so : FnScope ["one", "other", "row", "shape", "places"] ["one", "other"] (defScope (top 28)) := ⟨rfl, rfl, rfl, by decide +kernel, rfl, by decide +kernel, by decide +kernel⟩
theorem ok_p_into_so (T : Txt mg) (hF : Has K mg "into_so" 28) (c_p_rows_of : Cal P w K mg base 1 "rows_of" ["things", "size"] (spF 2 p_rows_of)) : Cal P w K mg base 2 "into_so" ["one", "other"] (spF 2 p_into_so) :=
  cal_of (k := 1) (N := ["one", "other", "row", "shape", "places"]) hF sc_p_into_so rfl (fun _ _ _ _ _ _ us hl => match us, hl with | [_, _], _ => rfl) (body := b_p_into_so) fun f cd A outer s H F o =>
  (s_one (s_ret (ds_ret (v_comp2 (de_comp2 (.pr 3 4) (.nm 2) [("shape", 3), ("places", 4), ("row", 2)] [2] o.calm sc_p_into_so.nd (di_enum rfl T.enumerate (de_var 0 (pv 0))) (blkOk_by (N := ["one", "other", "row", "shape", "places"]) (sc := defScope (top 28)) (by decide +kernel)) (by decide) (fun _ _ _ _ _ => (pg_pr o.blk.calm (pg_name (i := 3) sc_p_into_so.nd rfl (by first | exact Or.inl rfl | exact Or.inr rfl)) (pg_name (i := 4) sc_p_into_so.nd rfl (by first | exact Or.inl rfl | exact Or.inr rfl)))) (fun _ _ _ _ _ => (di_seq (ec (de_call c_p_rows_of o.blk (by decide) runF_len rfl (da_fCons (de_lstRg1 o.blk.calm rfl T.list rfl T.range (ec (de_len rfl T.len (da_fCons (de_var 1 (pv 1)) da_fNil)))) (da_fCons (de_var 4 (pv 4)) da_fNil)))))) (fun _ _ _ _ _ => (pg_name (i := 2) sc_p_into_so.nd rfl (by first | exact Or.inl rfl | exact Or.inr rfl))) (fun _ _ _ _ _ => (de_fTup (da_fCons (de_var 3 (pv 3)) (da_fCons (de_var 2 (pv 2)) da_fNil)))) (by decide) (by decide))))))

/-! into_sizes -/
def b_p_into_sizes : Sl → Option Out := (gRet (fCall opTuple (fCons (fComp (.pr 2 3) [2, 3] fYes (fCall opSum2 (fCons (fComp (.nm 4) [4] fYes (f2 opIdx (fVar 1) (fVar 4)) (fItems (fVar 3))) fNil)) (fItems (fCall p_into_so (fCons (fVar 0) (fCons (fVar 1) fNil))))) fNil)))
def p_into_sizes : List PyData → Option PyData := runF 2 5 b_p_into_sizes
theorem sc_p_into_sizes : FnScope ["one", "other", "shape", "row", "inner"] ["one", "other"] (defScope (top 29)) := ⟨rfl, rfl, rfl, by decide +kernel, rfl, by decide +kernel, by decide +kernel⟩
theorem ok_p_into_sizes (T : Txt mg) (hF : Has K mg "into_sizes" 29) (c_p_into_so : Cal P w K mg base 2 "into_so" ["one", "other"] (spF 2 p_into_so)) : Cal P w K mg base 3 "into_sizes" ["one", "other"] (spF 2 p_into_sizes) :=
  cal_of (k := 2) (N := ["one", "other", "shape", "row", "inner"]) hF sc_p_into_sizes rfl (fun _ _ _ _ _ _ us hl => match us, hl with | [_, _], _ => rfl) (body := b_p_into_sizes) fun f cd A outer s H F o =>
  (s_one (s_ret (ds_ret (ec (de_tuple rfl T.tuple (da_fCons (v_comp (de_comp (.pr 2 3) [("shape", 2), ("row", 3)] o.calm sc_p_into_sizes.nd (di_seq (ec (de_call c_p_into_so o (by decide) runF_len rfl (da_fCons (de_var 0 (pv 0)) (da_fCons (de_var 1 (pv 1)) da_fNil))))) (blkOk_by (N := ["one", "other", "shape", "row", "inner"]) (sc := defScope (top 29)) (by decide +kernel)) (fun _ _ _ _ _ => (pg_pr o.blk.calm (pg_name (i := 2) sc_p_into_sizes.nd rfl (by first | exact Or.inl rfl | exact Or.inr rfl)) (pg_name (i := 3) sc_p_into_sizes.nd rfl (by first | exact Or.inl rfl | exact Or.inr rfl)))) (fun _ _ _ _ _ => ts_nil) (fun _ _ _ _ _ => (ec (de_sum2 o.blk.calm rfl T.sum (da_fCons (v_comp (de_comp (.nm 4) [("inner", 4)] o.blk.calm sc_p_into_sizes.nd (di_seq (de_var 3 (pv 3))) (blkOk_in (N := ["one", "other", "shape", "row", "inner"]) rfl (by decide +kernel)) (fun _ _ _ _ _ => (pg_name (i := 4) sc_p_into_sizes.nd rfl (by first | exact Or.inl rfl | exact Or.inr rfl))) (fun _ _ _ _ _ => ts_nil) (fun _ _ _ _ _ => (e2 (de_idx (de_var 1 (pv 1)) (de_var 4 (pv 4))))) (by decide))) da_fNil)))) (by decide))) da_fNil))))))

/-! number_so -/
def b_p_number_so : Sl → Option Out := (gSeq (gSet 4 (fC (.int 0)))
  (gSeq (gFor (.nm 5) (fItems (fVar 3))
  (gSet 4 (f2 opAdd (f2 opMul (fVar 4) (fVar 1)) (fVar 5))))
  (gRet (f2 opAdd (fVar 4) (fCall opSum2 (fCons (fComp (.nm 6) [6] fYes (fCall p_power_so (fCons (fVar 1) (fCons (fVar 6) fNil))) (fItems (fSlice (fVar 0) none (some (fVar 2))))) fNil))))))
def p_number_so : List PyData → Option PyData := runF 4 7 b_p_number_so
theorem sc_p_number_so : FnScope ["one", "size", "shape", "row", "found", "inner", "places"] ["one", "size", "shape", "row"] (defScope (top 30)) := ⟨rfl, rfl, rfl, by decide +kernel, rfl, by decide +kernel, by decide +kernel⟩
theorem ok_p_number_so (T : Txt mg) (hF : Has K mg "number_so" 30) (c_p_power_so : Cal P w K mg base 1 "power_so" ["number", "times"] (spF 2 p_power_so)) : Cal P w K mg base 2 "number_so" ["one", "size", "shape", "row"] (spF 4 p_number_so) :=
  cal_of (k := 1) (N := ["one", "size", "shape", "row", "found", "inner", "places"]) hF sc_p_number_so rfl (fun _ _ _ _ _ _ us hl => match us, hl with | [_, _, _, _], _ => rfl) (body := b_p_number_so) fun f cd A outer s H F o =>
  (s_cons (s_set (ds_set 4 sc_p_number_so.nd rfl (by first | exact Or.inl rfl | exact Or.inr rfl) de_int))
  (s_cons (s_for (ds_for (.nm 5) PassesOwn.never o.calm (di_seq (de_var 3 (pv 3))) (pg_name (i := 5) sc_p_number_so.nd rfl (by first | exact Or.inl rfl | exact Or.inr rfl))
  (s_one (s_set (ds_set 4 sc_p_number_so.nd rfl (by first | exact Or.inl rfl | exact Or.inr rfl) (e2 (de_add (e2 (de_mul (de_var 4 (pv 4)) (de_var 1 (pv 1)))) (de_var 5 (pv 5)))))))))
  (s_one (s_ret (ds_ret (e2 (de_add (de_var 4 (pv 4)) (ec (de_sum2 o.calm rfl T.sum (da_fCons (v_comp (de_comp (.nm 6) [("places", 6)] o.calm sc_p_number_so.nd (di_seq (de_fSlice01 (de_var 0 (pv 0)) (de_var 2 (pv 2)))) (blkOk_by (N := ["one", "size", "shape", "row", "found", "inner", "places"]) (sc := defScope (top 30)) (by decide +kernel)) (fun _ _ _ _ _ => (pg_name (i := 6) sc_p_number_so.nd rfl (by first | exact Or.inl rfl | exact Or.inr rfl))) (fun _ _ _ _ _ => ts_nil) (fun _ _ _ _ _ => (ec (de_call c_p_power_so o.blk (by decide) runF_len rfl (da_fCons (de_var 1 (pv 1)) (da_fCons (de_var 6 (pv 6)) da_fNil))))) (by decide))) da_fNil))))))))))

/-! check_twice -/
def b_p_check_twice : Sl → Option Out := (gSeq (gSet 1 (fCall p_into_count (fCons (fVar 0) (fCons (fVar 0) fNil))))
  (gSeq (gDrop (fCall p_check_size (fCons (fVar 1) (fCons (f2 opMul (fCall p_greatest (fCons (fVar 0) fNil)) (fCall p_greatest (fCons (fVar 0) fNil))) fNil))))
  (gIf (fT (f2 opGt (fCall p_fillings_so (fCons (fVar 0) (fCons (fVar 1) fNil))) (fC (.int 5000))))
  gNever
  gNext)))
def p_check_twice : List PyData → Option PyData := runF 1 2 b_p_check_twice
theorem sc_p_check_twice : FnScope ["holder", "shapes"] ["holder"] (defScope (top 33)) := ⟨rfl, rfl, rfl, by decide +kernel, rfl, by decide +kernel, by decide +kernel⟩
theorem ok_p_check_twice (T : Txt mg) (hF : Has K mg "check_twice" 33) (c_p_into_count : Cal P w K mg base 2 "into_count" ["one", "other"] (spF 2 p_into_count)) (c_p_greatest : Cal P w K mg base 1 "greatest" ["holder"] (spF 1 p_greatest)) (c_p_check_size : Cal P w K mg base 1 "check_size" ["shapes", "places"] (spF 2 p_check_size)) (c_p_fillings_so : Cal P w K mg base 2 "fillings_so" ["holder", "many"] (spF 2 p_fillings_so)) : Cal P w K mg base 3 "check_twice" ["holder"] (spF 1 p_check_twice) :=
  cal_of (k := 2) (N := ["holder", "shapes"]) hF sc_p_check_twice rfl (fun _ _ _ _ _ _ us hl => match us, hl with | [_], _ => rfl) (body := b_p_check_twice) fun f cd A outer s H F o =>
  (s_cons (s_set (ds_set 1 sc_p_check_twice.nd rfl (by first | exact Or.inl rfl | exact Or.inr rfl) (ec (de_call c_p_into_count o (by decide) runF_len rfl (da_fCons (de_var 0 (pv 0)) (da_fCons (de_var 0 (pv 0)) da_fNil))))))
  (s_cons (s_drop (ds_expr (ec (de_call c_p_check_size o (by decide) runF_len rfl (da_fCons (de_var 1 (pv 1)) (da_fCons (e2 (de_mul (ec (de_call c_p_greatest o (by decide) runF_len rfl (da_fCons (de_var 0 (pv 0)) da_fNil))) (ec (de_call c_p_greatest o (by decide) runF_len rfl (da_fCons (de_var 0 (pv 0)) da_fNil))))) da_fNil))))))
  (s_one (s_if (ds_if (t2 (dt_gt (ec (de_call c_p_fillings_so o (by decide) runF_len rfl (da_fCons (de_var 0 (pv 0)) (da_fCons (de_var 1 (pv 1)) da_fNil)))) (de_gint T.thrice rfl)))
  (s_one s_never)
  s_nil)))))

/-! flat_so -/
def b_p_flat_so : Sl → Option Out := (gSeq (gSet 4 (fTup fNil))
  (gSeq (gFor (.nm 5) (fItems (fVar 3))
  (gSet 4 (f2 opAdd (fVar 4) (f2 opIdx (fVar 5) (fC (.int 1))))))
  (gSeq (gSet 6 (fCall opTuple (fCons (fComp (.nm 5) [5] fYes (f2 opIdx (fVar 5) (fC (.int 0))) (fItems (fVar 3))) fNil)))
  (gRet (fCall p_done_so (fCons (fVar 1) (fCons (fTup (fCons (fCall p_number_so (fCons (fVar 0) (fCons (fCall opLen (fCons (fVar 0) fNil)) (fCons (fVar 2) (fCons (fVar 6) fNil))))) (fCons (fVar 4) fNil))) fNil)))))))
def p_flat_so : List PyData → Option PyData := runF 4 7 b_p_flat_so
theorem sc_p_flat_so : FnScope ["holder", "flat", "shape", "fillings", "things", "filling", "row"] ["holder", "flat", "shape", "fillings"] (defScope (top 34)) := ⟨rfl, rfl, rfl, by decide +kernel, rfl, by decide +kernel, by decide +kernel⟩
theorem ok_p_flat_so (T : Txt mg) (hF : Has K mg "flat_so" 34) (c_p_number_so : Cal P w K mg base 2 "number_so" ["one", "size", "shape", "row"] (spF 4 p_number_so)) (c_p_done_so : Cal P w K mg base 1 "done_so" ["program", "filling"] (spF 2 p_done_so)) : Cal P w K mg base 3 "flat_so" ["holder", "flat", "shape", "fillings"] (spF 4 p_flat_so) :=
  cal_of (k := 2) (N := ["holder", "flat", "shape", "fillings", "things", "filling", "row"]) hF sc_p_flat_so rfl (fun _ _ _ _ _ _ us hl => match us, hl with | [_, _, _, _], _ => rfl) (body := b_p_flat_so) fun f cd A outer s H F o =>
  (s_cons (s_set (ds_set 4 sc_p_flat_so.nd rfl (by first | exact Or.inl rfl | exact Or.inr rfl) (de_fTup da_fNil)))
  (s_cons (s_for (ds_for (.nm 5) PassesOwn.never o.calm (di_seq (de_var 3 (pv 3))) (pg_name (i := 5) sc_p_flat_so.nd rfl (by first | exact Or.inl rfl | exact Or.inr rfl))
  (s_one (s_set (ds_set 4 sc_p_flat_so.nd rfl (by first | exact Or.inl rfl | exact Or.inr rfl) (e2 (de_add (de_var 4 (pv 4)) (e2 (de_idx (de_var 5 (pv 5)) de_int)))))))))
  (s_cons (s_set (ds_set 6 sc_p_flat_so.nd rfl (by first | exact Or.inl rfl | exact Or.inr rfl) (ec (de_tuple rfl T.tuple (da_fCons (v_comp (de_comp (.nm 5) [("filling", 5)] o.calm sc_p_flat_so.nd (di_seq (de_var 3 (pv 3))) (blkOk_by (N := ["holder", "flat", "shape", "fillings", "things", "filling", "row"]) (sc := defScope (top 34)) (by decide +kernel)) (fun _ _ _ _ _ => (pg_name (i := 5) sc_p_flat_so.nd rfl (by first | exact Or.inl rfl | exact Or.inr rfl))) (fun _ _ _ _ _ => ts_nil) (fun _ _ _ _ _ => (e2 (de_idx (de_var 5 (pv 5)) de_int))) (by decide))) da_fNil)))))
  (s_one (s_ret (ds_ret (ec (de_call c_p_done_so o (by decide) runF_len rfl (da_fCons (de_var 1 (pv 1)) (da_fCons (de_fTup (da_fCons (ec (de_call c_p_number_so o (by decide) runF_len rfl (da_fCons (de_var 0 (pv 0)) (da_fCons (ec (de_len rfl T.len (da_fCons (de_var 0 (pv 0)) da_fNil))) (da_fCons (de_var 2 (pv 2)) (da_fCons (de_var 6 (pv 6)) da_fNil)))))) (da_fCons (de_var 4 (pv 4)) da_fNil))) da_fNil))))))))))

/-! leaves_of -/
def b_p_leaves_of : Sl → Option Out := (gSeq (gSetOwn 2 fNil)
  (gSeq (gSet 3 (fC (.int 0)))
  (gSeq (gFor (.nm 4) (fItems (fVar 1))
  (gSeq (gApp 2 (fTup (fCons (fVar 4) (fCons (fRng .tuple (fVar 3) (f2 opAdd (fVar 3) (f2 opIdx (fVar 0) (fVar 4)))) fNil))))
  (gSet 3 (f2 opAdd (fVar 3) (f2 opIdx (fVar 0) (fVar 4))))))
  (gFrz 2 (gRet (fCall opTuple (fCons (fVar 2) fNil)))))))
def p_leaves_of : List PyData → Option PyData := runF 2 5 b_p_leaves_of
theorem sc_p_leaves_of : FnScope ["holder", "shapes", "found", "ahead", "shape"] ["holder", "shapes"] (defScope (top 35)) := ⟨rfl, rfl, rfl, by decide +kernel, rfl, by decide +kernel, by decide +kernel⟩
theorem ok_p_leaves_of (T : Txt mg) (hF : Has K mg "leaves_of" 35) : Cal P w K mg base 1 "leaves_of" ["holder", "shapes"] (spF 2 p_leaves_of) :=
  cal_of (k := 0) (N := ["holder", "shapes", "found", "ahead", "shape"]) hF sc_p_leaves_of rfl (fun _ _ _ _ _ _ us hl => match us, hl with | [_, _], _ => rfl) (body := b_p_leaves_of) fun f cd A outer s H F o =>
  (s_cons (s_setOwn (ds_setOwn 2 sc_p_leaves_of.nd rfl (by first | exact Or.inl rfl | exact Or.inr rfl) da_fNil))
  (s_cons (s_set (ds_set 3 sc_p_leaves_of.nd rfl (by first | exact Or.inl rfl | exact Or.inr rfl) de_int))
  (s_cons (s_for (ds_for (.nm 4) PassesOwn.never o.calm (di_seq (de_var 1 (pv 1))) (pg_name (i := 4) sc_p_leaves_of.nd rfl (by first | exact Or.inl rfl | exact Or.inr rfl))
  (s_cons (s_app (ds_app 2 (pv 2) (de_fTup (da_fCons (de_var 4 (pv 4)) (da_fCons (de_tupRg2 o.calm rfl T.tuple rfl T.range (de_var 3 (pv 3)) (e2 (de_add (de_var 3 (pv 3)) (e2 (de_idx (de_var 0 (pv 0)) (de_var 4 (pv 4))))))) da_fNil)))))
  (s_one (s_set (ds_set 3 sc_p_leaves_of.nd rfl (by first | exact Or.inl rfl | exact Or.inr rfl) (e2 (de_add (de_var 3 (pv 3)) (e2 (de_idx (de_var 0 (pv 0)) (de_var 4 (pv 4))))))))))))
  (s_frz 2 (s_one (s_ret (ds_ret (ec (de_tuple rfl T.tuple (da_fCons (de_var 2 (pv 2)) da_fNil))))))))))

/-! done -/
def b_l_done : Sl → Option Out := (gSeq (gBind (.pr 2 3) (f2 opIdx (fVar 0) (f2 opIdx (fVar 1) (fC (.int 0)))))
  (gRet (fTup (fCons (fVar 2) (fCons (fCall opTuple (fCons (fComp (.nm 4) [4] fYes (f2 opIdx (f2 opIdx (fVar 1) (fC (.int 1))) (fVar 4)) (fItems (fVar 3))) fNil)) fNil)))))
def l_done : List PyData → Option PyData := runF 2 5 b_l_done
theorem sc_l_done : FnScope ["_law_table_so", "_law_filled_so", "_law_pick", "_law_places_so", "_law_place"] ["_law_table_so", "_law_filled_so"] (defScope (top 55)) := ⟨rfl, rfl, rfl, by decide +kernel, rfl, by decide +kernel, by decide +kernel⟩
theorem ok_l_done (T : Txt mg) (hF : Has K mg "_law_done" 55) : Cal P w K mg base 1 "_law_done" ["_law_table_so", "_law_filled_so"] (spF 2 l_done) :=
  cal_of (k := 0) (N := ["_law_table_so", "_law_filled_so", "_law_pick", "_law_places_so", "_law_place"]) hF sc_l_done rfl (fun _ _ _ _ _ _ us hl => match us, hl with | [_, _], _ => rfl) (body := b_l_done) fun f cd A outer s H F o =>
  (s_cons (s_bind (ds_bind (.pr 2 3) (pg_pr o.calm (pg_name (i := 2) sc_l_done.nd rfl (by first | exact Or.inl rfl | exact Or.inr rfl)) (pg_name (i := 3) sc_l_done.nd rfl (by first | exact Or.inl rfl | exact Or.inr rfl))) (e2 (de_idx (de_var 0 (pv 0)) (e2 (de_idx (de_var 1 (pv 1)) de_int))))))
  (s_one (s_ret (ds_ret (de_fTup (da_fCons (de_var 2 (pv 2)) (da_fCons (ec (de_tuple rfl T.tuple (da_fCons (v_comp (de_comp (.nm 4) [("_law_place", 4)] o.calm sc_l_done.nd (di_seq (de_var 3 (pv 3))) (blkOk_by (N := ["_law_table_so", "_law_filled_so", "_law_pick", "_law_places_so", "_law_place"]) (sc := defScope (top 55)) (by decide +kernel)) (fun _ _ _ _ _ => (pg_name (i := 4) sc_l_done.nd rfl (by first | exact Or.inl rfl | exact Or.inr rfl))) (fun _ _ _ _ _ => ts_nil) (fun _ _ _ _ _ => (e2 (de_idx (e2 (de_idx (de_var 1 (pv 1)) de_int)) (de_var 4 (pv 4))))) (by decide))) da_fNil))) da_fNil)))))))

/-! like -/
def b_l_like : Sl → Option Out := (gRet (f2 opEq (fCall opRepr1 (fCons (fVar 0) fNil)) (fCall opRepr1 (fCons (fVar 1) fNil))))
def l_like : List PyData → Option PyData := runF 2 2 b_l_like
theorem sc_l_like : FnScope ["_law_got", "_law_due"] ["_law_got", "_law_due"] (defScope (top 56)) := ⟨rfl, rfl, rfl, by decide +kernel, rfl, by decide +kernel, by decide +kernel⟩
theorem ok_l_like (T : Txt mg) (hF : Has K mg "_law_like" 56) : Cal P w K mg base 1 "_law_like" ["_law_got", "_law_due"] (spF 2 l_like) :=
  cal_of (k := 0) (N := ["_law_got", "_law_due"]) hF sc_l_like rfl (fun _ _ _ _ _ _ us hl => match us, hl with | [_, _], _ => rfl) (body := b_l_like) fun f cd A outer s H F o =>
  (s_one (s_ret (ds_ret (e2 (de_eq o.u64 (ec (de_repr o rfl T.repr (da_fCons (de_var 0 (pv 0)) da_fNil))) (ec (de_repr o rfl T.repr (da_fCons (de_var 1 (pv 1)) da_fNil))))))))

end K50

set_option Elab.async false
set_option linter.all false
set_option maxRecDepth 100000
set_option maxHeartbeats 4000000
/-! the same in fewer steps -/
namespace K50
open PySem PySem.Spec PyProof.Rows L2
section
variable {P : Pt} {f f' : Sl → Option PyData} {fa : Sl → Option (List PyData)} {fi : Sl → Option (List PyData)} {g h : Sl → Option Out} {ρ ρ' ρ'' : Sl} {x y z d : PyData} {xs ys : List PyData} {op : PyData → PyData → Option PyData} {F : List PyData → Option PyData} {i : Nat} {o : Option Out}
theorem q_seq (e : g ρ = some (.nx ρ')) (k : h ρ' = o) : gSeq g h ρ = o := by unfold gSeq; rw [e]; exact k
theorem q_for (e : fi ρ = some xs) (k : gLoop P g xs ρ = o) : gFor P fi g ρ = o := by unfold gFor; rw [e]; exact k
theorem q_step (e : bindP P x ρ = some ρ') (k : g ρ' = some (.nx ρ'')) : gLoop P g (x :: xs) ρ = gLoop P g xs ρ'' := by
  conv => lhs; unfold gLoop
  rw [e]
  show (match g ρ' with
    | some (.nx ρ2) => gLoop P g xs ρ2
    | o => o) = _
  rw [k]
theorem q_ret (e : f ρ = some d) : gRet f ρ = some (.rt d) := by unfold gRet; rw [e]; rfl
theorem q_set (e : f ρ = some d) : gSet i f ρ = some (.nx (ρ.set i (some (.d d)))) := by unfold gSet; rw [e]; rfl
theorem q_bind (e : f ρ = some d) (k : bindP P d ρ = some ρ') : gBind P f ρ = some (.nx ρ') := by unfold gBind; rw [e]; show (bindP P d ρ).bind _ = _; rw [k]; rfl
theorem q2 (e : f ρ = some x) (k : f' ρ = some y) (l : op x y = some z) : f2 op f f' ρ = some z := by unfold f2; rw [e]; show (f' ρ).bind _ = _; rw [k]; exact l
theorem q_call (e : fa ρ = some xs) (k : F xs = some z) : fCall F fa ρ = some z := by unfold fCall; rw [e]; exact k
theorem q_cons (e : f ρ = some x) (k : fa ρ = some xs) : fCons f fa ρ = some (x :: xs) := by unfold fCons; rw [e]; show (fa ρ).bind _ = _; rw [k]; rfl
theorem q_tup (e : fa ρ = some xs) (k : xs.length ≤ 1000000) : fTup fa ρ = some (.tuple xs) := by unfold fTup; rw [e]; exact if_pos k
theorem q_comp {own : List Nat} {tt : Sl → Option Bool} (e : fi ρ = some xs) (k : lcF P tt f (wipeD ρ own) xs = some ys) : fComp P own tt f fi ρ = some (.list ys) := by unfold fComp; rw [e]; show (lcF P tt f (wipeD ρ own) xs).bind _ = _; rw [k]; rfl
theorem q_lc (e : bindP P x ρ = some ρ') (k : f ρ' = some y) (l : lcF P fYes f ρ xs = some ys) : lcF P fYes f ρ (x :: xs) = some (y :: ys) := by
  unfold lcF
  rw [e]
  show (f ρ').bind _ = _
  rw [k]
  show (lcF P fYes f ρ xs).bind _ = _
  rw [l]
  rfl
theorem q_run {n N : Nat} {body : Sl → Option Out} {ds : List PyData} (e : ds.length = n) (k : body (ini N ds) = some (.rt d)) : runF n N body ds = some d := by unfold runF; rw [if_pos e, k]
end
def natsOf : List PyData → Option (List Nat)
  | [] => some []
  | .int (.ofNat n) :: r => (natsOf r).bind fun ns => some (n :: ns)
  | _ => none
abbrev iN (n : Nat) : PyData := .int (Int.ofNat n)
theorem natsOf_eq : ∀ {ds : List PyData} {ns : List Nat}, natsOf ds = some ns → ds = ns.map iN
  | [], ns, h => by cases h; rfl
  | d :: ds, ns, h => by
    unfold natsOf at h
    split at h
    · next e => cases e
    · next n r e =>
      cases e
      obtain ⟨ms, h1, h2⟩ := Option.bind_eq_some_iff.mp h
      cases h2
      rw [natsOf_eq h1]
      rfl
    · cases h
/-! powers -/
abbrev bPow : Sl → Option Out := gSet 2 (f2 opMul (fVar 2) (fVar 0))
theorem mulN {a b : Nat} (h : b < 1152921504606846976) : opMul (iN a) (iN b) = some (iN (a * b)) := if_pos (.inr h)
theorem pow_loop (n : Nat) (k : PyData) (hn : n < 1152921504606846976) : ∀ (xs : List PyData) (acc : Nat) (s : Option EV), ∃ s', gLoop (.nm 3) bPow xs [some (.d (iN n)), some (.d k), some (.d (iN acc)), s] = some (.nx [some (.d (iN n)), some (.d k), some (.d (iN (acc * n ^ xs.length))), s'])
  | [], acc, s => ⟨s, by simp [gLoop]⟩
  | x :: xs, acc, s => by
    obtain ⟨s', e⟩ := pow_loop n k hn xs (acc * n) (some (.d x))
    refine ⟨s', (q_step rfl (q_set (q2 rfl rfl (mulN hn)))).trans ?_⟩
    rw [List.length_cons, Nat.pow_succ, Nat.mul_comm (n ^ xs.length) n, ← Nat.mul_assoc]
    exact e
theorem okR (k : Nat) (hk : k ≤ 1000000) : okRg 0 (Int.ofNat k) = true := by
  unfold okRg
  simp only [Bool.and_eq_true, decide_eq_true_eq]
  exact ⟨⟨⟨by omega, by omega⟩, by show ((k : Nat) : Int) ≤ _; omega⟩, by show _ ≤ ((k : Nat) : Int); omega⟩
theorem power_at (n k : Nat) (hn : n < 1152921504606846976) (hk : k ≤ 1000000) : p_power_so [iN n, iN k] = some (iN (n ^ k)) := by
  obtain ⟨s', e⟩ := pow_loop n (iN k) hn (rngD 0 (Int.ofNat k)) 1 none
  have hl : (rngD 0 (Int.ofNat k)).length = k := by simp [rngD]
  rw [hl, Nat.one_mul] at e
  exact q_run rfl (q_seq (q_set rfl) (q_seq (q_for (if_pos (okR k hk)) e) (q_ret rfl)))
/-! numbers -/
def horner (size : Nat) : List Nat → Nat → Nat
  | [], a => a
  | i :: r, a => horner size r (a * size + i)
def powSum (size : Nat) : List Nat → Nat → Nat
  | p :: r, s + 1 => size ^ p + powSum size r s
  | _, _ => 0
theorem num_loop (a b c d : PyData) (size : Nat) (hs : size < 1152921504606846976) (hb : b = iN size) : ∀ (row : List Nat) (acc : Nat) (s s6 : Option EV), ∃ s', gLoop (.nm 5) (gSet 4 (f2 opAdd (f2 opMul (fVar 4) (fVar 1)) (fVar 5))) (row.map iN) [some (.d a), some (.d b), some (.d c), some (.d d), some (.d (iN acc)), s, s6] =
    some (.nx [some (.d a), some (.d b), some (.d c), some (.d d), some (.d (iN (horner size row acc))), s', s6])
  | [], acc, s, s6 => ⟨s, by simp [gLoop, horner]⟩
  | i :: row, acc, s, s6 => by
    obtain ⟨s', e⟩ := num_loop a b c d size hs hb row (acc * size + i) (some (.d (iN i))) s6
    subst hb
    refine ⟨s', (q_step rfl (q_set (q2 (q2 rfl rfl (mulN hs)) rfl rfl))).trans ?_⟩
    exact e
theorem num_comp (a c d e f : Option EV) (size : Nat) (hs : size < 1152921504606846976) : ∀ ps : List Nat, (∀ p ∈ ps, p ≤ 1000000) → lcF (.nm 6) fYes (fCall p_power_so (fCons (fVar 1) (fCons (fVar 6) fNil))) [a, some (.d (iN size)), c, d, e, f, none] (ps.map iN) = some (ps.map fun p => iN (size ^ p))
  | [], _ => rfl
  | p :: ps, h => q_lc (ρ' := [a, some (.d (iN size)), c, d, e, f, some (.d (iN p))]) rfl (q_call (q_cons rfl (q_cons rfl rfl)) (power_at size p hs (h p (by simp)))) (num_comp a c d e f size hs ps fun q hq => h q (by simp [hq]))
theorem sum_pows (size : Nat) : ∀ (hs : List Nat) (s : Nat), intsOf ((hs.take s).map fun p => iN (size ^ p)) = some ((hs.take s).map fun p => Int.ofNat (size ^ p)) ∧ ((hs.take s).map fun p => Int.ofNat (size ^ p)).sum = Int.ofNat (powSum size hs s)
  | [], s => by simp [intsOf, powSum]
  | p :: hs, 0 => by simp [intsOf, powSum]
  | p :: hs, s + 1 => by
    obtain ⟨h1, h2⟩ := sum_pows size hs s
    simp only [List.take_succ_cons, List.map_cons, intsOf, h1, Option.map_some, List.sum_cons, h2, powSum]
    exact ⟨trivial, rfl⟩
def numN (hs : List Nat) (size s : Nat) (row : List Nat) : Nat := horner size row 0 + powSum size hs s
theorem number_at (hs row : List Nat) (size s : Nat) (h1 : size ≤ 1000) (h3 : ∀ p ∈ hs, p ≤ 1000) : p_number_so [.tuple (hs.map iN), iN size, iN s, .tuple (row.map iN)] = some (iN (numN hs size s row)) := by
  have hsz : size < 1152921504606846976 := by omega
  obtain ⟨s', e⟩ := num_loop (.tuple (hs.map iN)) (iN size) (iN s) (.tuple (row.map iN)) size hsz rfl row 0 none none
  obtain ⟨e1, e2⟩ := sum_pows size hs s
  have c := num_comp (some (.d (.tuple (hs.map iN)))) (some (.d (iN s))) (some (.d (.tuple (row.map iN)))) (some (.d (iN (horner size row 0)))) s' size hsz (hs.take s) fun p hp => Nat.le_trans (h3 p (List.mem_of_mem_take hp)) (by decide)
  have sl : (fItems (fSlice (fVar 0) none (some (fVar 2)))) [some (.d (.tuple (hs.map iN))), some (.d (iN size)), some (.d (iN s)), some (.d (.tuple (row.map iN))), some (.d (iN (horner size row 0))), s', none] = some ((hs.take s).map iN) := by
    show some (((hs.map iN).take s).drop 0) = _
    rw [List.drop_zero, List.map_take]
  refine q_run rfl (q_seq (q_set rfl) (q_seq (q_for rfl e) (q_ret (q2 (y := iN (powSum size hs s)) rfl (q_call (q_cons (q_comp sl c) rfl) ?_) rfl))))
  show (intsOf _).map _ = _
  rw [e1]
  show some (PyData.int _) = _
  rw [e2]
theorem le2 (x y : PyData) : [x, y].length ≤ 1000000 := (by decide : 2 ≤ 1000000)
/-! tables -/
def nthP : List PyData → Nat → Option PyData
  | [], _ => none
  | x :: _, 0 => some x
  | _ :: r, n + 1 => nthP r n
theorem nthP_eq : ∀ {xs : List PyData} {n : Nat} {x : PyData}, nthP xs n = some x → xs[n]? = some x
  | [], n, x, h => by cases n <;> cases h
  | y :: r, 0, x, h => by cases h; rfl
  | y :: r, n + 1, x, h => by
    rw [List.getElem?_cons_succ]
    exact nthP_eq h
def pick (th : List PyData) : List PyData → Option (List PyData)
  | [] => some []
  | .int (.ofNat j) :: r => (nthP th j).bind fun x => (pick th r).bind fun xs => some (x :: xs)
  | _ => none
def doneD (fl : List PyData) (i : Nat) (th : List PyData) : Option PyData := match nthP fl i with
  | some (.tuple [g, .tuple ps]) => (pick th ps).bind fun xs => some (.tuple [g, .tuple xs])
  | _ => none
theorem pick_comp (a g p : Option EV) (x0 : PyData) (th : List PyData) : ∀ {ps xs : List PyData}, pick th ps = some xs → lcF (.nm 4) fYes (f2 opIdx (f2 opIdx (fVar 1) (fC (.int 1))) (fVar 4)) [a, some (.d (.tuple [x0, .tuple th])), g, p, none] ps = some xs
  | [], xs, h => by cases h; rfl
  | q :: ps, xs, h => by
    unfold pick at h
    split at h
    · next e => cases e
    · next j r e =>
      cases e
      obtain ⟨x, h1, h2⟩ := Option.bind_eq_some_iff.mp h
      obtain ⟨ys, h3, h4⟩ := Option.bind_eq_some_iff.mp h2
      cases h4
      exact q_lc (ρ' := [a, some (.d (.tuple [x0, .tuple th])), g, p, some (.d (iN j))]) rfl (q2 (x := .tuple th) rfl rfl (nthP_eq h1)) (pick_comp a g p x0 th h3)
    · cases h
theorem done_at {fl th : List PyData} {i : Nat} {z : PyData} (h : doneD fl i th = some z) : p_done_so [.tuple fl, .tuple [iN i, .tuple th]] = some z := by
  unfold doneD at h
  split at h
  · next g ps e =>
    obtain ⟨xs, h1, h2⟩ := Option.bind_eq_some_iff.mp h
    cases h2
    exact q_run rfl (q_seq (ρ' := [some (.d (.tuple fl)), some (.d (.tuple [iN i, .tuple th])), some (.d g), some (.d (.tuple ps)), none]) (q_bind (d := .tuple [g, .tuple ps]) (q2 (x := .tuple fl) (y := iN i) rfl rfl (nthP_eq e)) rfl)
      (q_ret (q_tup (q_cons rfl (q_cons (q_call (q_cons (q_comp (xs := ps) rfl (pick_comp _ _ _ _ _ h1)) rfl) rfl) rfl)) (le2 _ _))))
  · cases h
def q_done_so : List PyData → Option PyData
  | [.tuple fl, .tuple [.int (.ofNat i), .tuple th]] => doneD fl i th
  | _ => none
theorem q_done_ok (ds : List PyData) (z : PyData) (h : q_done_so ds = some z) : p_done_so ds = some z := by
  unfold q_done_so at h
  split at h
  · exact done_at h
  · cases h
/-! a flat book -/
def splitF : List PyData → Option (List Nat × List PyData)
  | [] => some ([], [])
  | .tuple [.int (.ofNat i), .tuple th] :: r => (splitF r).bind fun y => some (i :: y.1, th ++ y.2)
  | _ => none
theorem split_loop (a b c d s6 : Option EV) : ∀ {fs : List PyData} {y : List Nat × List PyData} (acc : List PyData) (s : Option EV), splitF fs = some y → acc.length + y.2.length ≤ 1000000 →
    ∃ s', gLoop (.nm 5) (gSet 4 (f2 opAdd (fVar 4) (f2 opIdx (fVar 5) (fC (.int 1))))) fs [a, b, c, d, some (.d (.tuple acc)), s, s6] = some (.nx [a, b, c, d, some (.d (.tuple (acc ++ y.2))), s', s6])
  | [], y, acc, s, h, hl => by cases h; exact ⟨s, by simp [gLoop]⟩
  | f :: fs, y, acc, s, h, hl => by
    unfold splitF at h
    split at h
    · next e => cases e
    · next i th r e =>
      cases e
      obtain ⟨y1, h1, h2⟩ := Option.bind_eq_some_iff.mp h
      cases h2
      dsimp only at hl ⊢
      rw [List.length_append] at hl
      obtain ⟨s', e⟩ := split_loop a b c d s6 (acc ++ th) (some (.d (.tuple [iN i, .tuple th]))) h1 (by rw [List.length_append]; omega)
      rw [List.append_assoc] at e
      have ad : opAdd (.tuple acc) (.tuple th) = some (.tuple (acc ++ th)) := if_pos (by omega)
      refine ⟨s', (q_step (ρ' := [a, b, c, d, some (.d (.tuple acc)), some (.d (.tuple [iN i, .tuple th])), s6]) rfl (q_set (q2 (y := .tuple th) rfl rfl ad))).trans ?_⟩
      exact e
    · cases h
theorem split_comp (a b c d e f : Option EV) : ∀ {fs : List PyData} {y : List Nat × List PyData}, splitF fs = some y → lcF (.nm 5) fYes (f2 opIdx (fVar 5) (fC (.int 0))) [a, b, c, d, e, none, f] fs = some (y.1.map iN)
  | [], y, h => by cases h; rfl
  | x :: fs, y, h => by
    unfold splitF at h
    split at h
    · next e => cases e
    · next i th r e' =>
      cases e'
      obtain ⟨y1, h1, h2⟩ := Option.bind_eq_some_iff.mp h
      cases h2
      exact q_lc (ρ' := [a, b, c, d, e, some (.d (.tuple [iN i, .tuple th])), f]) (y := iN i) rfl rfl (split_comp a b c d e f h1)
    · cases h
def q_flat_so : List PyData → Option PyData
  | [.tuple h, .tuple fl, .int (.ofNat s), .tuple fs] => (natsOf h).bind fun hs => (splitF fs).bind fun y =>
    if Nat.ble hs.length 1000 && hs.all (Nat.ble · 1000) && Nat.ble y.2.length 1000 then doneD fl (numN hs hs.length s y.1) y.2 else none
  | _ => none
theorem q_flat_ok (ds : List PyData) (z : PyData) (h : q_flat_so ds = some z) : p_flat_so ds = some z := by
  unfold q_flat_so at h
  split at h
  · next h0 fl s fs =>
    obtain ⟨hs, h1, h⟩ := Option.bind_eq_some_iff.mp h
    obtain ⟨y, h2, h⟩ := Option.bind_eq_some_iff.mp h
    rw [natsOf_eq h1]
    split at h
    · next hc =>
      simp only [Bool.and_eq_true, List.all_eq_true, Nat.ble_eq] at hc
      obtain ⟨⟨c1, c2⟩, c3⟩ := hc
      obtain ⟨s', e⟩ := split_loop (some (.d (.tuple (hs.map iN)))) (some (.d (.tuple fl))) (some (.d (iN s))) (some (.d (.tuple fs))) none [] none h2 (by simp; omega)
      have nm : p_number_so [.tuple (hs.map iN), .int ((hs.map iN).length : Nat), iN s, .tuple (y.1.map iN)] = some (iN (numN hs hs.length s y.1)) := by
        rw [List.length_map]
        exact number_at hs y.1 hs.length s c1 c2
      exact q_run rfl (q_seq (q_set rfl) (q_seq (q_for rfl e) (q_seq (q_set (q_call (q_cons (q_comp (xs := fs) rfl (split_comp _ _ _ _ _ _ h2)) rfl) rfl))
        (q_ret (q_call (q_cons rfl (q_cons (q_tup (q_cons (q_call (q_cons rfl (q_cons rfl (q_cons rfl (q_cons rfl rfl)))) nm) (q_cons rfl rfl)) (le2 _ _)) rfl)) (done_at h))))))
    · cases h
  · cases h
/-! leaves -/
def rngN (a : Nat) : Nat → List PyData
  | 0 => []
  | k + 1 => iN a :: rngN (a + 1) k
theorem rngN_eq : ∀ (k a : Nat), rngN a k = (List.range k).map fun (i : Nat) => PyData.int ((a : Int) + (i : Int))
  | 0, a => rfl
  | k + 1, a => by
    unfold rngN
    rw [List.range_succ_eq_map, List.map_cons, List.map_map, rngN_eq k (a + 1)]
    congr 1
    apply List.map_congr_left
    intro i _
    simp only [Function.comp_apply, Nat.succ_eq_add_one]
    congr 1
    omega
def leavesN (h : List PyData) : Nat → List PyData → Option (List PyData)
  | _, [] => some []
  | a, .int (.ofNat i) :: r => match nthP h i with
    | some (.int (.ofNat k)) => if Nat.ble (a + k) 1000000 then (leavesN h (a + k) r).bind fun xs => some (.tuple [iN i, .tuple (rngN a k)] :: xs) else none
    | _ => none
  | _, _ => none
abbrev bLeaf : Sl → Option Out := gSeq (gApp 2 (fTup (fCons (fVar 4) (fCons (fRng .tuple (fVar 3) (f2 opAdd (fVar 3) (f2 opIdx (fVar 0) (fVar 4)))) fNil)))) (gSet 3 (f2 opAdd (fVar 3) (f2 opIdx (fVar 0) (fVar 4))))
theorem q_app {f : Sl → Option PyData} {i : Nat} {ρ : Sl} {xs : List PyData} {d : PyData} (h : ρ[i]? = some (some (.own xs))) (e : f ρ = some d) (hl : xs.length < 1000000) : gApp i f ρ = some (.nx (ρ.set i (some (.own (xs ++ [d]))))) := by
  unfold gApp
  rw [h]
  show (f ρ).bind _ = _
  rw [e]
  exact if_pos hl
theorem leaf_rng {a k : Nat} (hl : a + k ≤ 1000000) : opRng .tuple (iN a) (.int (Int.ofNat a + Int.ofNat k)) = some (.tuple (rngN a k)) := by
  have ho : okRg (Int.ofNat a) (Int.ofNat a + Int.ofNat k) = true := by
    unfold okRg
    simp only [Bool.and_eq_true, decide_eq_true_eq, Int.ofNat_eq_natCast]
    omega
  refine (if_pos ho).trans ?_
  rw [rngN_eq]
  unfold rngD
  have e : (Int.ofNat a + Int.ofNat k - Int.ofNat a).toNat = k := by simp only [Int.ofNat_eq_natCast]; omega
  rw [e]
  rfl
theorem leaf_loop (h : List PyData) (b : Option EV) : ∀ {sh xs : List PyData} (acc : List PyData) (a : Nat) (s : Option EV), leavesN h a sh = some xs → acc.length + sh.length < 1000000 →
    ∃ a' s', gLoop (.nm 4) bLeaf sh [some (.d (.tuple h)), b, some (.own acc), some (.d (iN a)), s] = some (.nx [some (.d (.tuple h)), b, some (.own (acc ++ xs)), a', s'])
  | [], xs, acc, a, s, e, hl => by cases e; exact ⟨_, _, by simp [gLoop]; exact ⟨rfl, rfl⟩⟩
  | x :: sh, xs, acc, a, s, e, hl => by
    unfold leavesN at e
    split at e
    · next e1 => cases e1
    · next a _ _ i r e1 =>
      cases e1
      split at e
      · next k ek =>
        split at e
        · next hk =>
          obtain ⟨ys, e2, e3⟩ := Option.bind_eq_some_iff.mp e
          cases e3
          rw [List.length_cons] at hl
          obtain ⟨a', s', e4⟩ := leaf_loop h b (acc ++ [.tuple [iN i, .tuple (rngN a k)]]) (a + k) (some (.d (iN i))) e2 (by rw [List.length_append, List.length_singleton]; omega)
          rw [List.append_assoc] at e4
          have ix : ∀ (o3 : Option EV), f2 opIdx (fVar 0) (fVar 4) [some (.d (.tuple h)), b, o3, some (.d (iN a)), some (.d (iN i))] = some (iN k) := fun o3 => q2 (x := .tuple h) (y := iN i) rfl rfl (nthP_eq ek)
          have ad : ∀ (o3 : Option EV), f2 opAdd (fVar 3) (f2 opIdx (fVar 0) (fVar 4)) [some (.d (.tuple h)), b, o3, some (.d (iN a)), some (.d (iN i))] = some (.int (Int.ofNat a + Int.ofNat k)) := fun o3 => q2 (x := iN a) (y := iN k) rfl (ix o3) rfl
          refine ⟨a', s', (q_step (ρ' := [some (.d (.tuple h)), b, some (.own acc), some (.d (iN a)), some (.d (iN i))]) rfl (q_seq (ρ' := [some (.d (.tuple h)), b, some (.own (acc ++ [.tuple [iN i, .tuple (rngN a k)]])), some (.d (iN a)), some (.d (iN i))])
            (q_app rfl (q_tup (q_cons rfl (q_cons (q2 (x := iN a) (y := .int (Int.ofNat a + Int.ofNat k)) rfl (ad _) (leaf_rng (Nat.le_of_ble_eq_true hk))) rfl)) (le2 _ _)) (by omega)) (q_set (ad _)))).trans ?_⟩
          exact e4
        · cases e
      · cases e
    · cases e
def q_leaves_of : List PyData → Option PyData
  | [.tuple h, .tuple sh] => if Nat.ble sh.length 1000 then (leavesN h 0 sh).bind fun xs => some (.tuple xs) else none
  | _ => none
theorem q_leaves_ok (ds : List PyData) (z : PyData) (h : q_leaves_of ds = some z) : p_leaves_of ds = some z := by
  unfold q_leaves_of at h
  split at h
  · next h0 sh =>
    split at h
    · next hc =>
      obtain ⟨xs, h1, h2⟩ := Option.bind_eq_some_iff.mp h
      cases h2
      have hc' := Nat.le_of_ble_eq_true hc
      obtain ⟨a', s', e⟩ := leaf_loop h0 (some (.d (.tuple sh))) [] 0 none h1 (by simp; omega)
      rw [List.nil_append] at e
      refine q_run rfl (q_seq (ρ' := [some (.d (.tuple h0)), some (.d (.tuple sh)), some (.own []), none, none]) rfl (q_seq (q_set rfl) (q_seq (q_for rfl e) ?_)))
      rfl
    · cases h
  · cases h
theorem len_q_done_so (ds : List PyData) (z : PyData) (h : q_done_so ds = some z) : ds.length = 2 := runF_len ds z (q_done_ok ds z h)
theorem len_q_flat_so (ds : List PyData) (z : PyData) (h : q_flat_so ds = some z) : ds.length = 4 := runF_len ds z (q_flat_ok ds z h)
theorem len_q_leaves_of (ds : List PyData) (z : PyData) (h : q_leaves_of ds = some z) : ds.length = 2 := runF_len ds z (q_leaves_ok ds z h)
theorem Cal.wkF {P : Program} {w : World} {K : PySem.W.Frag} {mg : Str → Option Value} {base : Heap} {k n : Nat} {x : Str} {ps : List Str} {f g : List PyData → Option PyData} (h : Cal P w K mg base k x ps (spF n f)) (s : ∀ ds z, g ds = some z → f ds = some z) : Cal P w K mg base k x ps (spF n g) := by
  obtain ⟨a, fd, F, hm, hk, hb⟩ := h
  have up : ∀ vs H Q E, spF n g vs H Q E → spF n f vs H Q E := fun vs H Q E ⟨F1, ds, d, h1, h2, h3, h4, q⟩ => ⟨F1, ds, d, h1, h2, h3, s _ _ h4, q⟩
  exact ⟨a, fd, ⟨fun vs H Q E h => F.len vs H Q E (up _ _ _ _ h), fun A outer s' H args us vs Q r g' e b v h => F.run A outer s' H args us vs Q r g' e b v (up _ _ _ _ h)⟩, hm, hk, hb⟩
def ql_done : List PyData → Option PyData := q_done_so
theorem ql_done_ok (ds : List PyData) (z : PyData) (h : ql_done ds = some z) : l_done ds = some z := q_done_ok ds z h
theorem len_ql_done (ds : List PyData) (z : PyData) (h : ql_done ds = some z) : ds.length = 2 := runF_len ds z (ql_done_ok ds z h)
/-! equal trees -/
mutual
def sameD : PyData → PyData → Bool
  | .none, .none => true
  | .bool a, .bool b => a == b
  | .int a, .int b => decide (a = b)
  | .list xs, .list ys => sameL xs ys
  | .tuple xs, .tuple ys => sameL xs ys
  | _, _ => false
def sameL : List PyData → List PyData → Bool
  | [], [] => true
  | x :: xs, y :: ys => sameD x y && sameL xs ys
  | _, _ => false
end
mutual
theorem sameD_eq : ∀ (x y : PyData), sameD x y = true → x = y
  | .none, y, h => by cases y <;> simp [sameD] at h ⊢
  | .bool a, y, h => by cases y <;> simp [sameD] at h ⊢; exact h
  | .int a, y, h => by cases y <;> simp [sameD] at h ⊢; exact h
  | .str a, y, h => by cases y <;> simp [sameD] at h
  | .dict a, y, h => by cases y <;> simp [sameD] at h
  | .list xs, y, h => by
    cases y <;> simp [sameD] at h ⊢
    exact sameL_eq _ _ h
  | .tuple xs, y, h => by
    cases y <;> simp [sameD] at h ⊢
    exact sameL_eq _ _ h
theorem sameL_eq : ∀ (xs ys : List PyData), sameL xs ys = true → xs = ys
  | [], ys, h => by cases ys <;> simp [sameL] at h ⊢
  | x :: xs, ys, h => by
    cases ys with
    | nil => simp [sameL] at h
    | cons y ys =>
      simp only [sameL, Bool.and_eq_true] at h
      rw [sameD_eq x y h.1, sameL_eq xs ys h.2]
end
end K50

set_option Elab.async false
set_option linter.all false
set_option maxRecDepth 100000
set_option maxHeartbeats 4000000
/-! equal trees have equal texts: no text is made -/
namespace K50
open PySem PySem.Spec PyProof.Rows L2
theorem int_len : ∀ n < 100, ((PyData.shown (.int (Int.ofNat n)))).length ≤ 2 := by decide +kernel
mutual
/-- no text is longer -/
def wtD : PyData → Nat
  | .none => 4
  | .bool _ => 5
  | .int (.ofNat n) => if Nat.blt n 100 then 2 else 10000000
  | .int _ => 10000000
  | .str _ => 10000000
  | .list xs => wtL xs + 4
  | .tuple xs => wtL xs + 4
  | .dict _ => 10000000
def wtL : List PyData → Nat
  | [] => 0
  | x :: xs => wtD x + 2 + wtL xs
end
theorem text_len : ∀ (ts : List Str) (k : Nat) (acc : Str), (textFrom k acc ts).length ≤ acc.length + piled ts
  | [], k, acc => Nat.le_add_right _ _
  | t :: ts, k, acc => by
    have h := text_len ts (k + 1) (acc ++ (if k > 0 then ", " else "" : String) ++ t)
    unfold textFrom
    rw [piled_cons]
    rw [strLen_append, strLen_append] at h
    have h2 : ((if k > 0 then ", " else "" : String) : Str).length ≤ 2 := by split <;> decide
    omega
theorem list_len (ts : List Str) : (listText ts).length ≤ piled ts + 4 := by
  have h := text_len ts 0 "["
  have h1 : (("[" : String) : Str).length = 1 := rfl
  have h2 : (("]" : String) : Str).length = 1 := rfl
  unfold listText
  rw [strLen_append]
  omega
theorem tup_len (ts : List Str) : (tupleText ts).length ≤ piled ts + 4 := by
  have h1 : (("(" : String) : Str).length = 1 := rfl
  have h2 : ((if ts.length == 1 then ",)" else ")" : String) : Str).length ≤ 2 := by split <;> decide
  unfold tupleText
  rw [strLen_append, strLen_append]
  by_cases hn : ts = []
  · subst hn
    have h3 : (Str.join ", " ([] : List Str)).length = 0 := rfl
    rw [piled_nil]
    omega
  · have h3 := join_length_add ts hn
    omega
mutual
theorem wtD_ok : ∀ d : PyData, wtD d ≤ 1000000 → d.showable = true ∧ d.hasDict = false ∧ d.shown.length ≤ wtD d
  | .none, _ => ⟨by simp [PyData.showable], by simp [PyData.hasDict], by unfold PyData.shown wtD; decide⟩
  | .bool b, _ => ⟨by simp [PyData.showable], by simp [PyData.hasDict], by unfold PyData.shown wtD; cases b <;> decide⟩
  | .int (.ofNat n), h => by
    unfold wtD at h ⊢
    split at h
    · next hn =>
      rw [if_pos hn]
      have hn' : n < 100 := by
        unfold Nat.blt at hn
        have := Nat.le_of_ble_eq_true hn
        omega
      refine ⟨?_, by simp [PyData.hasDict], int_len n hn'⟩
      show decide ((Int.ofNat n).natAbs.log2 < 1920) = true
      refine decide_eq_true ?_
      show n.log2 < 1920
      exact Nat.lt_of_le_of_lt (Nat.log2_le_self n) (by omega)
    · omega
  | .int (.negSucc n), h => by unfold wtD at h; omega
  | .str _, h => by unfold wtD at h; omega
  | .dict _, h => by unfold wtD at h; omega
  | .list xs, h => by
    unfold wtD at h
    obtain ⟨h1, h2, h3⟩ := wtL_ok xs (by omega)
    refine ⟨by simpa [PyData.showable] using h1, by simpa [PyData.hasDict] using h2, ?_⟩
    have h4 := list_len (PyData.shownAll xs)
    show (listText (PyData.shownAll xs)).length ≤ wtL xs + 4
    omega
  | .tuple xs, h => by
    unfold wtD at h
    obtain ⟨h1, h2, h3⟩ := wtL_ok xs (by omega)
    refine ⟨by simpa [PyData.showable] using h1, by simpa [PyData.hasDict] using h2, ?_⟩
    have h4 := tup_len (PyData.shownAll xs)
    show (tupleText (PyData.shownAll xs)).length ≤ wtL xs + 4
    omega
theorem wtL_ok : ∀ xs : List PyData, wtL xs ≤ 1000000 → PyData.showableAll xs = true ∧ PyData.hasDictAll xs = false ∧ piled (PyData.shownAll xs) ≤ wtL xs
  | [], _ => ⟨by simp [PyData.showableAll], by simp [PyData.hasDictAll], Nat.zero_le _⟩
  | x :: xs, h => by
    unfold wtL at h ⊢
    obtain ⟨a1, a2, a3⟩ := wtD_ok x (by omega)
    obtain ⟨b1, b2, b3⟩ := wtL_ok xs (by omega)
    refine ⟨by simp [PyData.showableAll, a1, b1], by simp [PyData.hasDictAll, a2, b2], ?_⟩
    show piled (PyData.shown x :: PyData.shownAll xs) ≤ _
    rw [piled_cons]
    omega
end
def opLike : List PyData → Option PyData := fun ds => match ds with
  | [x, y] => if sameD x y && Nat.ble (wtD x) 1000000 && Nat.ble x.depth 20 then (match x with
    | .tuple _ => some (.bool true)
    | .list _ => some (.bool true)
    | .bool _ => some (.bool true)
    | _ => none) else none
  | _ => none
theorem repr_some {x : PyData} {z : PyData} (h : opLike [x, x] = some z) : z = .bool true ∧ ∃ s, opRepr x = some (.str s) := by
  unfold opLike at h
  dsimp only at h
  split at h
  · next hc =>
    simp only [Bool.and_eq_true, Nat.ble_eq] at hc
    obtain ⟨⟨_, c1⟩, c2⟩ := hc
    obtain ⟨h1, h2, h3⟩ := wtD_ok x c1
    split at h
    · next xs =>
      cases h
      refine ⟨rfl, _, if_pos ?_⟩
      simp only [Bool.and_eq_true, decide_eq_true_eq, h1, h2]
      exact ⟨⟨⟨trivial, rfl⟩, c2⟩, by omega⟩
    · next xs =>
      cases h
      refine ⟨rfl, _, if_pos ?_⟩
      simp only [Bool.and_eq_true, decide_eq_true_eq, h1, h2]
      exact ⟨⟨⟨trivial, rfl⟩, c2⟩, by omega⟩
    · cases h
      exact ⟨rfl, _, rfl⟩
    · cases h
  · cases h
theorem opLike_eq {x y z : PyData} (h : opLike [x, y] = some z) : x = y := by
  unfold opLike at h
  dsimp only at h
  split at h
  · next hc =>
    simp only [Bool.and_eq_true] at hc
    exact sameD_eq _ _ hc.1.1
  · cases h
theorem like_run (s : Str) (x : PyData) (h : opRepr x = some (.str s)) : runF 2 2 (gRet (f2 opEq (fCall opRepr1 (fCons (fVar 0) fNil)) (fCall opRepr1 (fCons (fVar 1) fNil)))) [x, x] = some (.bool true) := by
  have e : opEq (.str s) (.str s) = some (.bool true) := by
    unfold opEq eqv?
    simp
  exact q_run rfl (q_ret (q2 (q_call (q_cons rfl rfl) h) (q_call (q_cons rfl rfl) h) e))
def ql_like : List PyData → Option PyData := opLike
theorem ql_like_ok (ds : List PyData) (z : PyData) (h : ql_like ds = some z) : l_like ds = some z := by
  match ds, h with
  | [x, y], h =>
    have e := opLike_eq h
    subst e
    obtain ⟨e2, s, hs⟩ := repr_some h
    rw [e2]
    exact like_run s x hs
  | [], h => cases h
  | [_], h => cases h
  | _ :: _ :: _ :: _, h => cases h
theorem len_ql_like (ds : List PyData) (z : PyData) (h : ql_like ds = some z) : ds.length = 2 := runF_len ds z (ql_like_ok ds z h)
end K50

set_option Elab.async false
set_option linter.all false
set_option maxRecDepth 100000
set_option maxHeartbeats 4000000
namespace K50
open PySem PySem.Spec PyProof.Rows L2
variable {P : Program} {w : World} {K : PySem.W.Frag} {mg : Str → Option Value} {base : Heap}

/-! unit_so -/
def b_p_unit_so : Sl → Option Out := (gRet (fTup (fCons (fVar 1) (fCons (f2 opMul (fTup (fCons (fVar 2) fNil)) (f2 opIdx (fVar 0) (fVar 1))) fNil))))
def p_unit_so : List PyData → Option PyData := runF 3 3 b_p_unit_so
theorem sc_p_unit_so : FnScope ["holder", "unit", "thing"] ["holder", "unit", "thing"] (defScope (top 36)) := ⟨rfl, rfl, rfl, by decide +kernel, rfl, by decide +kernel, by decide +kernel⟩
theorem ok_p_unit_so (T : Txt mg) (hF : Has K mg "unit_so" 36) : Cal P w K mg base 1 "unit_so" ["holder", "unit", "thing"] (spF 3 p_unit_so) :=
  cal_of (k := 0) (N := ["holder", "unit", "thing"]) hF sc_p_unit_so rfl (fun _ _ _ _ _ _ us hl => match us, hl with | [_, _, _], _ => rfl) (body := b_p_unit_so) fun f cd A outer s H F o =>
  (s_one (s_ret (ds_ret (de_fTup (da_fCons (de_var 1 (pv 1)) (da_fCons (e2 (de_mul (de_fTup (da_fCons (de_var 2 (pv 2)) da_fNil)) (e2 (de_idx (de_var 0 (pv 0)) (de_var 1 (pv 1)))))) da_fNil))))))

/-! broken_alone -/
def b_p_broken_alone : Sl → Option Out := (gSeq (gFor (.pr 3 4) (fEnum (fVar 0))
  (gSeq (gSet 5 (fCall p_own_so (fCons (fVar 0) (fCons (fVar 3) fNil))))
  (gIf (fT (f2 opNe (fCall q_flat_so (fCons (fVar 0) (fCons (fVar 2) (fCons (fVar 1) (fCons (f2 opIdx (fCall p_unit_so (fCons (fVar 0) (fCons (fVar 1) (fCons (fVar 5) fNil)))) (fC (.int 1))) fNil))))) (fVar 5)))
  (gRet (fTup (fCons (fC (.int 0)) (fCons (fVar 3) fNil))))
  gNext)))
  (gSeq (gFor (.pr 3 4) (fEnum (fVar 0))
  (gSeq (gSet 6 (fCall opTuple (fCons (fComp (.nm 7) [7] fYes (fCall p_unit_so (fCons (fVar 0) (fCons (fVar 1) (fCons (fVar 7) fNil)))) (fRange (fVar 4))) fNil)))
  (gIf (fT (f2 opNe (fCall q_flat_so (fCons (fVar 0) (fCons (fVar 2) (fCons (fVar 3) (fCons (fVar 6) fNil))))) (fCall p_own_so (fCons (fVar 0) (fCons (fVar 3) fNil)))))
  (gRet (fTup (fCons (fC (.int 1)) (fCons (fVar 3) fNil))))
  gNext)))
  (gRet (fC .none))))
def p_broken_alone : List PyData → Option PyData := runF 3 8 b_p_broken_alone
theorem sc_p_broken_alone : FnScope ["holder", "unit", "flat", "shape", "places", "own", "alone", "place"] ["holder", "unit", "flat"] (defScope (top 37)) := ⟨rfl, rfl, rfl, by decide +kernel, rfl, by decide +kernel, by decide +kernel⟩
theorem ok_p_broken_alone (T : Txt mg) (hF : Has K mg "broken_alone" 37) (c_p_own_so : Cal P w K mg base 1 "own_so" ["holder", "shape"] (spF 2 p_own_so)) (c_p_unit_so : Cal P w K mg base 1 "unit_so" ["holder", "unit", "thing"] (spF 3 p_unit_so)) (c_q_flat_so : Cal P w K mg base 3 "flat_so" ["holder", "flat", "shape", "fillings"] (spF 4 q_flat_so)) : Cal P w K mg base 4 "broken_alone" ["holder", "unit", "flat"] (spF 3 p_broken_alone) :=
  cal_of (k := 3) (N := ["holder", "unit", "flat", "shape", "places", "own", "alone", "place"]) hF sc_p_broken_alone rfl (fun _ _ _ _ _ _ us hl => match us, hl with | [_, _, _], _ => rfl) (body := b_p_broken_alone) fun f cd A outer s H F o =>
  (s_cons (s_for (ds_for (.pr 3 4) PassesOwn.never o.calm (di_enum rfl T.enumerate (de_var 0 (pv 0))) (pg_pr o.calm (pg_name (i := 3) sc_p_broken_alone.nd rfl (by first | exact Or.inl rfl | exact Or.inr rfl)) (pg_name (i := 4) sc_p_broken_alone.nd rfl (by first | exact Or.inl rfl | exact Or.inr rfl)))
  (s_cons (s_set (ds_set 5 sc_p_broken_alone.nd rfl (by first | exact Or.inl rfl | exact Or.inr rfl) (ec (de_call c_p_own_so o (by decide) runF_len rfl (da_fCons (de_var 0 (pv 0)) (da_fCons (de_var 3 (pv 3)) da_fNil))))))
  (s_one (s_if (ds_if (t2 (dt_ne o.u64 (ec (de_call c_q_flat_so o (by decide) len_q_flat_so rfl (da_fCons (de_var 0 (pv 0)) (da_fCons (de_var 2 (pv 2)) (da_fCons (de_var 1 (pv 1)) (da_fCons (e2 (de_idx (ec (de_call c_p_unit_so o (by decide) runF_len rfl (da_fCons (de_var 0 (pv 0)) (da_fCons (de_var 1 (pv 1)) (da_fCons (de_var 5 (pv 5)) da_fNil))))) de_int)) da_fNil)))))) (de_var 5 (pv 5))))
  (s_one (s_ret (ds_ret (de_fTup (da_fCons de_int (da_fCons (de_var 3 (pv 3)) da_fNil))))))
  s_nil))))))
  (s_cons (s_for (ds_for (.pr 3 4) PassesOwn.never o.calm (di_enum rfl T.enumerate (de_var 0 (pv 0))) (pg_pr o.calm (pg_name (i := 3) sc_p_broken_alone.nd rfl (by first | exact Or.inl rfl | exact Or.inr rfl)) (pg_name (i := 4) sc_p_broken_alone.nd rfl (by first | exact Or.inl rfl | exact Or.inr rfl)))
  (s_cons (s_set (ds_set 6 sc_p_broken_alone.nd rfl (by first | exact Or.inl rfl | exact Or.inr rfl) (ec (de_tuple rfl T.tuple (da_fCons (v_comp (de_comp (.nm 7) [("place", 7)] o.calm sc_p_broken_alone.nd (di_range rfl T.range (de_var 4 (pv 4))) (blkOk_by (N := ["holder", "unit", "flat", "shape", "places", "own", "alone", "place"]) (sc := defScope (top 37)) (by decide +kernel)) (fun _ _ _ _ _ => (pg_name (i := 7) sc_p_broken_alone.nd rfl (by first | exact Or.inl rfl | exact Or.inr rfl))) (fun _ _ _ _ _ => ts_nil) (fun _ _ _ _ _ => (ec (de_call c_p_unit_so o.blk (by decide) runF_len rfl (da_fCons (de_var 0 (pv 0)) (da_fCons (de_var 1 (pv 1)) (da_fCons (de_var 7 (pv 7)) da_fNil)))))) (by decide))) da_fNil)))))
  (s_one (s_if (ds_if (t2 (dt_ne o.u64 (ec (de_call c_q_flat_so o (by decide) len_q_flat_so rfl (da_fCons (de_var 0 (pv 0)) (da_fCons (de_var 2 (pv 2)) (da_fCons (de_var 3 (pv 3)) (da_fCons (de_var 6 (pv 6)) da_fNil)))))) (ec (de_call c_p_own_so o (by decide) runF_len rfl (da_fCons (de_var 0 (pv 0)) (da_fCons (de_var 3 (pv 3)) da_fNil))))))
  (s_one (s_ret (ds_ret (de_fTup (da_fCons de_int (da_fCons (de_var 3 (pv 3)) da_fNil))))))
  s_nil))))))
  (s_one (s_ret (ds_ret de_non)))))

/-! is_one_thrice -/
def b_p_is_one_thrice : Sl → Option Out := (gSeq (gBind (.pr 9 10) (fVar 3))
  (gSeq (gSet 5 (fCall q_leaves_of (fCons (fVar 0) (fCons (fVar 4) fNil))))
  (gSeq (gBind (.pr 11 12) (fCall q_done_so (fCons (fVar 1) (fCons (fTup (fCons (fVar 2) (fCons (fVar 5) fNil))) fNil))))
  (gSeq (gSetOwn 6 fNil)
  (gSeq (gSet 7 (fC (.int 0)))
  (gSeq (gFor (.nm 8) (fItems (fVar 10))
  (gSeq (gApp 6 (fCall q_flat_so (fCons (fVar 0) (fCons (fVar 1) (fCons (fVar 8) (fCons (fSlice (fVar 5) (some (fVar 7)) (some (f2 opAdd (fVar 7) (f2 opIdx (fVar 0) (fVar 8))))) fNil))))))
  (gSet 7 (f2 opAdd (fVar 7) (f2 opIdx (fVar 0) (fVar 8))))))
  (gFrz 6 (gRet (f2 opEq (fCall q_flat_so (fCons (fVar 0) (fCons (fVar 1) (fCons (fVar 11) (fCons (fVar 12) fNil))))) (fCall q_flat_so (fCons (fVar 0) (fCons (fVar 1) (fCons (fVar 9) (fCons (fCall opTuple (fCons (fVar 6) fNil)) fNil))))))))))))))
def p_is_one_thrice : List PyData → Option PyData := runF 5 13 b_p_is_one_thrice
theorem sc_p_is_one_thrice : FnScope ["holder", "flat", "number", "outer", "last", "leaves", "parts", "at", "other", "shape", "inner", "goal", "led"] ["holder", "flat", "number", "outer", "last"] (defScope (top 38)) := ⟨rfl, rfl, rfl, by decide +kernel, rfl, by decide +kernel, by decide +kernel⟩
theorem ok_p_is_one_thrice (T : Txt mg) (hF : Has K mg "is_one_thrice" 38) (c_q_leaves_of : Cal P w K mg base 1 "leaves_of" ["holder", "shapes"] (spF 2 q_leaves_of)) (c_q_done_so : Cal P w K mg base 1 "done_so" ["program", "filling"] (spF 2 q_done_so)) (c_q_flat_so : Cal P w K mg base 3 "flat_so" ["holder", "flat", "shape", "fillings"] (spF 4 q_flat_so)) : Cal P w K mg base 4 "is_one_thrice" ["holder", "flat", "number", "outer", "last"] (spF 5 p_is_one_thrice) :=
  cal_of (k := 3) (N := ["holder", "flat", "number", "outer", "last", "leaves", "parts", "at", "other", "shape", "inner", "goal", "led"]) hF sc_p_is_one_thrice rfl (fun _ _ _ _ _ _ us hl => match us, hl with | [_, _, _, _, _], _ => rfl) (body := b_p_is_one_thrice) fun f cd A outer s H F o =>
  (s_cons (s_bind (ds_bind (.pr 9 10) (pg_pr o.calm (pg_name (i := 9) sc_p_is_one_thrice.nd rfl (by first | exact Or.inl rfl | exact Or.inr rfl)) (pg_name (i := 10) sc_p_is_one_thrice.nd rfl (by first | exact Or.inl rfl | exact Or.inr rfl))) (de_var 3 (pv 3))))
  (s_cons (s_set (ds_set 5 sc_p_is_one_thrice.nd rfl (by first | exact Or.inl rfl | exact Or.inr rfl) (ec (de_call c_q_leaves_of o (by decide) len_q_leaves_of rfl (da_fCons (de_var 0 (pv 0)) (da_fCons (de_var 4 (pv 4)) da_fNil))))))
  (s_cons (s_bind (ds_bind (.pr 11 12) (pg_pr o.calm (pg_name (i := 11) sc_p_is_one_thrice.nd rfl (by first | exact Or.inl rfl | exact Or.inr rfl)) (pg_name (i := 12) sc_p_is_one_thrice.nd rfl (by first | exact Or.inl rfl | exact Or.inr rfl))) (ec (de_call c_q_done_so o (by decide) len_q_done_so rfl (da_fCons (de_var 1 (pv 1)) (da_fCons (de_fTup (da_fCons (de_var 2 (pv 2)) (da_fCons (de_var 5 (pv 5)) da_fNil))) da_fNil))))))
  (s_cons (s_setOwn (ds_setOwn 6 sc_p_is_one_thrice.nd rfl (by first | exact Or.inl rfl | exact Or.inr rfl) da_fNil))
  (s_cons (s_set (ds_set 7 sc_p_is_one_thrice.nd rfl (by first | exact Or.inl rfl | exact Or.inr rfl) de_int))
  (s_cons (s_for (ds_for (.nm 8) PassesOwn.never o.calm (di_seq (de_var 10 (pv 10))) (pg_name (i := 8) sc_p_is_one_thrice.nd rfl (by first | exact Or.inl rfl | exact Or.inr rfl))
  (s_cons (s_app (ds_app 6 (pv 6) (ec (de_call c_q_flat_so o (by decide) len_q_flat_so rfl (da_fCons (de_var 0 (pv 0)) (da_fCons (de_var 1 (pv 1)) (da_fCons (de_var 8 (pv 8)) (da_fCons (de_fSlice11 (de_var 5 (pv 5)) (de_var 7 (pv 7)) (e2 (de_add (de_var 7 (pv 7)) (e2 (de_idx (de_var 0 (pv 0)) (de_var 8 (pv 8))))))) da_fNil))))))))
  (s_one (s_set (ds_set 7 sc_p_is_one_thrice.nd rfl (by first | exact Or.inl rfl | exact Or.inr rfl) (e2 (de_add (de_var 7 (pv 7)) (e2 (de_idx (de_var 0 (pv 0)) (de_var 8 (pv 8))))))))))))
  (s_frz 6 (s_one (s_ret (ds_ret (e2 (de_eq o.u64 (ec (de_call c_q_flat_so o (by decide) len_q_flat_so rfl (da_fCons (de_var 0 (pv 0)) (da_fCons (de_var 1 (pv 1)) (da_fCons (de_var 11 (pv 11)) (da_fCons (de_var 12 (pv 12)) da_fNil)))))) (ec (de_call c_q_flat_so o (by decide) len_q_flat_so rfl (da_fCons (de_var 0 (pv 0)) (da_fCons (de_var 1 (pv 1)) (da_fCons (de_var 9 (pv 9)) (da_fCons (ec (de_tuple rfl T.tuple (da_fCons (de_var 6 (pv 6)) da_fNil))) da_fNil))))))))))))))))))

end K50

set_option Elab.async false
set_option linter.all false
set_option maxRecDepth 100000
set_option maxHeartbeats 4000000
/-! one of the threefold checks in fewer steps -/
namespace K50
open PySem PySem.Spec PyProof.Rows L2
def partsD (h fl lv : List PyData) : List PyData → Nat → Option (List PyData)
  | [], _ => some []
  | .int (.ofNat o) :: r, a => match nthP h o with
    | some (.int (.ofNat k)) => (q_flat_so [.tuple h, .tuple fl, iN o, .tuple (sliceD lv (some a) (some (a + k)))]).bind fun x => (partsD h fl lv r (a + k)).bind fun xs => some (x :: xs)
    | _ => none
  | _, _ => none
abbrev bThr : Sl → Option Out := gSeq (gApp 6 (fCall q_flat_so (fCons (fVar 0) (fCons (fVar 1) (fCons (fVar 8) (fCons (fSlice (fVar 5) (some (fVar 7)) (some (f2 opAdd (fVar 7) (f2 opIdx (fVar 0) (fVar 8))))) fNil))))))
  (gSet 7 (f2 opAdd (fVar 7) (f2 opIdx (fVar 0) (fVar 8))))
theorem thr_loop (h fl lv : List PyData) (s2 s3 s4 s9 s10 s11 s12 : Option EV) : ∀ {inner xs : List PyData} (acc : List PyData) (a : Nat) (s : Option EV), partsD h fl lv inner a = some xs → acc.length + inner.length < 1000000 →
    ∃ a' s', gLoop (.nm 8) bThr inner [some (.d (.tuple h)), some (.d (.tuple fl)), s2, s3, s4, some (.d (.tuple lv)), some (.own acc), some (.d (iN a)), s, s9, s10, s11, s12] =
      some (.nx [some (.d (.tuple h)), some (.d (.tuple fl)), s2, s3, s4, some (.d (.tuple lv)), some (.own (acc ++ xs)), a', s', s9, s10, s11, s12])
  | [], xs, acc, a, s, e, hl => by cases e; exact ⟨_, _, by simp [gLoop]; exact ⟨rfl, rfl⟩⟩
  | y :: inner, xs, acc, a, s, e, hl => by
    unfold partsD at e
    split at e
    · next e1 => cases e1
    · next a _ _ i r e1 =>
      cases e1
      split at e
      · next k ek =>
        obtain ⟨x, e5, e⟩ := Option.bind_eq_some_iff.mp e
        obtain ⟨ys, e2, e3⟩ := Option.bind_eq_some_iff.mp e
        cases e3
        rw [List.length_cons] at hl
        obtain ⟨a', s', e4⟩ := thr_loop h fl lv s2 s3 s4 s9 s10 s11 s12 (acc ++ [x]) (a + k) (some (.d (iN i))) e2 (by rw [List.length_append, List.length_singleton]; omega)
        rw [List.append_assoc] at e4
        have ix : ∀ (o3 : Option EV), f2 opIdx (fVar 0) (fVar 8) [some (.d (.tuple h)), some (.d (.tuple fl)), s2, s3, s4, some (.d (.tuple lv)), o3, some (.d (iN a)), some (.d (iN i)), s9, s10, s11, s12] = some (iN k) := fun o3 => q2 (x := .tuple h) (y := iN i) rfl rfl (nthP_eq ek)
        have ad : ∀ (o3 : Option EV), f2 opAdd (fVar 7) (f2 opIdx (fVar 0) (fVar 8)) [some (.d (.tuple h)), some (.d (.tuple fl)), s2, s3, s4, some (.d (.tuple lv)), o3, some (.d (iN a)), some (.d (iN i)), s9, s10, s11, s12] = some (iN (a + k)) := fun o3 => q2 (x := iN a) (y := iN k) rfl (ix o3) rfl
        have sl : fSlice (fVar 5) (some (fVar 7)) (some (f2 opAdd (fVar 7) (f2 opIdx (fVar 0) (fVar 8)))) [some (.d (.tuple h)), some (.d (.tuple fl)), s2, s3, s4, some (.d (.tuple lv)), some (.own acc), some (.d (iN a)), some (.d (iN i)), s9, s10, s11, s12] = some (.tuple (sliceD lv (some a) (some (a + k)))) := by
          unfold fSlice
          dsimp only
          rw [ad]
          rfl
        refine ⟨a', s', (q_step (ρ' := [some (.d (.tuple h)), some (.d (.tuple fl)), s2, s3, s4, some (.d (.tuple lv)), some (.own acc), some (.d (iN a)), some (.d (iN i)), s9, s10, s11, s12]) rfl
          (q_seq (ρ' := [some (.d (.tuple h)), some (.d (.tuple fl)), s2, s3, s4, some (.d (.tuple lv)), some (.own (acc ++ [x])), some (.d (iN a)), some (.d (iN i)), s9, s10, s11, s12])
            (q_app rfl (q_call (q_cons rfl (q_cons rfl (q_cons rfl (q_cons sl rfl)))) e5) (by omega)) (q_set (ad _)))).trans ?_⟩
        exact e4
      · cases e
    · cases e
def q_is_one_thrice : List PyData → Option PyData
  | [.tuple h, .tuple fl, .int (.ofNat n), .tuple [.int (.ofNat sh), .tuple inner], .tuple last] => match q_leaves_of [.tuple h, .tuple last] with
    | some (.tuple lv) => (match q_done_so [.tuple fl, .tuple [iN n, .tuple lv]] with
      | some (.tuple [g, led]) => (q_flat_so [.tuple h, .tuple fl, g, led]).bind fun x => (if Nat.ble inner.length 1000 then partsD h fl lv inner 0 else none).bind fun ps => (q_flat_so [.tuple h, .tuple fl, iN sh, .tuple ps]).bind fun y => opEq x y
      | _ => none)
    | _ => none
  | _ => none
theorem q_thrice_ok (ds : List PyData) (z : PyData) (h : q_is_one_thrice ds = some z) : p_is_one_thrice ds = some z := by
  unfold q_is_one_thrice at h
  split at h
  · next h0 fl n sh inner last =>
    split at h
    · next lv e1 =>
      split at h
      · next g led e2 =>
        obtain ⟨x, e3, h⟩ := Option.bind_eq_some_iff.mp h
        obtain ⟨ps, e4, h⟩ := Option.bind_eq_some_iff.mp h
        obtain ⟨y, e5, e6⟩ := Option.bind_eq_some_iff.mp h
        split at e4
        · next hc =>
          have hc' := Nat.le_of_ble_eq_true hc
          obtain ⟨a', s', e7⟩ := thr_loop h0 fl lv (some (.d (iN n))) (some (.d (.tuple [iN sh, .tuple inner]))) (some (.d (.tuple last))) (some (.d (iN sh))) (some (.d (.tuple inner))) (some (.d g)) (some (.d led)) [] 0 none e4 (by simp; omega)
          rw [List.nil_append] at e7
          refine q_run rfl (q_seq (q_bind (d := .tuple [iN sh, .tuple inner]) rfl rfl) (q_seq (q_set (q_call (q_cons rfl (q_cons rfl rfl)) e1)) (q_seq (q_bind (d := .tuple [g, led]) (q_call (q_cons rfl (q_cons (q_tup (q_cons rfl (q_cons rfl rfl)) (le2 _ _)) rfl)) e2) rfl)
            (q_seq (ρ' := [some (.d (.tuple h0)), some (.d (.tuple fl)), some (.d (iN n)), some (.d (.tuple [iN sh, .tuple inner])), some (.d (.tuple last)), some (.d (.tuple lv)), some (.own []), none, none, some (.d (iN sh)), some (.d (.tuple inner)), some (.d g), some (.d led)]) rfl
              (q_seq (q_set rfl) (q_seq (q_for rfl e7) ?_))))))
          exact q_ret (q2 (q_call (q_cons rfl (q_cons rfl (q_cons rfl (q_cons rfl rfl)))) e3) (q_call (q_cons rfl (q_cons rfl (q_cons rfl (q_cons rfl rfl)))) e5) e6)
        · cases e4
      · cases h
    · cases h
  · cases h
theorem len_q_is_one_thrice (ds : List PyData) (z : PyData) (h : q_is_one_thrice ds = some z) : ds.length = 5 := runF_len ds z (q_thrice_ok ds z h)
end K50

set_option Elab.async false
set_option linter.all false
set_option maxRecDepth 100000
set_option maxHeartbeats 4000000
namespace K50
open PySem PySem.Spec PyProof.Rows L2
variable {P : Program} {w : World} {K : PySem.W.Frag} {mg : Str → Option Value} {base : Heap}

/-! broken_thrice -/
def b_p_broken_thrice : Sl → Option Out := (gSeq (gSet 2 (fC (.int 0)))
  (gSeq (gFor (.pr 3 4) (fEnum (fCall p_into_so (fCons (fVar 0) (fCons (fVar 0) fNil))))
  (gSeq (gSet 5 (fCall opSum2 (fCons (fComp (.nm 7) [7] fYes (f2 opIdx (fVar 0) (fVar 7)) (fItems (f2 opIdx (fVar 4) (fC (.int 1))))) fNil)))
  (gFor (.nm 6) (fItems (fCall p_rows_of (fCons (fRng .list fZero (fCall opLen (fCons (fVar 0) fNil))) (fCons (fVar 5) fNil))))
  (gSeq (gIf (fNot (fT (fCall q_is_one_thrice (fCons (fVar 0) (fCons (fVar 1) (fCons (fVar 3) (fCons (fVar 4) (fCons (fVar 6) fNil))))))))
  (gRet (fTup (fCons (fC (.int 2)) (fCons (fVar 2) fNil))))
  gNext)
  (gSet 2 (f2 opAdd (fVar 2) (fC (.int 1))))))))
  (gRet (fC .none))))
def p_broken_thrice : List PyData → Option PyData := runF 2 8 b_p_broken_thrice
theorem sc_p_broken_thrice : FnScope ["holder", "flat", "at", "number", "outer", "places", "last", "inner"] ["holder", "flat"] (defScope (top 39)) := ⟨rfl, rfl, rfl, by decide +kernel, rfl, by decide +kernel, by decide +kernel⟩
theorem ok_p_broken_thrice (T : Txt mg) (hF : Has K mg "broken_thrice" 39) (c_p_into_so : Cal P w K mg base 2 "into_so" ["one", "other"] (spF 2 p_into_so)) (c_p_rows_of : Cal P w K mg base 1 "rows_of" ["things", "size"] (spF 2 p_rows_of)) (c_q_is_one_thrice : Cal P w K mg base 4 "is_one_thrice" ["holder", "flat", "number", "outer", "last"] (spF 5 q_is_one_thrice)) : Cal P w K mg base 5 "broken_thrice" ["holder", "flat"] (spF 2 p_broken_thrice) :=
  cal_of (k := 4) (N := ["holder", "flat", "at", "number", "outer", "places", "last", "inner"]) hF sc_p_broken_thrice rfl (fun _ _ _ _ _ _ us hl => match us, hl with | [_, _], _ => rfl) (body := b_p_broken_thrice) fun f cd A outer s H F o =>
  (s_cons (s_set (ds_set 2 sc_p_broken_thrice.nd rfl (by first | exact Or.inl rfl | exact Or.inr rfl) de_int))
  (s_cons (s_for (ds_for (.pr 3 4) PassesOwn.never o.calm (di_enum rfl T.enumerate (ec (de_call c_p_into_so o (by decide) runF_len rfl (da_fCons (de_var 0 (pv 0)) (da_fCons (de_var 0 (pv 0)) da_fNil))))) (pg_pr o.calm (pg_name (i := 3) sc_p_broken_thrice.nd rfl (by first | exact Or.inl rfl | exact Or.inr rfl)) (pg_name (i := 4) sc_p_broken_thrice.nd rfl (by first | exact Or.inl rfl | exact Or.inr rfl)))
  (s_cons (s_set (ds_set 5 sc_p_broken_thrice.nd rfl (by first | exact Or.inl rfl | exact Or.inr rfl) (ec (de_sum2 o.calm rfl T.sum (da_fCons (v_comp (de_comp (.nm 7) [("inner", 7)] o.calm sc_p_broken_thrice.nd (di_seq (e2 (de_idx (de_var 4 (pv 4)) de_int))) (blkOk_by (N := ["holder", "flat", "at", "number", "outer", "places", "last", "inner"]) (sc := defScope (top 39)) (by decide +kernel)) (fun _ _ _ _ _ => (pg_name (i := 7) sc_p_broken_thrice.nd rfl (by first | exact Or.inl rfl | exact Or.inr rfl))) (fun _ _ _ _ _ => ts_nil) (fun _ _ _ _ _ => (e2 (de_idx (de_var 0 (pv 0)) (de_var 7 (pv 7))))) (by decide))) da_fNil)))))
  (s_one (s_for (ds_for (.nm 6) PassesOwn.never o.calm (di_seq (ec (de_call c_p_rows_of o (by decide) runF_len rfl (da_fCons (de_lstRg1 o.calm rfl T.list rfl T.range (ec (de_len rfl T.len (da_fCons (de_var 0 (pv 0)) da_fNil)))) (da_fCons (de_var 5 (pv 5)) da_fNil))))) (pg_name (i := 6) sc_p_broken_thrice.nd rfl (by first | exact Or.inl rfl | exact Or.inr rfl))
  (s_cons (s_if (ds_if (t_not (tv (ec (de_call c_q_is_one_thrice o (by decide) len_q_is_one_thrice rfl (da_fCons (de_var 0 (pv 0)) (da_fCons (de_var 1 (pv 1)) (da_fCons (de_var 3 (pv 3)) (da_fCons (de_var 4 (pv 4)) (da_fCons (de_var 6 (pv 6)) da_fNil)))))))))
  (s_one (s_ret (ds_ret (de_fTup (da_fCons de_int (da_fCons (de_var 2 (pv 2)) da_fNil))))))
  s_nil))
  (s_one (s_set (ds_set 2 sc_p_broken_thrice.nd rfl (by first | exact Or.inl rfl | exact Or.inr rfl) (e2 (de_add (de_var 2 (pv 2)) de_int))))))))))))
  (s_one (s_ret (ds_ret de_non)))))

/-! broken_law -/
def b_p_broken_law : Sl → Option Out := (gSeq (gSet 3 (fCall p_broken_alone (fCons (fVar 0) (fCons (fVar 1) (fCons (fVar 2) fNil)))))
  (gRet (fIfE (fT (f1 (fun x => some (.bool (isNon x))) (fVar 3))) (fCall p_broken_thrice (fCons (fVar 0) (fCons (fVar 2) fNil))) (fVar 3))))
def p_broken_law : List PyData → Option PyData := runF 3 4 b_p_broken_law
theorem sc_p_broken_law : FnScope ["holder", "unit", "flat", "broken"] ["holder", "unit", "flat"] (defScope (top 40)) := ⟨rfl, rfl, rfl, by decide +kernel, rfl, by decide +kernel, by decide +kernel⟩
theorem ok_p_broken_law (T : Txt mg) (hF : Has K mg "broken_law" 40) (c_p_broken_alone : Cal P w K mg base 4 "broken_alone" ["holder", "unit", "flat"] (spF 3 p_broken_alone)) (c_p_broken_thrice : Cal P w K mg base 5 "broken_thrice" ["holder", "flat"] (spF 2 p_broken_thrice)) : Cal P w K mg base 6 "broken_law" ["holder", "unit", "flat"] (spF 3 p_broken_law) :=
  cal_of (k := 5) (N := ["holder", "unit", "flat", "broken"]) hF sc_p_broken_law rfl (fun _ _ _ _ _ _ us hl => match us, hl with | [_, _, _], _ => rfl) (body := b_p_broken_law) fun f cd A outer s H F o =>
  (s_cons (s_set (ds_set 3 sc_p_broken_law.nd rfl (by first | exact Or.inl rfl | exact Or.inr rfl) (ec (de_call c_p_broken_alone o (by decide) runF_len rfl (da_fCons (de_var 0 (pv 0)) (da_fCons (de_var 1 (pv 1)) (da_fCons (de_var 2 (pv 2)) da_fNil)))))))
  (s_one (s_ret (ds_ret (v_if (t1 (dt_isN (de_var 3 (pv 3)))) (ec (de_call c_p_broken_thrice o (by decide) runF_len rfl (da_fCons (de_var 0 (pv 0)) (da_fCons (de_var 2 (pv 2)) da_fNil)))) (de_var 3 (pv 3)))))))

/-! is_table -/
def b_p_is_table : Sl → Option Out := (gSeq (gIf (fOr (fNot (fT (f1 opIsTup (fVar 2)))) (fT (f2 opNe (fCall opLen (fCons (fVar 2) fNil)) (fCall opLen (fCons (fVar 0) fNil)))))
  (gRet (fC (.bool false)))
  gNext)
  (gRet (f2 opEq (fCall opLen (fCons (fComp (.pr 3 4) [3, 4] (fNot (fT (fCall p_is_row (fCons (fVar 3) (fCons (fVar 1) (fCons (fVar 4) fNil)))))) (fC (.int 1)) (fZip (fVar 0) (fVar 2))) fNil)) (fC (.int 0)))))
def p_is_table : List PyData → Option PyData := runF 3 5 b_p_is_table
theorem sc_p_is_table : FnScope ["holder", "goal", "value", "places", "row"] ["holder", "goal", "value"] (defScope (top 41)) := ⟨rfl, rfl, rfl, by decide +kernel, rfl, by decide +kernel, by decide +kernel⟩
theorem ok_p_is_table (T : Txt mg) (hF : Has K mg "is_table" 41) (c_p_is_row : Cal P w K mg base 2 "is_row" ["places", "goal", "value"] (spF 3 p_is_row)) : Cal P w K mg base 3 "is_table" ["holder", "goal", "value"] (spF 3 p_is_table) :=
  cal_of (k := 2) (N := ["holder", "goal", "value", "places", "row"]) hF sc_p_is_table rfl (fun _ _ _ _ _ _ us hl => match us, hl with | [_, _, _], _ => rfl) (body := b_p_is_table) fun f cd A outer s H F o =>
  (s_cons (s_if (ds_if (DW.dt (w_or (t_not (tv (e1 (de_isTup rfl T.isinstance rfl T.tuple (de_var 2 (pv 2)))))) (w_or1 (t2 (dt_ne o.u64 (ec (de_len rfl T.len (da_fCons (de_var 2 (pv 2)) da_fNil))) (ec (de_len rfl T.len (da_fCons (de_var 0 (pv 0)) da_fNil))))))))
  (s_one (s_ret (ds_ret de_bl)))
  s_nil))
  (s_one (s_ret (ds_ret (e2 (de_eq o.u64 (ec (de_len rfl T.len (da_fCons (v_comp (de_comp (.pr 3 4) [("places", 3), ("row", 4)] o.calm sc_p_is_table.nd (di_zip rfl T.zip (de_var 0 (pv 0)) (de_var 2 (pv 2))) (blkOk_by (N := ["holder", "goal", "value", "places", "row"]) (sc := defScope (top 41)) (by decide +kernel)) (fun _ _ _ _ _ => (pg_pr o.blk.calm (pg_name (i := 3) sc_p_is_table.nd rfl (by first | exact Or.inl rfl | exact Or.inr rfl)) (pg_name (i := 4) sc_p_is_table.nd rfl (by first | exact Or.inl rfl | exact Or.inr rfl)))) (fun _ _ _ _ _ => (ts_one (t_not (tv (ec (de_call c_p_is_row o.blk (by decide) runF_len rfl (da_fCons (de_var 3 (pv 3)) (da_fCons (de_var 1 (pv 1)) (da_fCons (de_var 4 (pv 4)) da_fNil))))))))) (fun _ _ _ _ _ => de_int) (by decide))) da_fNil))) de_int))))))

/-! check_book -/
def b_p_check_book : Sl → Option Out := (gSeq (gIf (fOr (fNot (fT (f1 opIsTup (fVar 1)))) (fT (f2 opNe (fCall opLen (fCons (fVar 1) fNil)) (fC (.int 2)))))
  gNever
  gNext)
  (gSeq (gIf (fNot (fT (fCall p_is_from (fCons (f2 opIdx (fVar 1) (fC (.int 0))) (fCons (fC (.int 0)) (fCons (f2 opSub (fCall opLen (fCons (fVar 0) fNil)) (fC (.int 1))) fNil))))))
  gNever
  gNext)
  (gSeq (gIf (fNot (fT (fCall p_is_table (fCons (fCall p_into_sizes (fCons (fVar 0) (fCons (fVar 0) fNil))) (fCons (fVar 0) (fCons (f2 opIdx (fVar 1) (fC (.int 1))) fNil))))))
  gNever
  gNext)
  (gSeq (gSet 2 (fCall p_broken_law (fCons (fVar 0) (fCons (f2 opIdx (fVar 1) (fC (.int 0))) (fCons (f2 opIdx (fVar 1) (fC (.int 1))) fNil)))))
  (gSeq (gIf (fT (f1 (fun x => some (.bool (!isNon x))) (fVar 2)))
  gNever
  gNext)
  (gRet (fVar 1)))))))
def p_check_book : List PyData → Option PyData := runF 2 3 b_p_check_book
theorem sc_p_check_book : FnScope ["holder", "book", "broken"] ["holder", "book"] (defScope (top 42)) := ⟨rfl, rfl, rfl, by decide +kernel, rfl, by decide +kernel, by decide +kernel⟩
theorem ok_p_check_book (T : Txt mg) (hF : Has K mg "check_book" 42) (c_p_is_from : Cal P w K mg base 1 "is_from" ["value", "low", "high"] (spF 3 p_is_from)) (c_p_into_sizes : Cal P w K mg base 3 "into_sizes" ["one", "other"] (spF 2 p_into_sizes)) (c_p_is_table : Cal P w K mg base 3 "is_table" ["holder", "goal", "value"] (spF 3 p_is_table)) (c_p_broken_law : Cal P w K mg base 6 "broken_law" ["holder", "unit", "flat"] (spF 3 p_broken_law)) : Cal P w K mg base 7 "check_book" ["holder", "book"] (spF 2 p_check_book) :=
  cal_of (k := 6) (N := ["holder", "book", "broken"]) hF sc_p_check_book rfl (fun _ _ _ _ _ _ us hl => match us, hl with | [_, _], _ => rfl) (body := b_p_check_book) fun f cd A outer s H F o =>
  (s_cons (s_if (ds_if (DW.dt (w_or (t_not (tv (e1 (de_isTup rfl T.isinstance rfl T.tuple (de_var 1 (pv 1)))))) (w_or1 (t2 (dt_ne o.u64 (ec (de_len rfl T.len (da_fCons (de_var 1 (pv 1)) da_fNil))) de_int)))))
  (s_one s_never)
  s_nil))
  (s_cons (s_if (ds_if (t_not (tv (ec (de_call c_p_is_from o (by decide) runF_len rfl (da_fCons (e2 (de_idx (de_var 1 (pv 1)) de_int)) (da_fCons de_int (da_fCons (e2 (de_sub (ec (de_len rfl T.len (da_fCons (de_var 0 (pv 0)) da_fNil))) de_int)) da_fNil)))))))
  (s_one s_never)
  s_nil))
  (s_cons (s_if (ds_if (t_not (tv (ec (de_call c_p_is_table o (by decide) runF_len rfl (da_fCons (ec (de_call c_p_into_sizes o (by decide) runF_len rfl (da_fCons (de_var 0 (pv 0)) (da_fCons (de_var 0 (pv 0)) da_fNil)))) (da_fCons (de_var 0 (pv 0)) (da_fCons (e2 (de_idx (de_var 1 (pv 1)) de_int)) da_fNil)))))))
  (s_one s_never)
  s_nil))
  (s_cons (s_set (ds_set 2 sc_p_check_book.nd rfl (by first | exact Or.inl rfl | exact Or.inr rfl) (ec (de_call c_p_broken_law o (by decide) runF_len rfl (da_fCons (de_var 0 (pv 0)) (da_fCons (e2 (de_idx (de_var 1 (pv 1)) de_int)) (da_fCons (e2 (de_idx (de_var 1 (pv 1)) de_int)) da_fNil)))))))
  (s_cons (s_if (ds_if (t1 (dt_notN (de_var 2 (pv 2))))
  (s_one s_never)
  s_nil))
  (s_one (s_ret (ds_ret (de_var 1 (pv 1))))))))))

/-! need_book -/
def b_p_need_book : Sl → Option Out := (gSeq (gDrop (fCall p_check_twice (fCons (fCall p_need_holder (fCons (fVar 0) fNil)) fNil)))
  (gRet (fCall p_check_book (fCons (fVar 0) (fCons (fVar 1) fNil)))))
def p_need_book : List PyData → Option PyData := runF 2 2 b_p_need_book
theorem sc_p_need_book : FnScope ["holder", "book"] ["holder", "book"] (defScope (top 43)) := ⟨rfl, rfl, rfl, by decide +kernel, rfl, by decide +kernel, by decide +kernel⟩
theorem ok_p_need_book (T : Txt mg) (hF : Has K mg "need_book" 43) (c_p_need_holder : Cal P w K mg base 3 "need_holder" ["value"] (spF 1 p_need_holder)) (c_p_check_twice : Cal P w K mg base 3 "check_twice" ["holder"] (spF 1 p_check_twice)) (c_p_check_book : Cal P w K mg base 7 "check_book" ["holder", "book"] (spF 2 p_check_book)) : Cal P w K mg base 8 "need_book" ["holder", "book"] (spF 2 p_need_book) :=
  cal_of (k := 7) (N := ["holder", "book"]) hF sc_p_need_book rfl (fun _ _ _ _ _ _ us hl => match us, hl with | [_, _], _ => rfl) (body := b_p_need_book) fun f cd A outer s H F o =>
  (s_cons (s_drop (ds_expr (ec (de_call c_p_check_twice o (by decide) runF_len rfl (da_fCons (ec (de_call c_p_need_holder o (by decide) runF_len rfl (da_fCons (de_var 0 (pv 0)) da_fNil))) da_fNil)))))
  (s_one (s_ret (ds_ret (ec (de_call c_p_check_book o (by decide) runF_len rfl (da_fCons (de_var 0 (pv 0)) (da_fCons (de_var 1 (pv 1)) da_fNil))))))))

end K50

set_option Elab.async false
set_option linter.all false
set_option maxRecDepth 100000
set_option maxHeartbeats 4000000
/-! the books that are needed, each looked at once -/
namespace K50
open PySem PySem.Spec PyProof.Rows L2
def asArgs : PyData → List PyData
  | .tuple xs => xs
  | _ => []
/-- the book is good -/
def chkB (b : PyData) : Bool := match asArgs b with
  | [h, k] => (match p_need_book [h, k] with
    | some z => sameD z k
    | none => false)
  | _ => false
def bk0 : PyData := (.tuple [(.tuple [.int 3]), (.tuple [.int 0, (.tuple [(.tuple [.int 0, (.tuple [.int 0, .int 4, .int 8])])])])])
def bk1 : PyData := (.tuple [(.tuple [.int 1, .int 2]), (.tuple [.int 1, (.tuple [(.tuple [.int 0, (.tuple [.int 0])]), (.tuple [.int 0, (.tuple [.int 1])]), (.tuple [.int 0, (.tuple [.int 1])]), (.tuple [.int 0, (.tuple [.int 2])]), (.tuple [.int 1, (.tuple [.int 0, .int 2])]), (.tuple [.int 1, (.tuple [.int 0, .int 3])])])])])
def bk2 : PyData := (.tuple [(.tuple [.int 1, .int 2]), (.tuple [.int 1, (.tuple [(.tuple [.int 0, (.tuple [.int 0])]), (.tuple [.int 0, (.tuple [.int 0])]), (.tuple [.int 0, (.tuple [.int 0])]), (.tuple [.int 1, (.tuple [.int 0, .int 2])]), (.tuple [.int 0, (.tuple [.int 0])]), (.tuple [.int 1, (.tuple [.int 0, .int 3])])])])])
def bk3 : PyData := (.tuple [(.tuple [.int 2, .int 1]), (.tuple [.int 0, (.tuple [(.tuple [.int 0, (.tuple [.int 0, .int 3])]), (.tuple [.int 0, (.tuple [.int 0, .int 2])]), (.tuple [.int 1, (.tuple [.int 2])]), (.tuple [.int 1, (.tuple [.int 1])]), (.tuple [.int 1, (.tuple [.int 1])]), (.tuple [.int 1, (.tuple [.int 0])])])])])
def bk4 : PyData := (.tuple [(.tuple [.int 2, .int 1]), (.tuple [.int 0, (.tuple [(.tuple [.int 0, (.tuple [.int 0, .int 3])]), (.tuple [.int 1, (.tuple [.int 0])]), (.tuple [.int 0, (.tuple [.int 0, .int 2])]), (.tuple [.int 1, (.tuple [.int 0])]), (.tuple [.int 1, (.tuple [.int 0])]), (.tuple [.int 1, (.tuple [.int 0])])])])])
def bk5 : PyData := (.tuple [(.tuple [.int 2, .int 2]), (.tuple [.int 1, (.tuple [(.tuple [.int 1, (.tuple [.int 0, .int 3])]), (.tuple [.int 1, (.tuple [.int 0, .int 3])]), (.tuple [.int 0, (.tuple [.int 0, .int 3])]), (.tuple [.int 0, (.tuple [.int 0, .int 3])]), (.tuple [.int 0, (.tuple [.int 0, .int 3])]), (.tuple [.int 0, (.tuple [.int 0, .int 3])]), (.tuple [.int 1, (.tuple [.int 0, .int 3])]), (.tuple [.int 1, (.tuple [.int 0, .int 3])])])])])
def bk6 : PyData := (.tuple [(.tuple [.int 2, .int 2]), (.tuple [.int 1, (.tuple [(.tuple [.int 1, (.tuple [.int 0, .int 3])]), (.tuple [.int 0, (.tuple [.int 0, .int 3])]), (.tuple [.int 1, (.tuple [.int 0, .int 3])]), (.tuple [.int 0, (.tuple [.int 0, .int 3])]), (.tuple [.int 0, (.tuple [.int 0, .int 3])]), (.tuple [.int 1, (.tuple [.int 0, .int 3])]), (.tuple [.int 0, (.tuple [.int 0, .int 3])]), (.tuple [.int 1, (.tuple [.int 0, .int 3])])])])])
def bk7 : PyData := (.tuple [(.tuple [.int 2, .int 2]), (.tuple [.int 0, (.tuple [(.tuple [.int 0, (.tuple [.int 0, .int 3])]), (.tuple [.int 0, (.tuple [.int 0, .int 3])]), (.tuple [.int 1, (.tuple [.int 0, .int 3])]), (.tuple [.int 1, (.tuple [.int 0, .int 3])]), (.tuple [.int 1, (.tuple [.int 0, .int 3])]), (.tuple [.int 1, (.tuple [.int 0, .int 3])]), (.tuple [.int 0, (.tuple [.int 0, .int 3])]), (.tuple [.int 0, (.tuple [.int 0, .int 3])])])])])
def bk8 : PyData := (.tuple [(.tuple [.int 2, .int 2]), (.tuple [.int 0, (.tuple [(.tuple [.int 0, (.tuple [.int 0, .int 3])]), (.tuple [.int 1, (.tuple [.int 0, .int 3])]), (.tuple [.int 0, (.tuple [.int 0, .int 3])]), (.tuple [.int 1, (.tuple [.int 0, .int 3])]), (.tuple [.int 1, (.tuple [.int 0, .int 3])]), (.tuple [.int 0, (.tuple [.int 0, .int 3])]), (.tuple [.int 1, (.tuple [.int 0, .int 3])]), (.tuple [.int 0, (.tuple [.int 0, .int 3])])])])])
def bk9 : PyData := (.tuple [(.tuple [.int 2, .int 2]), (.tuple [.int 1, (.tuple [(.tuple [.int 0, (.tuple [.int 0, .int 3])]), (.tuple [.int 0, (.tuple [.int 0, .int 3])]), (.tuple [.int 0, (.tuple [.int 0, .int 3])]), (.tuple [.int 0, (.tuple [.int 0, .int 3])]), (.tuple [.int 0, (.tuple [.int 0, .int 3])]), (.tuple [.int 0, (.tuple [.int 0, .int 3])]), (.tuple [.int 1, (.tuple [.int 0, .int 3])]), (.tuple [.int 1, (.tuple [.int 0, .int 3])])])])])
def bk10 : PyData := (.tuple [(.tuple [.int 2, .int 2]), (.tuple [.int 1, (.tuple [(.tuple [.int 0, (.tuple [.int 0, .int 3])]), (.tuple [.int 0, (.tuple [.int 0, .int 3])]), (.tuple [.int 0, (.tuple [.int 0, .int 3])]), (.tuple [.int 0, (.tuple [.int 0, .int 3])]), (.tuple [.int 0, (.tuple [.int 0, .int 3])]), (.tuple [.int 1, (.tuple [.int 0, .int 3])]), (.tuple [.int 0, (.tuple [.int 0, .int 3])]), (.tuple [.int 1, (.tuple [.int 0, .int 3])])])])])
def bk11 : PyData := (.tuple [(.tuple [.int 0]), (.tuple [.int 0, (.tuple [(.tuple [.int 0, (.tuple [])])])])])
def bk12 : PyData := (.tuple [(.tuple [.int 2, .int 2]), (.tuple [.int 0, (.tuple [(.tuple [.int 0, (.tuple [.int 0, .int 3])]), (.tuple [.int 0, (.tuple [.int 0, .int 3])]), (.tuple [.int 1, (.tuple [.int 0, .int 3])]), (.tuple [.int 1, (.tuple [.int 0, .int 3])]), (.tuple [.int 1, (.tuple [.int 0, .int 3])]), (.tuple [.int 1, (.tuple [.int 0, .int 3])]), (.tuple [.int 1, (.tuple [.int 0, .int 3])]), (.tuple [.int 1, (.tuple [.int 0, .int 3])])])])])
def bk13 : PyData := (.tuple [(.tuple [.int 1]), (.tuple [.int 0, (.tuple [(.tuple [.int 0, (.tuple [.int 0])])])])])
def bk14 : PyData := (.tuple [(.tuple [.int 2, .int 2]), (.tuple [.int 0, (.tuple [(.tuple [.int 0, (.tuple [.int 0, .int 3])]), (.tuple [.int 1, (.tuple [.int 0, .int 3])]), (.tuple [.int 0, (.tuple [.int 0, .int 3])]), (.tuple [.int 1, (.tuple [.int 0, .int 3])]), (.tuple [.int 1, (.tuple [.int 0, .int 3])]), (.tuple [.int 1, (.tuple [.int 0, .int 3])]), (.tuple [.int 1, (.tuple [.int 0, .int 3])]), (.tuple [.int 1, (.tuple [.int 0, .int 3])])])])])
def bk15 : PyData := (.tuple [(.tuple [.int 1, .int 1]), (.tuple [.int 0, (.tuple [(.tuple [.int 0, (.tuple [.int 0])]), (.tuple [.int 1, (.tuple [.int 0])]), (.tuple [.int 1, (.tuple [.int 0])]), (.tuple [.int 0, (.tuple [.int 0])])])])])
def bk16 : PyData := (.tuple [(.tuple [.int 1, .int 1]), (.tuple [.int 0, (.tuple [(.tuple [.int 0, (.tuple [.int 0])]), (.tuple [.int 1, (.tuple [.int 0])]), (.tuple [.int 1, (.tuple [.int 0])]), (.tuple [.int 1, (.tuple [.int 0])])])])])
def bk17 : PyData := (.tuple [(.tuple [.int 1, .int 1]), (.tuple [.int 1, (.tuple [(.tuple [.int 1, (.tuple [.int 0])]), (.tuple [.int 0, (.tuple [.int 0])]), (.tuple [.int 0, (.tuple [.int 0])]), (.tuple [.int 1, (.tuple [.int 0])])])])])
def bk18 : PyData := (.tuple [(.tuple [.int 1, .int 1]), (.tuple [.int 1, (.tuple [(.tuple [.int 0, (.tuple [.int 0])]), (.tuple [.int 0, (.tuple [.int 0])]), (.tuple [.int 0, (.tuple [.int 0])]), (.tuple [.int 1, (.tuple [.int 0])])])])])
def bk19 : PyData := (.tuple [(.tuple [.int 2]), (.tuple [.int 0, (.tuple [(.tuple [.int 0, (.tuple [.int 0, .int 3])])])])])
def bk20 : PyData := (.tuple [(.tuple [.int 0, .int 1, .int 1, .int 2]), (.tuple [.int 3, (.tuple [(.tuple [.int 0, (.tuple [])]), (.tuple [.int 0, (.tuple [])]), (.tuple [.int 1, (.tuple [.int 0])]), (.tuple [.int 0, (.tuple [])]), (.tuple [.int 1, (.tuple [.int 1])]), (.tuple [.int 0, (.tuple [])]), (.tuple [.int 0, (.tuple [])]), (.tuple [.int 2, (.tuple [.int 0])]), (.tuple [.int 2, (.tuple [.int 0])]), (.tuple [.int 0, (.tuple [])]), (.tuple [.int 1, (.tuple [.int 0])]), (.tuple [.int 0, (.tuple [])]), (.tuple [.int 1, (.tuple [.int 1])]), (.tuple [.int 0, (.tuple [])]), (.tuple [.int 1, (.tuple [.int 1])]), (.tuple [.int 0, (.tuple [])]), (.tuple [.int 1, (.tuple [.int 2])]), (.tuple [.int 2, (.tuple [.int 0])]), (.tuple [.int 3, (.tuple [.int 0, .int 1])]), (.tuple [.int 2, (.tuple [.int 0])]), (.tuple [.int 3, (.tuple [.int 0, .int 2])]), (.tuple [.int 2, (.tuple [.int 0])]), (.tuple [.int 3, (.tuple [.int 0, .int 2])]), (.tuple [.int 2, (.tuple [.int 0])]), (.tuple [.int 3, (.tuple [.int 0, .int 3])])])])])
def bk21 : PyData := (.tuple [(.tuple [.int 1, .int 2, .int 0, .int 1]), (.tuple [.int 1, (.tuple [(.tuple [.int 0, (.tuple [.int 0])]), (.tuple [.int 0, (.tuple [.int 0])]), (.tuple [.int 2, (.tuple [])]), (.tuple [.int 2, (.tuple [])]), (.tuple [.int 0, (.tuple [.int 0])]), (.tuple [.int 1, (.tuple [.int 0, .int 2])]), (.tuple [.int 0, (.tuple [.int 0])]), (.tuple [.int 1, (.tuple [.int 0, .int 1])]), (.tuple [.int 0, (.tuple [.int 0])]), (.tuple [.int 1, (.tuple [.int 0, .int 3])]), (.tuple [.int 0, (.tuple [.int 0])]), (.tuple [.int 1, (.tuple [.int 0, .int 2])]), (.tuple [.int 2, (.tuple [])]), (.tuple [.int 3, (.tuple [.int 1])]), (.tuple [.int 2, (.tuple [])]), (.tuple [.int 3, (.tuple [.int 0])]), (.tuple [.int 2, (.tuple [])]), (.tuple [.int 3, (.tuple [.int 2])]), (.tuple [.int 2, (.tuple [])]), (.tuple [.int 3, (.tuple [.int 1])]), (.tuple [.int 2, (.tuple [])]), (.tuple [.int 2, (.tuple [])]), (.tuple [.int 3, (.tuple [.int 1])]), (.tuple [.int 2, (.tuple [])]), (.tuple [.int 3, (.tuple [.int 0])])])])])
def bk22 : PyData := (.tuple [(.tuple [.int 0, .int 1]), (.tuple [.int 1, (.tuple [(.tuple [.int 0, (.tuple [])]), (.tuple [.int 0, (.tuple [])]), (.tuple [.int 1, (.tuple [.int 0])])])])])
def bk23 : PyData := (.tuple [(.tuple [.int 1, .int 0, .int 2, .int 1]), (.tuple [.int 2, (.tuple [(.tuple [.int 0, (.tuple [.int 0])]), (.tuple [.int 1, (.tuple [])]), (.tuple [.int 0, (.tuple [.int 1])]), (.tuple [.int 1, (.tuple [])]), (.tuple [.int 1, (.tuple [])]), (.tuple [.int 0, (.tuple [.int 1])]), (.tuple [.int 1, (.tuple [])]), (.tuple [.int 0, (.tuple [.int 2])]), (.tuple [.int 1, (.tuple [])]), (.tuple [.int 0, (.tuple [.int 0])]), (.tuple [.int 1, (.tuple [])]), (.tuple [.int 0, (.tuple [.int 1])]), (.tuple [.int 1, (.tuple [])]), (.tuple [.int 2, (.tuple [.int 0, .int 2])]), (.tuple [.int 3, (.tuple [.int 0])]), (.tuple [.int 2, (.tuple [.int 0, .int 3])]), (.tuple [.int 3, (.tuple [.int 0])]), (.tuple [.int 2, (.tuple [.int 0, .int 1])]), (.tuple [.int 3, (.tuple [.int 0])]), (.tuple [.int 2, (.tuple [.int 0, .int 2])]), (.tuple [.int 3, (.tuple [.int 0])]), (.tuple [.int 1, (.tuple [])]), (.tuple [.int 1, (.tuple [])]), (.tuple [.int 3, (.tuple [.int 0])]), (.tuple [.int 3, (.tuple [.int 0])])])])])
def bk24 : PyData := (.tuple [(.tuple [.int 2, .int 1, .int 1, .int 0]), (.tuple [.int 0, (.tuple [(.tuple [.int 0, (.tuple [.int 0, .int 3])]), (.tuple [.int 1, (.tuple [.int 0])]), (.tuple [.int 0, (.tuple [.int 0, .int 2])]), (.tuple [.int 1, (.tuple [.int 0])]), (.tuple [.int 0, (.tuple [.int 0, .int 2])]), (.tuple [.int 1, (.tuple [.int 0])]), (.tuple [.int 0, (.tuple [.int 0, .int 1])]), (.tuple [.int 1, (.tuple [.int 0])]), (.tuple [.int 2, (.tuple [.int 2])]), (.tuple [.int 3, (.tuple [])]), (.tuple [.int 2, (.tuple [.int 1])]), (.tuple [.int 3, (.tuple [])]), (.tuple [.int 2, (.tuple [.int 1])]), (.tuple [.int 3, (.tuple [])]), (.tuple [.int 2, (.tuple [.int 0])]), (.tuple [.int 3, (.tuple [])]), (.tuple [.int 1, (.tuple [.int 0])]), (.tuple [.int 1, (.tuple [.int 0])]), (.tuple [.int 3, (.tuple [])]), (.tuple [.int 3, (.tuple [])]), (.tuple [.int 2, (.tuple [.int 1])]), (.tuple [.int 3, (.tuple [])]), (.tuple [.int 2, (.tuple [.int 0])]), (.tuple [.int 3, (.tuple [])]), (.tuple [.int 3, (.tuple [])])])])])
def bk25 : PyData := (.tuple [(.tuple [.int 0, .int 0, .int 1]), (.tuple [.int 2, (.tuple [(.tuple [.int 0, (.tuple [])]), (.tuple [.int 1, (.tuple [])]), (.tuple [.int 0, (.tuple [])]), (.tuple [.int 1, (.tuple [])]), (.tuple [.int 2, (.tuple [.int 0])])])])])
def bk26 : PyData := (.tuple [(.tuple [.int 0, .int 1, .int 0]), (.tuple [.int 1, (.tuple [(.tuple [.int 0, (.tuple [])]), (.tuple [.int 0, (.tuple [])]), (.tuple [.int 1, (.tuple [.int 0])]), (.tuple [.int 2, (.tuple [])]), (.tuple [.int 2, (.tuple [])])])])])
def bk27 : PyData := (.tuple [(.tuple [.int 1, .int 0, .int 0]), (.tuple [.int 0, (.tuple [(.tuple [.int 0, (.tuple [.int 0])]), (.tuple [.int 1, (.tuple [])]), (.tuple [.int 2, (.tuple [])]), (.tuple [.int 1, (.tuple [])]), (.tuple [.int 2, (.tuple [])])])])])
def bk28 : PyData := (.tuple [(.tuple [.int 1, .int 0]), (.tuple [.int 0, (.tuple [(.tuple [.int 0, (.tuple [.int 0])]), (.tuple [.int 1, (.tuple [])]), (.tuple [.int 1, (.tuple [])])])])])
def bookT : List PyData := [bk0, bk1, bk2, bk3, bk4, bk5, bk6, bk7, bk8, bk9, bk10, bk11, bk12, bk13, bk14, bk15, bk16, bk17, bk18, bk19, bk20, bk21, bk22, bk23, bk24, bk25, bk26, bk27, bk28]
def m_need_book : List PyData → Option PyData
  | [h, k] => if bookT.any fun b => sameL (asArgs b) [h, k] then some k else none
  | _ => none
theorem len_m_need_book (ds : List PyData) (z : PyData) (h : m_need_book ds = some z) : ds.length = 2 := by
  unfold m_need_book at h
  split at h
  · rfl
  · cases h
theorem m_need_ok (hb : ∀ b ∈ bookT, chkB b = true) (ds : List PyData) (z : PyData) (h : m_need_book ds = some z) : p_need_book ds = some z := by
  unfold m_need_book at h
  split at h
  · next h0 k =>
    split at h
    · next hc =>
      cases h
      obtain ⟨b, h1, h2⟩ := List.any_eq_true.mp hc
      have e := sameL_eq _ _ h2
      have c := hb b h1
      unfold chkB at c
      rw [e] at c
      dsimp only at c
      split at c
      · next z' e' =>
        rw [e', sameD_eq _ _ c]
      · cases c
    · cases h
  · cases h
end K50

set_option Elab.async false
set_option linter.all false
set_option maxRecDepth 100000
set_option maxHeartbeats 4000000
namespace K50
open PySem PySem.Spec PyProof.Rows L2
variable {P : Program} {w : World} {K : PySem.W.Frag} {mg : Str → Option Value} {base : Heap}

/-! mixed -/
def b_l_mixed : Sl → Option Out := (gSeq (gSet 0 (f2 opMod (fCall opInt (fCons (fVar 0) fNil)) (fC (.int 2147483647))))
  (gRet (f2 opMod (f2 opMul (f2 opMod (f2 opAdd (f2 opAdd (f2 opMul (fVar 0) (f2 opAdd (fC (.int 48271)) (f2 opMul (f2 opMul (fC (.int 2)) (fVar 1)) (fVar 1)))) (f2 opMul (fC (.int 69621)) (fVar 1))) (fC (.int 11))) (fC (.int 2147483647))) (fC (.int 69621))) (fC (.int 2147483629)))))
def l_mixed : List PyData → Option PyData := runF 2 2 b_l_mixed
theorem sc_l_mixed : FnScope ["_law_cell", "_law_k"] ["_law_cell", "_law_k"] (defScope (top 49)) := ⟨rfl, rfl, rfl, by decide +kernel, rfl, by decide +kernel, by decide +kernel⟩
theorem ok_l_mixed (T : Txt mg) (hF : Has K mg "_law_mixed" 49) : Cal P w K mg base 1 "_law_mixed" ["_law_cell", "_law_k"] (spF 2 l_mixed) :=
  cal_of (k := 0) (N := ["_law_cell", "_law_k"]) hF sc_l_mixed rfl (fun _ _ _ _ _ _ us hl => match us, hl with | [_, _], _ => rfl) (body := b_l_mixed) fun f cd A outer s H F o =>
  (s_cons (s_set (ds_set 0 sc_l_mixed.nd rfl (by first | exact Or.inl rfl | exact Or.inr rfl) (e2 (de_mod (ec (de_intc rfl T.int (da_fCons (de_var 0 (pv 0)) da_fNil))) de_int))))
  (s_one (s_ret (ds_ret (e2 (de_mod (e2 (de_mul (e2 (de_mod (e2 (de_add (e2 (de_add (e2 (de_mul (de_var 0 (pv 0)) (e2 (de_add de_int (e2 (de_mul (e2 (de_mul de_int (de_var 1 (pv 1)))) (de_var 1 (pv 1)))))))) (e2 (de_mul de_int (de_var 1 (pv 1)))))) de_int)) de_int)) de_int)) de_int))))))

/-! rows -/
def b_l_rows : Sl → Option Out := (gSeq (gSet 2 (fLst (fCons (fTup fNil) fNil)))
  (gSeq (gFor (.nm 3) (fRange (fVar 0))
  (gSeq (gSet 4 (fLst fNil))
  (gSeq (gFor (.nm 5) (fItems (fVar 2))
  (gSet 4 (f2 opAdd (fVar 4) (fComp (.nm 6) [6] fYes (f2 opAdd (fVar 5) (fTup (fCons (fVar 6) fNil))) (fRange (fVar 1))))))
  (gSet 2 (fCall opList (fCons (fVar 4) fNil))))))
  (gRet (fVar 2))))
def l_rows : List PyData → Option PyData := runF 2 7 b_l_rows
theorem sc_l_rows : FnScope ["_law_many_so", "_law_size", "_law_found", "_law_step", "_law_more", "_law_row", "_law_thing"] ["_law_many_so", "_law_size"] (defScope (top 54)) := ⟨rfl, rfl, rfl, by decide +kernel, rfl, by decide +kernel, by decide +kernel⟩
theorem ok_l_rows (T : Txt mg) (hF : Has K mg "_law_rows" 54) : Cal P w K mg base 1 "_law_rows" ["_law_many_so", "_law_size"] (spF 2 l_rows) :=
  cal_of (k := 0) (N := ["_law_many_so", "_law_size", "_law_found", "_law_step", "_law_more", "_law_row", "_law_thing"]) hF sc_l_rows rfl (fun _ _ _ _ _ _ us hl => match us, hl with | [_, _], _ => rfl) (body := b_l_rows) fun f cd A outer s H F o =>
  (s_cons (s_set (ds_set 2 sc_l_rows.nd rfl (by first | exact Or.inl rfl | exact Or.inr rfl) (de_fLst (da_fCons (de_fTup da_fNil) da_fNil))))
  (s_cons (s_for (ds_for (.nm 3) PassesOwn.never o.calm (di_range rfl T.range (de_var 0 (pv 0))) (pg_name (i := 3) sc_l_rows.nd rfl (by first | exact Or.inl rfl | exact Or.inr rfl))
  (s_cons (s_set (ds_set 4 sc_l_rows.nd rfl (by first | exact Or.inl rfl | exact Or.inr rfl) (de_fLst da_fNil)))
  (s_cons (s_for (ds_for (.nm 5) PassesOwn.never o.calm (di_seq (de_var 2 (pv 2))) (pg_name (i := 5) sc_l_rows.nd rfl (by first | exact Or.inl rfl | exact Or.inr rfl))
  (s_one (s_set (ds_set 4 sc_l_rows.nd rfl (by first | exact Or.inl rfl | exact Or.inr rfl) (e2 (de_add (de_var 4 (pv 4)) (v_comp (de_comp (.nm 6) [("_law_thing", 6)] o.calm sc_l_rows.nd (di_range rfl T.range (de_var 1 (pv 1))) (blkOk_by (N := ["_law_many_so", "_law_size", "_law_found", "_law_step", "_law_more", "_law_row", "_law_thing"]) (sc := defScope (top 54)) (by decide +kernel)) (fun _ _ _ _ _ => (pg_name (i := 6) sc_l_rows.nd rfl (by first | exact Or.inl rfl | exact Or.inr rfl))) (fun _ _ _ _ _ => ts_nil) (fun _ _ _ _ _ => (e2 (de_add (de_var 5 (pv 5)) (de_fTup (da_fCons (de_var 6 (pv 6)) da_fNil))))) (by decide))))))))))
  (s_one (s_set (ds_set 2 sc_l_rows.nd rfl (by first | exact Or.inl rfl | exact Or.inr rfl) (ec (de_list rfl T.list (da_fCons (de_var 4 (pv 4)) da_fNil))))))))))
  (s_one (s_ret (ds_ret (de_var 2 (pv 2)))))))

/-! inside -/
def b_l_inside : Sl → Option Out := (gSeq (gSet 2 (fLst fNil))
  (gSeq (gFor (.pr 3 4) (fEnum (fVar 0))
  (gSet 2 (f2 opAdd (fVar 2) (fComp (.nm 5) [5] fYes (fTup (fCons (fVar 3) (fCons (fVar 5) fNil))) (fItems (fCall l_rows (fCons (fVar 4) (fCons (fCall opLen (fCons (fVar 1) fNil)) fNil))))))))
  (gRet (fVar 2))))
def l_inside : List PyData → Option PyData := runF 2 6 b_l_inside
theorem sc_l_inside : FnScope ["_law_near_so", "_law_far_so", "_law_found", "_law_pick", "_law_wide", "_law_row"] ["_law_near_so", "_law_far_so"] (defScope (top 57)) := ⟨rfl, rfl, rfl, by decide +kernel, rfl, by decide +kernel, by decide +kernel⟩
theorem ok_l_inside (T : Txt mg) (hF : Has K mg "_law_inside" 57) (c_l_rows : Cal P w K mg base 1 "_law_rows" ["_law_many_so", "_law_size"] (spF 2 l_rows)) : Cal P w K mg base 2 "_law_inside" ["_law_near_so", "_law_far_so"] (spF 2 l_inside) :=
  cal_of (k := 1) (N := ["_law_near_so", "_law_far_so", "_law_found", "_law_pick", "_law_wide", "_law_row"]) hF sc_l_inside rfl (fun _ _ _ _ _ _ us hl => match us, hl with | [_, _], _ => rfl) (body := b_l_inside) fun f cd A outer s H F o =>
  (s_cons (s_set (ds_set 2 sc_l_inside.nd rfl (by first | exact Or.inl rfl | exact Or.inr rfl) (de_fLst da_fNil)))
  (s_cons (s_for (ds_for (.pr 3 4) PassesOwn.never o.calm (di_enum rfl T.enumerate (de_var 0 (pv 0))) (pg_pr o.calm (pg_name (i := 3) sc_l_inside.nd rfl (by first | exact Or.inl rfl | exact Or.inr rfl)) (pg_name (i := 4) sc_l_inside.nd rfl (by first | exact Or.inl rfl | exact Or.inr rfl)))
  (s_one (s_set (ds_set 2 sc_l_inside.nd rfl (by first | exact Or.inl rfl | exact Or.inr rfl) (e2 (de_add (de_var 2 (pv 2)) (v_comp (de_comp (.nm 5) [("_law_row", 5)] o.calm sc_l_inside.nd (di_seq (ec (de_call c_l_rows o (by decide) runF_len rfl (da_fCons (de_var 4 (pv 4)) (da_fCons (ec (de_len rfl T.len (da_fCons (de_var 1 (pv 1)) da_fNil))) da_fNil))))) (blkOk_by (N := ["_law_near_so", "_law_far_so", "_law_found", "_law_pick", "_law_wide", "_law_row"]) (sc := defScope (top 57)) (by decide +kernel)) (fun _ _ _ _ _ => (pg_name (i := 5) sc_l_inside.nd rfl (by first | exact Or.inl rfl | exact Or.inr rfl))) (fun _ _ _ _ _ => ts_nil) (fun _ _ _ _ _ => (de_fTup (da_fCons (de_var 3 (pv 3)) (da_fCons (de_var 5 (pv 5)) da_fNil)))) (by decide))))))))))
  (s_one (s_ret (ds_ret (de_var 2 (pv 2)))))))

/-! parts -/
def b_l_parts : Sl → Option Out := (gSeq (gParOD 4 5 (fC (.int 0)))
  (gSeq (gFor (.nm 3) (fItems (fVar 1))
  (gSeq (gApp 4 (fTup (fCons (fVar 3) (fCons (fCall opTuple (fCons (fSlice (fVar 2) (some (fVar 5)) (some (f2 opAdd (fVar 5) (f2 opIdx (fVar 0) (fVar 3))))) fNil)) fNil))))
  (gSet 5 (f2 opAdd (fVar 5) (f2 opIdx (fVar 0) (fVar 3))))))
  (gFrz 4 (gRet (fVar 4)))))
def l_parts : List PyData → Option PyData := runF 3 6 b_l_parts
theorem sc_l_parts : FnScope ["_law_near_so", "_law_row", "_law_things_so", "_law_pick", "_law_found", "_law_at"] ["_law_near_so", "_law_row", "_law_things_so"] (defScope (top 58)) := ⟨rfl, rfl, rfl, by decide +kernel, rfl, by decide +kernel, by decide +kernel⟩
theorem ok_l_parts (T : Txt mg) (hF : Has K mg "_law_parts" 58) : Cal P w K mg base 1 "_law_parts" ["_law_near_so", "_law_row", "_law_things_so"] (spF 3 l_parts) :=
  cal_of (k := 0) (N := ["_law_near_so", "_law_row", "_law_things_so", "_law_pick", "_law_found", "_law_at"]) hF sc_l_parts rfl (fun _ _ _ _ _ _ us hl => match us, hl with | [_, _, _], _ => rfl) (body := b_l_parts) fun f cd A outer s H F o =>
  (s_cons (s_parOD (ds_parOD 4 5 o.calm sc_l_parts.nd rfl rfl (by decide) rfl rfl pe_int (fun _ => .int _) rfl))
  (s_cons (s_for (ds_for (.nm 3) PassesOwn.never o.calm (di_seq (de_var 1 (pv 1))) (pg_name (i := 3) sc_l_parts.nd rfl (by first | exact Or.inl rfl | exact Or.inr rfl))
  (s_cons (s_app (ds_app 4 (pv 4) (de_fTup (da_fCons (de_var 3 (pv 3)) (da_fCons (ec (de_tuple rfl T.tuple (da_fCons (de_fSlice11 (de_var 2 (pv 2)) (de_var 5 (pv 5)) (e2 (de_add (de_var 5 (pv 5)) (e2 (de_idx (de_var 0 (pv 0)) (de_var 3 (pv 3))))))) da_fNil))) da_fNil)))))
  (s_one (s_set (ds_set 5 sc_l_parts.nd rfl (by first | exact Or.inl rfl | exact Or.inr rfl) (e2 (de_add (de_var 5 (pv 5)) (e2 (de_idx (de_var 0 (pv 0)) (de_var 3 (pv 3))))))))))))
  (s_frz 4 (s_one (s_ret (ds_ret (de_var 4 (pv 4))))))))

/-! flat -/
def b_l_flat : Sl → Option Out := (gSeq (gBind (.pr 5 6) (fTup (fCons (fTup fNil) (fCons (fTup fNil) fNil))))
  (gSeq (gFor (.nm 4) (fItems (fVar 3))
  (gSeq (gSet 5 (f2 opAdd (fVar 5) (fTup (fCons (f2 opIdx (fVar 4) (fC (.int 0))) fNil))))
  (gSet 6 (f2 opAdd (fVar 6) (f2 opIdx (fVar 4) (fC (.int 1)))))))
  (gRet (fCall ql_done (fCons (fVar 1) (fCons (fTup (fCons (f2 opIndex (fVar 0) (fTup (fCons (fVar 2) (fCons (fVar 5) fNil)))) (fCons (fVar 6) fNil))) fNil))))))
def l_flat : List PyData → Option PyData := runF 4 7 b_l_flat
theorem sc_l_flat : FnScope ["_law_inside_so", "_law_flat_so", "_law_pick", "_law_parts_here", "_law_part", "_law_row", "_law_things_so"] ["_law_inside_so", "_law_flat_so", "_law_pick", "_law_parts_here"] (defScope (top 59)) := ⟨rfl, rfl, rfl, by decide +kernel, rfl, by decide +kernel, by decide +kernel⟩
theorem ok_l_flat (T : Txt mg) (hF : Has K mg "_law_flat" 59) (c_ql_done : Cal P w K mg base 1 "_law_done" ["_law_table_so", "_law_filled_so"] (spF 2 ql_done)) : Cal P w K mg base 2 "_law_flat" ["_law_inside_so", "_law_flat_so", "_law_pick", "_law_parts_here"] (spF 4 l_flat) :=
  cal_of (k := 1) (N := ["_law_inside_so", "_law_flat_so", "_law_pick", "_law_parts_here", "_law_part", "_law_row", "_law_things_so"]) hF sc_l_flat rfl (fun _ _ _ _ _ _ us hl => match us, hl with | [_, _, _, _], _ => rfl) (body := b_l_flat) fun f cd A outer s H F o =>
  (s_cons (s_bind (ds_bind (.pr 5 6) (pg_pr o.calm (pg_name (i := 5) sc_l_flat.nd rfl (by first | exact Or.inl rfl | exact Or.inr rfl)) (pg_name (i := 6) sc_l_flat.nd rfl (by first | exact Or.inl rfl | exact Or.inr rfl))) (de_fTup (da_fCons (de_fTup da_fNil) (da_fCons (de_fTup da_fNil) da_fNil)))))
  (s_cons (s_for (ds_for (.nm 4) PassesOwn.never o.calm (di_seq (de_var 3 (pv 3))) (pg_name (i := 4) sc_l_flat.nd rfl (by first | exact Or.inl rfl | exact Or.inr rfl))
  (s_cons (s_set (ds_set 5 sc_l_flat.nd rfl (by first | exact Or.inl rfl | exact Or.inr rfl) (e2 (de_add (de_var 5 (pv 5)) (de_fTup (da_fCons (e2 (de_idx (de_var 4 (pv 4)) de_int)) da_fNil))))))
  (s_one (s_set (ds_set 6 sc_l_flat.nd rfl (by first | exact Or.inl rfl | exact Or.inr rfl) (e2 (de_add (de_var 6 (pv 6)) (e2 (de_idx (de_var 4 (pv 4)) de_int))))))))))
  (s_one (s_ret (ds_ret (ec (de_call c_ql_done o (by decide) len_ql_done rfl (da_fCons (de_var 1 (pv 1)) (da_fCons (de_fTup (da_fCons (v_index (de_index o.u65 (de_var 0 (pv 0)) (de_fTup (da_fCons (de_var 2 (pv 2)) (da_fCons (de_var 5 (pv 5)) da_fNil))))) (da_fCons (de_var 6 (pv 6)) da_fNil))) da_fNil)))))))))

end K50

set_option Elab.async false
set_option linter.all false
set_option maxRecDepth 100000
set_option maxHeartbeats 4000000
/-! the law's own parts and flattening in fewer steps -/
namespace K50
open PySem PySem.Spec PyProof.Rows L2
def partsL (ps th : List PyData) : List PyData → Nat → Option (List PyData)
  | [], _ => some []
  | .int (.ofNat o) :: r, a => match nthP ps o with
    | some (.int (.ofNat k)) => (partsL ps th r (a + k)).bind fun xs => some (.tuple [iN o, .tuple (sliceD th (some a) (some (a + k)))] :: xs)
    | _ => none
  | _, _ => none
abbrev bPrt : Sl → Option Out := gSeq (gApp 4 (fTup (fCons (fVar 3) (fCons (fCall opTuple (fCons (fSlice (fVar 2) (some (fVar 5)) (some (f2 opAdd (fVar 5) (f2 opIdx (fVar 0) (fVar 3))))) fNil)) fNil))))
  (gSet 5 (f2 opAdd (fVar 5) (f2 opIdx (fVar 0) (fVar 3))))
theorem prt_loop (ps th : List PyData) (s1 : Option EV) : ∀ {row xs : List PyData} (acc : List PyData) (a : Nat) (s : Option EV), partsL ps th row a = some xs → acc.length + row.length < 1000000 →
    ∃ a' s', gLoop (.nm 3) bPrt row [some (.d (.tuple ps)), s1, some (.d (.tuple th)), s, some (.own acc), some (.d (iN a))] =
      some (.nx [some (.d (.tuple ps)), s1, some (.d (.tuple th)), s', some (.own (acc ++ xs)), a'])
  | [], xs, acc, a, s, e, hl => by cases e; exact ⟨_, _, by simp [gLoop]; exact ⟨rfl, rfl⟩⟩
  | y :: row, xs, acc, a, s, e, hl => by
    unfold partsL at e
    split at e
    · next e1 => cases e1
    · next a _ _ i r e1 =>
      cases e1
      split at e
      · next k ek =>
        obtain ⟨ys, e2, e3⟩ := Option.bind_eq_some_iff.mp e
        cases e3
        rw [List.length_cons] at hl
        obtain ⟨a', s', e4⟩ := prt_loop ps th s1 (acc ++ [.tuple [iN i, .tuple (sliceD th (some a) (some (a + k)))]]) (a + k) (some (.d (iN i))) e2 (by rw [List.length_append, List.length_singleton]; omega)
        rw [List.append_assoc] at e4
        have ix : ∀ (o4 : Option EV), f2 opIdx (fVar 0) (fVar 3) [some (.d (.tuple ps)), s1, some (.d (.tuple th)), some (.d (iN i)), o4, some (.d (iN a))] = some (iN k) := fun o4 => q2 (x := .tuple ps) (y := iN i) rfl rfl (nthP_eq ek)
        have ad : ∀ (o4 : Option EV), f2 opAdd (fVar 5) (f2 opIdx (fVar 0) (fVar 3)) [some (.d (.tuple ps)), s1, some (.d (.tuple th)), some (.d (iN i)), o4, some (.d (iN a))] = some (iN (a + k)) := fun o4 => q2 (x := iN a) (y := iN k) rfl (ix o4) rfl
        have sl : fSlice (fVar 2) (some (fVar 5)) (some (f2 opAdd (fVar 5) (f2 opIdx (fVar 0) (fVar 3)))) [some (.d (.tuple ps)), s1, some (.d (.tuple th)), some (.d (iN i)), some (.own acc), some (.d (iN a))] = some (.tuple (sliceD th (some a) (some (a + k)))) := by
          unfold fSlice
          dsimp only
          rw [ad]
          rfl
        refine ⟨a', s', (q_step (ρ' := [some (.d (.tuple ps)), s1, some (.d (.tuple th)), some (.d (iN i)), some (.own acc), some (.d (iN a))]) rfl
          (q_seq (ρ' := [some (.d (.tuple ps)), s1, some (.d (.tuple th)), some (.d (iN i)), some (.own (acc ++ [.tuple [iN i, .tuple (sliceD th (some a) (some (a + k)))]])), some (.d (iN a))])
            (q_app rfl (q_tup (q_cons rfl (q_cons (q_call (q_cons sl rfl) rfl) rfl)) (le2 _ _)) (by omega)) (q_set (ad _)))).trans ?_⟩
        exact e4
      · cases e
    · cases e
def ql_parts : List PyData → Option PyData
  | [.tuple ps, .tuple row, .tuple th] => if Nat.ble row.length 1000 then (partsL ps th row 0).bind fun xs => some (.list xs) else none
  | _ => none
theorem ql_parts_ok (ds : List PyData) (z : PyData) (h : ql_parts ds = some z) : l_parts ds = some z := by
  unfold ql_parts at h
  split at h
  · next ps row th =>
    split at h
    · next hc =>
      have hc' := Nat.le_of_ble_eq_true hc
      obtain ⟨xs, e1, e2⟩ := Option.bind_eq_some_iff.mp h
      cases e2
      obtain ⟨a', s', e⟩ := prt_loop ps th (some (.d (.tuple row))) [] 0 none e1 (by simp; omega)
      rw [List.nil_append] at e
      refine q_run rfl (q_seq (ρ' := [some (.d (.tuple ps)), some (.d (.tuple row)), some (.d (.tuple th)), none, some (.own []), some (.d (iN 0))]) rfl (q_seq (q_for rfl e) ?_))
      rfl
    · cases h
  · cases h
theorem len_ql_parts (ds : List PyData) (z : PyData) (h : ql_parts ds = some z) : ds.length = 3 := runF_len ds z (ql_parts_ok ds z h)
/-! flattening -/
abbrev bFlt : Sl → Option Out := gSeq (gSet 5 (f2 opAdd (fVar 5) (fTup (fCons (f2 opIdx (fVar 4) (fC (.int 0))) fNil)))) (gSet 6 (f2 opAdd (fVar 6) (f2 opIdx (fVar 4) (fC (.int 1)))))
theorem flt_loop (a b c d : Option EV) : ∀ {fs : List PyData} {y : List Nat × List PyData} (rw th : List PyData) (s : Option EV), splitF fs = some y → rw.length + y.1.length ≤ 1000000 → th.length + y.2.length ≤ 1000000 →
    ∃ s', gLoop (.nm 4) bFlt fs [a, b, c, d, s, some (.d (.tuple rw)), some (.d (.tuple th))] = some (.nx [a, b, c, d, s', some (.d (.tuple (rw ++ y.1.map iN))), some (.d (.tuple (th ++ y.2)))])
  | [], y, rw, th, s, h, _, _ => by cases h; exact ⟨s, by simp [gLoop]⟩
  | f :: fs, y, rw, th, s, h, hl, hl2 => by
    unfold splitF at h
    split at h
    · next e => cases e
    · next i t r e =>
      cases e
      obtain ⟨y1, h1, h2⟩ := Option.bind_eq_some_iff.mp h
      cases h2
      dsimp only at hl hl2 ⊢
      rw [List.length_append] at hl2
      rw [List.length_cons] at hl
      obtain ⟨s', e⟩ := flt_loop a b c d (rw ++ [iN i]) (th ++ t) (some (.d (.tuple [iN i, .tuple t]))) h1 (by rw [List.length_append, List.length_singleton]; omega) (by rw [List.length_append]; omega)
      rw [List.append_assoc, List.append_assoc] at e
      have a1 : opAdd (.tuple rw) (.tuple [iN i]) = some (.tuple (rw ++ [iN i])) := if_pos (by rw [List.length_singleton]; omega)
      have a2 : opAdd (.tuple th) (.tuple t) = some (.tuple (th ++ t)) := if_pos (by omega)
      refine ⟨s', (q_step (ρ' := [a, b, c, d, some (.d (.tuple [iN i, .tuple t])), some (.d (.tuple rw)), some (.d (.tuple th))]) rfl (q_seq (q_set (q2 (y := .tuple [iN i]) rfl (q_tup (q_cons rfl rfl) (show 1 ≤ 1000000 by decide)) a1)) (q_set (q2 (y := .tuple t) rfl rfl a2)))).trans ?_⟩
      exact e
    · cases h
def seqOf : PyData → Option (List PyData)
  | .tuple xs => some xs
  | .list xs => some xs
  | _ => none
def ql_flat : List PyData → Option PyData
  | [ins, .tuple fl, .int (.ofNat p), parts] => (seqOf parts).bind fun fs => (splitF fs).bind fun y => if Nat.ble y.1.length 1000 && Nat.ble y.2.length 1000 then
      (opIndex ins (.tuple [iN p, .tuple (y.1.map iN)])).bind fun k => ql_done [.tuple fl, .tuple [k, .tuple y.2]] else none
  | _ => none
theorem ql_flat_ok (ds : List PyData) (z : PyData) (h : ql_flat ds = some z) : l_flat ds = some z := by
  unfold ql_flat at h
  split at h
  · next ins fl p parts =>
    obtain ⟨fs, e1, h⟩ := Option.bind_eq_some_iff.mp h
    obtain ⟨y, e2, h⟩ := Option.bind_eq_some_iff.mp h
    split at h
    · next hc =>
      simp only [Bool.and_eq_true, Nat.ble_eq] at hc
      obtain ⟨k, e3, e4⟩ := Option.bind_eq_some_iff.mp h
      have it : fItems (fVar 3) [some (.d ins), some (.d (.tuple fl)), some (.d (iN p)), some (.d parts), none, some (.d (.tuple [])), some (.d (.tuple []))] = some fs := by
        unfold seqOf at e1
        split at e1
        · cases e1; rfl
        · cases e1; rfl
        · cases e1
      obtain ⟨s', e⟩ := flt_loop (some (.d ins)) (some (.d (.tuple fl))) (some (.d (iN p))) (some (.d parts)) [] [] none e2 (by simp; omega) (by simp; omega)
      rw [List.nil_append, List.nil_append] at e
      exact q_run rfl (q_seq (q_bind (d := .tuple [.tuple [], .tuple []]) rfl rfl) (q_seq (q_for it e) (q_ret (q_call (q_cons rfl (q_cons (q_tup (q_cons (q2 rfl (q_tup (q_cons rfl (q_cons rfl rfl)) (le2 _ _)) e3) (q_cons rfl rfl)) (le2 _ _)) rfl)) e4))))
    · cases h
  · cases h
theorem len_ql_flat (ds : List PyData) (z : PyData) (h : ql_flat ds = some z) : ds.length = 4 := runF_len ds z (ql_flat_ok ds z h)
end K50

set_option Elab.async false
set_option linter.all false
set_option maxRecDepth 100000
set_option maxHeartbeats 4000000
namespace K50
open PySem PySem.Spec PyProof.Rows L2
variable {P : Program} {w : World} {K : PySem.W.Frag} {mg : Str → Option Value} {base : Heap}

/-! is_map_so -/
def b_p_is_map_so : Sl → Option Out := (gSeq (gBind (.pr 4 5) (fVar 0))
  (gSeq (gIf (fT (f2 opNe (f2 opIdx (f2 opIdx (fVar 3) (f2 opIdx (fVar 1) (fC (.int 0)))) (fC (.int 0))) (f2 opIdx (fVar 2) (fC (.int 0)))))
  (gRet (fC (.bool false)))
  gNext)
  (gSeq (gFor (.pr 6 7) (fItems (fCall p_into_so (fCons (fVar 4) (fCons (fVar 4) fNil))))
  (gSeq (gSet 8 (fCall q_leaves_of (fCons (fVar 4) (fCons (fVar 7) fNil))))
  (gSeq (gSet 9 (fCall q_done_so (fCons (fVar 3) (fCons (fCall q_flat_so (fCons (fVar 4) (fCons (f2 opIdx (fVar 1) (fC (.int 1))) (fCons (fVar 6) (fCons (fVar 8) fNil))))) fNil))))
  (gSeq (gBind (.pr 10 11) (fCall q_done_so (fCons (fVar 3) (fCons (fTup (fCons (fVar 6) (fCons (fCall opTuple (fCons (fComp (.nm 12) [12] fYes (fCall q_done_so (fCons (fVar 3) (fCons (fVar 12) fNil))) (fItems (fVar 8))) fNil)) fNil))) fNil))))
  (gIf (fT (f2 opNe (fVar 9) (fCall q_flat_so (fCons (fVar 5) (fCons (f2 opIdx (fVar 2) (fC (.int 1))) (fCons (fVar 10) (fCons (fVar 11) fNil)))))))
  (gRet (fC (.bool false)))
  gNext)))))
  (gRet (fC (.bool true))))))
def p_is_map_so : List PyData → Option PyData := runF 4 13 b_p_is_map_so
theorem sc_p_is_map_so : FnScope ["holders", "book", "other", "program", "holder", "goal", "shape", "inner", "leaves", "near", "led", "fillings", "leaf"] ["holders", "book", "other", "program"] (defScope (top 44)) := ⟨rfl, rfl, rfl, by decide +kernel, rfl, by decide +kernel, by decide +kernel⟩
theorem ok_p_is_map_so (T : Txt mg) (hF : Has K mg "is_map_so" 44) (c_p_into_so : Cal P w K mg base 2 "into_so" ["one", "other"] (spF 2 p_into_so)) (c_q_leaves_of : Cal P w K mg base 1 "leaves_of" ["holder", "shapes"] (spF 2 q_leaves_of)) (c_q_flat_so : Cal P w K mg base 3 "flat_so" ["holder", "flat", "shape", "fillings"] (spF 4 q_flat_so)) (c_q_done_so : Cal P w K mg base 1 "done_so" ["program", "filling"] (spF 2 q_done_so)) : Cal P w K mg base 4 "is_map_so" ["holders", "book", "other", "program"] (spF 4 p_is_map_so) :=
  cal_of (k := 3) (N := ["holders", "book", "other", "program", "holder", "goal", "shape", "inner", "leaves", "near", "led", "fillings", "leaf"]) hF sc_p_is_map_so rfl (fun _ _ _ _ _ _ us hl => match us, hl with | [_, _, _, _], _ => rfl) (body := b_p_is_map_so) fun f cd A outer s H F o =>
  (s_cons (s_bind (ds_bind (.pr 4 5) (pg_pr o.calm (pg_name (i := 4) sc_p_is_map_so.nd rfl (by first | exact Or.inl rfl | exact Or.inr rfl)) (pg_name (i := 5) sc_p_is_map_so.nd rfl (by first | exact Or.inl rfl | exact Or.inr rfl))) (de_var 0 (pv 0))))
  (s_cons (s_if (ds_if (t2 (dt_ne o.u64 (e2 (de_idx (e2 (de_idx (de_var 3 (pv 3)) (e2 (de_idx (de_var 1 (pv 1)) de_int)))) de_int)) (e2 (de_idx (de_var 2 (pv 2)) de_int))))
  (s_one (s_ret (ds_ret de_bl)))
  s_nil))
  (s_cons (s_for (ds_for (.pr 6 7) PassesOwn.never o.calm (di_seq (ec (de_call c_p_into_so o (by decide) runF_len rfl (da_fCons (de_var 4 (pv 4)) (da_fCons (de_var 4 (pv 4)) da_fNil))))) (pg_pr o.calm (pg_name (i := 6) sc_p_is_map_so.nd rfl (by first | exact Or.inl rfl | exact Or.inr rfl)) (pg_name (i := 7) sc_p_is_map_so.nd rfl (by first | exact Or.inl rfl | exact Or.inr rfl)))
  (s_cons (s_set (ds_set 8 sc_p_is_map_so.nd rfl (by first | exact Or.inl rfl | exact Or.inr rfl) (ec (de_call c_q_leaves_of o (by decide) len_q_leaves_of rfl (da_fCons (de_var 4 (pv 4)) (da_fCons (de_var 7 (pv 7)) da_fNil))))))
  (s_cons (s_set (ds_set 9 sc_p_is_map_so.nd rfl (by first | exact Or.inl rfl | exact Or.inr rfl) (ec (de_call c_q_done_so o (by decide) len_q_done_so rfl (da_fCons (de_var 3 (pv 3)) (da_fCons (ec (de_call c_q_flat_so o (by decide) len_q_flat_so rfl (da_fCons (de_var 4 (pv 4)) (da_fCons (e2 (de_idx (de_var 1 (pv 1)) de_int)) (da_fCons (de_var 6 (pv 6)) (da_fCons (de_var 8 (pv 8)) da_fNil)))))) da_fNil))))))
  (s_cons (s_bind (ds_bind (.pr 10 11) (pg_pr o.calm (pg_name (i := 10) sc_p_is_map_so.nd rfl (by first | exact Or.inl rfl | exact Or.inr rfl)) (pg_name (i := 11) sc_p_is_map_so.nd rfl (by first | exact Or.inl rfl | exact Or.inr rfl))) (ec (de_call c_q_done_so o (by decide) len_q_done_so rfl (da_fCons (de_var 3 (pv 3)) (da_fCons (de_fTup (da_fCons (de_var 6 (pv 6)) (da_fCons (ec (de_tuple rfl T.tuple (da_fCons (v_comp (de_comp (.nm 12) [("leaf", 12)] o.calm sc_p_is_map_so.nd (di_seq (de_var 8 (pv 8))) (blkOk_by (N := ["holders", "book", "other", "program", "holder", "goal", "shape", "inner", "leaves", "near", "led", "fillings", "leaf"]) (sc := defScope (top 44)) (by decide +kernel)) (fun _ _ _ _ _ => (pg_name (i := 12) sc_p_is_map_so.nd rfl (by first | exact Or.inl rfl | exact Or.inr rfl))) (fun _ _ _ _ _ => ts_nil) (fun _ _ _ _ _ => (ec (de_call c_q_done_so o.blk (by decide) len_q_done_so rfl (da_fCons (de_var 3 (pv 3)) (da_fCons (de_var 12 (pv 12)) da_fNil))))) (by decide))) da_fNil))) da_fNil))) da_fNil))))))
  (s_one (s_if (ds_if (t2 (dt_ne o.u64 (de_var 9 (pv 9)) (ec (de_call c_q_flat_so o (by decide) len_q_flat_so rfl (da_fCons (de_var 5 (pv 5)) (da_fCons (e2 (de_idx (de_var 2 (pv 2)) de_int)) (da_fCons (de_var 10 (pv 10)) (da_fCons (de_var 11 (pv 11)) da_fNil))))))))
  (s_one (s_ret (ds_ret de_bl)))
  s_nil))))))))
  (s_one (s_ret (ds_ret de_bl))))))

/-! is_book_map -/
def b_p_is_book_map : Sl → Option Out := (gSeq (gDrop (fCall m_need_book (fCons (fVar 0) (fCons (fVar 1) fNil))))
  (gSeq (gDrop (fCall m_need_book (fCons (fVar 2) (fCons (fVar 3) fNil))))
  (gSeq (gDrop (fCall p_check_program (fCons (fVar 0) (fCons (fVar 2) (fCons (fVar 4) fNil)))))
  (gRet (fCall p_is_map_so (fCons (fTup (fCons (fVar 0) (fCons (fVar 2) fNil))) (fCons (fVar 1) (fCons (fVar 3) (fCons (fVar 4) fNil)))))))))
def p_is_book_map : List PyData → Option PyData := runF 5 5 b_p_is_book_map
theorem sc_p_is_book_map : FnScope ["holder", "book", "goal", "other", "program"] ["holder", "book", "goal", "other", "program"] (defScope (top 45)) := ⟨rfl, rfl, rfl, by decide +kernel, rfl, by decide +kernel, by decide +kernel⟩
theorem ok_p_is_book_map (T : Txt mg) (hF : Has K mg "is_book_map" 45) (c_m_need_book : Cal P w K mg base 8 "need_book" ["holder", "book"] (spF 2 m_need_book)) (c_p_check_program : Cal P w K mg base 3 "check_program" ["holder", "goal", "program"] (spF 3 p_check_program)) (c_p_is_map_so : Cal P w K mg base 4 "is_map_so" ["holders", "book", "other", "program"] (spF 4 p_is_map_so)) : Cal P w K mg base 9 "is_book_map" ["holder", "book", "goal", "other", "program"] (spF 5 p_is_book_map) :=
  cal_of (k := 8) (N := ["holder", "book", "goal", "other", "program"]) hF sc_p_is_book_map rfl (fun _ _ _ _ _ _ us hl => match us, hl with | [_, _, _, _, _], _ => rfl) (body := b_p_is_book_map) fun f cd A outer s H F o =>
  (s_cons (s_drop (ds_expr (ec (de_call c_m_need_book o (by decide) len_m_need_book rfl (da_fCons (de_var 0 (pv 0)) (da_fCons (de_var 1 (pv 1)) da_fNil))))))
  (s_cons (s_drop (ds_expr (ec (de_call c_m_need_book o (by decide) len_m_need_book rfl (da_fCons (de_var 2 (pv 2)) (da_fCons (de_var 3 (pv 3)) da_fNil))))))
  (s_cons (s_drop (ds_expr (ec (de_call c_p_check_program o (by decide) runF_len rfl (da_fCons (de_var 0 (pv 0)) (da_fCons (de_var 2 (pv 2)) (da_fCons (de_var 4 (pv 4)) da_fNil)))))))
  (s_one (s_ret (ds_ret (ec (de_call c_p_is_map_so o (by decide) runF_len rfl (da_fCons (de_fTup (da_fCons (de_var 0 (pv 0)) (da_fCons (de_var 2 (pv 2)) da_fNil))) (da_fCons (de_var 1 (pv 1)) (da_fCons (de_var 3 (pv 3)) (da_fCons (de_var 4 (pv 4)) da_fNil))))))))))))
theorem okK_p_is_book_map (T : Txt mg) (hF : Has K mg "is_book_map" 45) (c_m_need_book : Cal P w K mg base 8 "need_book" ["holder", "book"] (spF 2 m_need_book)) (c_p_check_program : Cal P w K mg base 3 "check_program" ["holder", "goal", "program"] (spF 3 p_check_program)) (c_p_is_map_so : Cal P w K mg base 4 "is_map_so" ["holders", "book", "other", "program"] (spF 4 p_is_map_so)) : CalK P w K mg base 9 "is_book_map" ["holder", "book", "goal", "other", "program"] ["goal", "holder", "book", "program", "other"] [1, 2, 0, 4, 3] (spF 5 p_is_book_map) :=
  calK_of (k := 8) (N := ["holder", "book", "goal", "other", "program"]) hF sc_p_is_book_map rfl (fun _ _ _ _ _ _ ws hl => match ws, hl with | [], hl => by cases hl | [_], hl => by cases hl | [_, _], hl => by cases hl | [_, _, _], hl => by cases hl | [_, _, _, _], hl => by cases hl | _ :: _ :: _ :: _ :: _ :: _, _ => rfl) (body := b_p_is_book_map) fun f cd A outer s H F o =>
  (s_cons (s_drop (ds_expr (ec (de_call c_m_need_book o (by decide) len_m_need_book rfl (da_fCons (de_var 0 (pv 0)) (da_fCons (de_var 1 (pv 1)) da_fNil))))))
  (s_cons (s_drop (ds_expr (ec (de_call c_m_need_book o (by decide) len_m_need_book rfl (da_fCons (de_var 2 (pv 2)) (da_fCons (de_var 3 (pv 3)) da_fNil))))))
  (s_cons (s_drop (ds_expr (ec (de_call c_p_check_program o (by decide) runF_len rfl (da_fCons (de_var 0 (pv 0)) (da_fCons (de_var 2 (pv 2)) (da_fCons (de_var 4 (pv 4)) da_fNil)))))))
  (s_one (s_ret (ds_ret (ec (de_call c_p_is_map_so o (by decide) runF_len rfl (da_fCons (de_fTup (da_fCons (de_var 0 (pv 0)) (da_fCons (de_var 2 (pv 2)) da_fNil))) (da_fCons (de_var 1 (pv 1)) (da_fCons (de_var 3 (pv 3)) (da_fCons (de_var 4 (pv 4)) da_fNil))))))))))))

/-! product_row -/
def b_p_product_row : Sl → Option Out := (gSeq (gBind (.pr 7 8) (fVar 0))
  (gSeq (gParOO 9 10)
  (gSeq (gSet 4 (f2 opFloor (fVar 2) (fCall opLen (fCons (fVar 8) fNil))))
  (gSeq (gFor (.pr 11 12) (fEnum (fVar 3))
  (gSeq (gSet 13 (f2 opFloor (f2 opIdx (fVar 12) (fC (.int 0))) (fCall opLen (fCons (fVar 8) fNil))))
  (gIf (fT (f2 opLt (fVar 11) (f2 opIdx (fVar 7) (fVar 4))))
  (gApp 9 (fTup (fCons (fVar 13) (fCons (fSlice (f2 opIdx (fVar 12) (fC (.int 1))) none (some (f2 opIdx (fVar 7) (fVar 13)))) fNil))))
  (gApp 10 (fTup (fCons (f2 opSub (f2 opIdx (fVar 12) (fC (.int 0))) (f2 opMul (fVar 13) (fCall opLen (fCons (fVar 8) fNil)))) (fCons (fSlice (f2 opIdx (fVar 12) (fC (.int 1))) (some (f2 opIdx (fVar 7) (fVar 13))) none) fNil)))))))
  (gFrz 9 (gSeq (gSet 5 (fCall q_flat_so (fCons (fVar 7) (fCons (f2 opIdx (fVar 1) (fC (.int 0))) (fCons (fVar 4) (fCons (fCall opTuple (fCons (fVar 9) fNil)) fNil))))))
  (gFrz 10 (gSeq (gSet 6 (fCall q_flat_so (fCons (fVar 8) (fCons (f2 opIdx (fVar 1) (fC (.int 1))) (fCons (f2 opSub (fVar 2) (f2 opMul (fVar 4) (fCall opLen (fCons (fVar 8) fNil)))) (fCons (fCall opTuple (fCons (fVar 10) fNil)) fNil))))))
  (gRet (fTup (fCons (f2 opAdd (f2 opMul (f2 opIdx (fVar 5) (fC (.int 0))) (fCall opLen (fCons (fVar 8) fNil))) (f2 opIdx (fVar 6) (fC (.int 0)))) (fCons (f2 opAdd (f2 opIdx (fVar 5) (fC (.int 1))) (f2 opIdx (fVar 6) (fC (.int 1)))) fNil))))))))))))
def p_product_row : List PyData → Option PyData := runF 4 14 b_p_product_row
theorem sc_p_product_row : FnScope ["holders", "flats", "shape", "leaves", "first", "one", "two", "holder", "goal", "near", "far", "at", "leaf", "number"] ["holders", "flats", "shape", "leaves"] (defScope (top 46)) := ⟨rfl, rfl, rfl, by decide +kernel, rfl, by decide +kernel, by decide +kernel⟩
theorem ok_p_product_row (T : Txt mg) (hF : Has K mg "product_row" 46) (c_q_flat_so : Cal P w K mg base 3 "flat_so" ["holder", "flat", "shape", "fillings"] (spF 4 q_flat_so)) : Cal P w K mg base 4 "product_row" ["holders", "flats", "shape", "leaves"] (spF 4 p_product_row) :=
  cal_of (k := 3) (N := ["holders", "flats", "shape", "leaves", "first", "one", "two", "holder", "goal", "near", "far", "at", "leaf", "number"]) hF sc_p_product_row rfl (fun _ _ _ _ _ _ us hl => match us, hl with | [_, _, _, _], _ => rfl) (body := b_p_product_row) fun f cd A outer s H F o =>
  (s_cons (s_bind (ds_bind (.pr 7 8) (pg_pr o.calm (pg_name (i := 7) sc_p_product_row.nd rfl (by first | exact Or.inl rfl | exact Or.inr rfl)) (pg_name (i := 8) sc_p_product_row.nd rfl (by first | exact Or.inl rfl | exact Or.inr rfl))) (de_var 0 (pv 0))))
  (s_cons (s_parOO (ds_parOO 9 10 o.calm sc_p_product_row.nd rfl rfl (by decide) rfl rfl rfl))
  (s_cons (s_set (ds_set 4 sc_p_product_row.nd rfl (by first | exact Or.inl rfl | exact Or.inr rfl) (e2 (de_floor (de_var 2 (pv 2)) (ec (de_len rfl T.len (da_fCons (de_var 8 (pv 8)) da_fNil)))))))
  (s_cons (s_for (ds_for (.pr 11 12) PassesOwn.never o.calm (di_enum rfl T.enumerate (de_var 3 (pv 3))) (pg_pr o.calm (pg_name (i := 11) sc_p_product_row.nd rfl (by first | exact Or.inl rfl | exact Or.inr rfl)) (pg_name (i := 12) sc_p_product_row.nd rfl (by first | exact Or.inl rfl | exact Or.inr rfl)))
  (s_cons (s_set (ds_set 13 sc_p_product_row.nd rfl (by first | exact Or.inl rfl | exact Or.inr rfl) (e2 (de_floor (e2 (de_idx (de_var 12 (pv 12)) de_int)) (ec (de_len rfl T.len (da_fCons (de_var 8 (pv 8)) da_fNil)))))))
  (s_one (s_if (ds_if (t2 (dt_lt (de_var 11 (pv 11)) (e2 (de_idx (de_var 7 (pv 7)) (de_var 4 (pv 4))))))
  (s_one (s_app (ds_app 9 (pv 9) (de_fTup (da_fCons (de_var 13 (pv 13)) (da_fCons (de_fSlice01 (e2 (de_idx (de_var 12 (pv 12)) de_int)) (e2 (de_idx (de_var 7 (pv 7)) (de_var 13 (pv 13))))) da_fNil))))))
  (s_one (s_app (ds_app 10 (pv 10) (de_fTup (da_fCons (e2 (de_sub (e2 (de_idx (de_var 12 (pv 12)) de_int)) (e2 (de_mul (de_var 13 (pv 13)) (ec (de_len rfl T.len (da_fCons (de_var 8 (pv 8)) da_fNil))))))) (da_fCons (de_fSlice10 (e2 (de_idx (de_var 12 (pv 12)) de_int)) (e2 (de_idx (de_var 7 (pv 7)) (de_var 13 (pv 13))))) da_fNil))))))))))))
  (s_frz 9 (s_cons (s_set (ds_set 5 sc_p_product_row.nd rfl (by first | exact Or.inl rfl | exact Or.inr rfl) (ec (de_call c_q_flat_so o (by decide) len_q_flat_so rfl (da_fCons (de_var 7 (pv 7)) (da_fCons (e2 (de_idx (de_var 1 (pv 1)) de_int)) (da_fCons (de_var 4 (pv 4)) (da_fCons (ec (de_tuple rfl T.tuple (da_fCons (de_var 9 (pv 9)) da_fNil))) da_fNil))))))))
  (s_frz 10 (s_cons (s_set (ds_set 6 sc_p_product_row.nd rfl (by first | exact Or.inl rfl | exact Or.inr rfl) (ec (de_call c_q_flat_so o (by decide) len_q_flat_so rfl (da_fCons (de_var 8 (pv 8)) (da_fCons (e2 (de_idx (de_var 1 (pv 1)) de_int)) (da_fCons (e2 (de_sub (de_var 2 (pv 2)) (e2 (de_mul (de_var 4 (pv 4)) (ec (de_len rfl T.len (da_fCons (de_var 8 (pv 8)) da_fNil))))))) (da_fCons (ec (de_tuple rfl T.tuple (da_fCons (de_var 10 (pv 10)) da_fNil))) da_fNil))))))))
  (s_one (s_ret (ds_ret (de_fTup (da_fCons (e2 (de_add (e2 (de_mul (e2 (de_idx (de_var 5 (pv 5)) de_int)) (ec (de_len rfl T.len (da_fCons (de_var 8 (pv 8)) da_fNil))))) (e2 (de_idx (de_var 6 (pv 6)) de_int)))) (da_fCons (e2 (de_add (e2 (de_idx (de_var 5 (pv 5)) de_int)) (e2 (de_idx (de_var 6 (pv 6)) de_int)))) da_fNil))))))))))))))

/-! product_book -/
def b_p_product_book : Sl → Option Out := (gSeq (gDrop (fCall m_need_book (fCons (fVar 0) (fCons (fVar 1) fNil))))
  (gSeq (gDrop (fCall m_need_book (fCons (fVar 2) (fCons (fVar 3) fNil))))
  (gSeq (gSet 4 (fCall p_multiplied (fCons (fVar 0) (fCons (fVar 2) fNil))))
  (gSeq (gDrop (fCall p_check_twice (fCons (fVar 4) fNil)))
  (gSeq (gSetOwn 5 fNil)
  (gSeq (gFor (.pr 6 7) (fItems (fCall p_into_so (fCons (fVar 4) (fCons (fVar 4) fNil))))
  (gApp 5 (fCall p_product_row (fCons (fTup (fCons (fVar 0) (fCons (fVar 2) fNil))) (fCons (fTup (fCons (f2 opIdx (fVar 1) (fC (.int 1))) (fCons (f2 opIdx (fVar 3) (fC (.int 1))) fNil))) (fCons (fVar 6) (fCons (fCall q_leaves_of (fCons (fVar 4) (fCons (fVar 7) fNil))) fNil)))))))
  (gFrz 5 (gRet (fTup (fCons (f2 opAdd (f2 opMul (f2 opIdx (fVar 1) (fC (.int 0))) (fCall opLen (fCons (fVar 2) fNil))) (f2 opIdx (fVar 3) (fC (.int 0)))) (fCons (fCall opTuple (fCons (fVar 5) fNil)) fNil)))))))))))
def p_product_book : List PyData → Option PyData := runF 4 8 b_p_product_book
theorem sc_p_product_book : FnScope ["holder", "book", "goal", "other", "product", "found", "shape", "inner"] ["holder", "book", "goal", "other"] (defScope (top 47)) := ⟨rfl, rfl, rfl, by decide +kernel, rfl, by decide +kernel, by decide +kernel⟩
theorem ok_p_product_book (T : Txt mg) (hF : Has K mg "product_book" 47) (c_m_need_book : Cal P w K mg base 8 "need_book" ["holder", "book"] (spF 2 m_need_book)) (c_p_multiplied : Cal P w K mg base 4 "multiplied" ["one", "other"] (spF 2 p_multiplied)) (c_p_check_twice : Cal P w K mg base 3 "check_twice" ["holder"] (spF 1 p_check_twice)) (c_p_into_so : Cal P w K mg base 2 "into_so" ["one", "other"] (spF 2 p_into_so)) (c_q_leaves_of : Cal P w K mg base 1 "leaves_of" ["holder", "shapes"] (spF 2 q_leaves_of)) (c_p_product_row : Cal P w K mg base 4 "product_row" ["holders", "flats", "shape", "leaves"] (spF 4 p_product_row)) : Cal P w K mg base 9 "product_book" ["holder", "book", "goal", "other"] (spF 4 p_product_book) :=
  cal_of (k := 8) (N := ["holder", "book", "goal", "other", "product", "found", "shape", "inner"]) hF sc_p_product_book rfl (fun _ _ _ _ _ _ us hl => match us, hl with | [_, _, _, _], _ => rfl) (body := b_p_product_book) fun f cd A outer s H F o =>
  (s_cons (s_drop (ds_expr (ec (de_call c_m_need_book o (by decide) len_m_need_book rfl (da_fCons (de_var 0 (pv 0)) (da_fCons (de_var 1 (pv 1)) da_fNil))))))
  (s_cons (s_drop (ds_expr (ec (de_call c_m_need_book o (by decide) len_m_need_book rfl (da_fCons (de_var 2 (pv 2)) (da_fCons (de_var 3 (pv 3)) da_fNil))))))
  (s_cons (s_set (ds_set 4 sc_p_product_book.nd rfl (by first | exact Or.inl rfl | exact Or.inr rfl) (ec (de_call c_p_multiplied o (by decide) runF_len rfl (da_fCons (de_var 0 (pv 0)) (da_fCons (de_var 2 (pv 2)) da_fNil))))))
  (s_cons (s_drop (ds_expr (ec (de_call c_p_check_twice o (by decide) runF_len rfl (da_fCons (de_var 4 (pv 4)) da_fNil)))))
  (s_cons (s_setOwn (ds_setOwn 5 sc_p_product_book.nd rfl (by first | exact Or.inl rfl | exact Or.inr rfl) da_fNil))
  (s_cons (s_for (ds_for (.pr 6 7) PassesOwn.never o.calm (di_seq (ec (de_call c_p_into_so o (by decide) runF_len rfl (da_fCons (de_var 4 (pv 4)) (da_fCons (de_var 4 (pv 4)) da_fNil))))) (pg_pr o.calm (pg_name (i := 6) sc_p_product_book.nd rfl (by first | exact Or.inl rfl | exact Or.inr rfl)) (pg_name (i := 7) sc_p_product_book.nd rfl (by first | exact Or.inl rfl | exact Or.inr rfl)))
  (s_one (s_app (ds_app 5 (pv 5) (ec (de_call c_p_product_row o (by decide) runF_len rfl (da_fCons (de_fTup (da_fCons (de_var 0 (pv 0)) (da_fCons (de_var 2 (pv 2)) da_fNil))) (da_fCons (de_fTup (da_fCons (e2 (de_idx (de_var 1 (pv 1)) de_int)) (da_fCons (e2 (de_idx (de_var 3 (pv 3)) de_int)) da_fNil))) (da_fCons (de_var 6 (pv 6)) (da_fCons (ec (de_call c_q_leaves_of o (by decide) len_q_leaves_of rfl (da_fCons (de_var 4 (pv 4)) (da_fCons (de_var 7 (pv 7)) da_fNil)))) da_fNil)))))))))))
  (s_frz 5 (s_one (s_ret (ds_ret (de_fTup (da_fCons (e2 (de_add (e2 (de_mul (e2 (de_idx (de_var 1 (pv 1)) de_int)) (ec (de_len rfl T.len (da_fCons (de_var 2 (pv 2)) da_fNil))))) (e2 (de_idx (de_var 3 (pv 3)) de_int)))) (da_fCons (ec (de_tuple rfl T.tuple (da_fCons (de_var 5 (pv 5)) da_fNil))) da_fNil)))))))))))))
theorem okK_p_product_book (T : Txt mg) (hF : Has K mg "product_book" 47) (c_m_need_book : Cal P w K mg base 8 "need_book" ["holder", "book"] (spF 2 m_need_book)) (c_p_multiplied : Cal P w K mg base 4 "multiplied" ["one", "other"] (spF 2 p_multiplied)) (c_p_check_twice : Cal P w K mg base 3 "check_twice" ["holder"] (spF 1 p_check_twice)) (c_p_into_so : Cal P w K mg base 2 "into_so" ["one", "other"] (spF 2 p_into_so)) (c_q_leaves_of : Cal P w K mg base 1 "leaves_of" ["holder", "shapes"] (spF 2 q_leaves_of)) (c_p_product_row : Cal P w K mg base 4 "product_row" ["holders", "flats", "shape", "leaves"] (spF 4 p_product_row)) : CalK P w K mg base 9 "product_book" ["holder", "book", "goal", "other"] ["other", "goal", "book", "holder"] [3, 2, 1, 0] (spF 4 p_product_book) :=
  calK_of (k := 8) (N := ["holder", "book", "goal", "other", "product", "found", "shape", "inner"]) hF sc_p_product_book rfl (fun _ _ _ _ _ _ ws hl => match ws, hl with | [], hl => by cases hl | [_], hl => by cases hl | [_, _], hl => by cases hl | [_, _, _], hl => by cases hl | _ :: _ :: _ :: _ :: _, _ => rfl) (body := b_p_product_book) fun f cd A outer s H F o =>
  (s_cons (s_drop (ds_expr (ec (de_call c_m_need_book o (by decide) len_m_need_book rfl (da_fCons (de_var 0 (pv 0)) (da_fCons (de_var 1 (pv 1)) da_fNil))))))
  (s_cons (s_drop (ds_expr (ec (de_call c_m_need_book o (by decide) len_m_need_book rfl (da_fCons (de_var 2 (pv 2)) (da_fCons (de_var 3 (pv 3)) da_fNil))))))
  (s_cons (s_set (ds_set 4 sc_p_product_book.nd rfl (by first | exact Or.inl rfl | exact Or.inr rfl) (ec (de_call c_p_multiplied o (by decide) runF_len rfl (da_fCons (de_var 0 (pv 0)) (da_fCons (de_var 2 (pv 2)) da_fNil))))))
  (s_cons (s_drop (ds_expr (ec (de_call c_p_check_twice o (by decide) runF_len rfl (da_fCons (de_var 4 (pv 4)) da_fNil)))))
  (s_cons (s_setOwn (ds_setOwn 5 sc_p_product_book.nd rfl (by first | exact Or.inl rfl | exact Or.inr rfl) da_fNil))
  (s_cons (s_for (ds_for (.pr 6 7) PassesOwn.never o.calm (di_seq (ec (de_call c_p_into_so o (by decide) runF_len rfl (da_fCons (de_var 4 (pv 4)) (da_fCons (de_var 4 (pv 4)) da_fNil))))) (pg_pr o.calm (pg_name (i := 6) sc_p_product_book.nd rfl (by first | exact Or.inl rfl | exact Or.inr rfl)) (pg_name (i := 7) sc_p_product_book.nd rfl (by first | exact Or.inl rfl | exact Or.inr rfl)))
  (s_one (s_app (ds_app 5 (pv 5) (ec (de_call c_p_product_row o (by decide) runF_len rfl (da_fCons (de_fTup (da_fCons (de_var 0 (pv 0)) (da_fCons (de_var 2 (pv 2)) da_fNil))) (da_fCons (de_fTup (da_fCons (e2 (de_idx (de_var 1 (pv 1)) de_int)) (da_fCons (e2 (de_idx (de_var 3 (pv 3)) de_int)) da_fNil))) (da_fCons (de_var 6 (pv 6)) (da_fCons (ec (de_call c_q_leaves_of o (by decide) len_q_leaves_of rfl (da_fCons (de_var 4 (pv 4)) (da_fCons (de_var 7 (pv 7)) da_fNil)))) da_fNil)))))))))))
  (s_frz 5 (s_one (s_ret (ds_ret (de_fTup (da_fCons (e2 (de_add (e2 (de_mul (e2 (de_idx (de_var 1 (pv 1)) de_int)) (ec (de_len rfl T.len (da_fCons (de_var 2 (pv 2)) da_fNil))))) (e2 (de_idx (de_var 3 (pv 3)) de_int)))) (da_fCons (ec (de_tuple rfl T.tuple (da_fCons (de_var 5 (pv 5)) da_fNil))) da_fNil)))))))))))))

/-! read_book -/
def b_l_read_book : Sl → Option Out := (gSeq (gBind (.pr 4 5) (fVar 2))
  (gSeq (gPar 6 7 (fCons (f2 opMul (fTup (fCons (fVar 0) fNil)) (fCall opLen (fCons (fVar 5) fNil))) (fCons (fTup fNil) fNil)))
  (gSeq (gSet 3 (fCall opTuple (fCons (fComp (.nm 10) [10] fYes (f2 opAdd (f2 opMul (fVar 0) (fVar 10)) (fVar 10)) (fRange (fVar 0))) fNil)))
  (gSeq (gFor (.pr 8 9) (fItems (fCall l_inside (fCons (fVar 6) (fCons (fVar 6) fNil))))
  (gSet 7 (f2 opAdd (fVar 7) (fTup (fCons (fTup (fCons (f2 opIdx (f2 opIdx (fVar 5) (fVar 8)) (f2 opIdx (fVar 9) (fVar 1))) (fCons (fVar 3) fNil))) fNil)))))
  (gRet (fTup (fCons (fVar 6) (fCons (fTup (fCons (fVar 4) (fCons (fVar 7) fNil))) fNil))))))))
def l_read_book : List PyData → Option PyData := runF 3 11 b_l_read_book
theorem sc_l_read_book : FnScope ["_law_wide", "_law_spot", "_law_monoid", "_law_same", "_law_unit", "_law_square_here", "_law_near_so", "_law_flat_so", "_law_pick", "_law_row", "_law_place"] ["_law_wide", "_law_spot", "_law_monoid"] (defScope (top 61)) := ⟨rfl, rfl, rfl, by decide +kernel, rfl, by decide +kernel, by decide +kernel⟩
theorem ok_l_read_book (T : Txt mg) (hF : Has K mg "_law_read_book" 61) (c_l_inside : Cal P w K mg base 2 "_law_inside" ["_law_near_so", "_law_far_so"] (spF 2 l_inside)) : Cal P w K mg base 3 "_law_read_book" ["_law_wide", "_law_spot", "_law_monoid"] (spF 3 l_read_book) :=
  cal_of (k := 2) (N := ["_law_wide", "_law_spot", "_law_monoid", "_law_same", "_law_unit", "_law_square_here", "_law_near_so", "_law_flat_so", "_law_pick", "_law_row", "_law_place"]) hF sc_l_read_book rfl (fun _ _ _ _ _ _ us hl => match us, hl with | [_, _, _], _ => rfl) (body := b_l_read_book) fun f cd A outer s H F o =>
  (s_cons (s_bind (ds_bind (.pr 4 5) (pg_pr o.calm (pg_name (i := 4) sc_l_read_book.nd rfl (by first | exact Or.inl rfl | exact Or.inr rfl)) (pg_name (i := 5) sc_l_read_book.nd rfl (by first | exact Or.inl rfl | exact Or.inr rfl))) (de_var 2 (pv 2))))
  (s_cons (s_par (ds_par 6 7 o.calm sc_l_read_book.nd rfl rfl (by decide) rfl rfl (da_fCons (e2 (de_mul (de_fTup (da_fCons (de_var 0 (pv 0)) da_fNil)) (ec (de_len rfl T.len (da_fCons (de_var 5 (pv 5)) da_fNil))))) (da_fCons (de_fTup da_fNil) da_fNil)) rfl))
  (s_cons (s_set (ds_set 3 sc_l_read_book.nd rfl (by first | exact Or.inl rfl | exact Or.inr rfl) (ec (de_tuple rfl T.tuple (da_fCons (v_comp (de_comp (.nm 10) [("_law_place", 10)] o.calm sc_l_read_book.nd (di_range rfl T.range (de_var 0 (pv 0))) (blkOk_by (N := ["_law_wide", "_law_spot", "_law_monoid", "_law_same", "_law_unit", "_law_square_here", "_law_near_so", "_law_flat_so", "_law_pick", "_law_row", "_law_place"]) (sc := defScope (top 61)) (by decide +kernel)) (fun _ _ _ _ _ => (pg_name (i := 10) sc_l_read_book.nd rfl (by first | exact Or.inl rfl | exact Or.inr rfl))) (fun _ _ _ _ _ => ts_nil) (fun _ _ _ _ _ => (e2 (de_add (e2 (de_mul (de_var 0 (pv 0)) (de_var 10 (pv 10)))) (de_var 10 (pv 10))))) (by decide))) da_fNil)))))
  (s_cons (s_for (ds_for (.pr 8 9) PassesOwn.never o.calm (di_seq (ec (de_call c_l_inside o (by decide) runF_len rfl (da_fCons (de_var 6 (pv 6)) (da_fCons (de_var 6 (pv 6)) da_fNil))))) (pg_pr o.calm (pg_name (i := 8) sc_l_read_book.nd rfl (by first | exact Or.inl rfl | exact Or.inr rfl)) (pg_name (i := 9) sc_l_read_book.nd rfl (by first | exact Or.inl rfl | exact Or.inr rfl)))
  (s_one (s_set (ds_set 7 sc_l_read_book.nd rfl (by first | exact Or.inl rfl | exact Or.inr rfl) (e2 (de_add (de_var 7 (pv 7)) (de_fTup (da_fCons (de_fTup (da_fCons (e2 (de_idx (e2 (de_idx (de_var 5 (pv 5)) (de_var 8 (pv 8)))) (e2 (de_idx (de_var 9 (pv 9)) (de_var 1 (pv 1)))))) (da_fCons (de_var 3 (pv 3)) da_fNil))) da_fNil)))))))))
  (s_one (s_ret (ds_ret (de_fTup (da_fCons (de_var 6 (pv 6)) (da_fCons (de_fTup (da_fCons (de_var 4 (pv 4)) (da_fCons (de_var 7 (pv 7)) da_fNil))) da_fNil))))))))))

/-! product_book -/
def b_l_product_book : Sl → Option Out := (gSeq (gBind (.tr 6 7 8) (fTup (fCons (fCall opLen (fCons (fVar 2) fNil)) (fCons (fTup fNil) (fCons (fTup fNil) fNil)))))
  (gSeq (gFor (.nm 4) (fItems (fVar 0))
  (gSet 7 (f2 opAdd (fVar 7) (fCall opTuple (fCons (fComp (.nm 20) [20] fYes (f2 opAdd (fVar 4) (fVar 20)) (fItems (fVar 2))) fNil)))))
  (gSeq (gSet 5 (fTup (fCons (fCall l_inside (fCons (fVar 0) (fCons (fVar 0) fNil))) (fCons (fCall l_inside (fCons (fVar 2) (fCons (fVar 2) fNil))) fNil))))
  (gSeq (gFor (.pr 9 10) (fItems (fCall l_inside (fCons (fVar 7) (fCons (fVar 7) fNil))))
  (gSeq (gPar 14 15 (fCons (f2 opFloor (fVar 9) (fVar 6)) (fCons (f2 opMod (fCall opInt (fCons (fVar 9) fNil)) (fVar 6)) fNil)))
  (gSeq (gSet 11 (fCall ql_parts (fCons (fVar 7) (fCons (fVar 10) (fCons (fRng .tuple fZero (fCall opSum2 (fCons (fComp (.nm 21) [21] fYes (f2 opIdx (fVar 7) (fVar 21)) (fItems (fVar 10))) fNil))) fNil)))))
  (gSeq (gParOO 16 17)
  (gSeq (gFor (.pr 18 19) (fItems (fSlice (fVar 11) none (some (f2 opIdx (fVar 0) (fVar 14)))))
  (gApp 16 (fTup (fCons (f2 opFloor (fVar 18) (fVar 6)) (fCons (fSlice (fVar 19) none (some (f2 opIdx (fVar 0) (f2 opFloor (fVar 18) (fVar 6))))) fNil)))))
  (gSeq (gFor (.pr 18 19) (fItems (fSlice (fVar 11) (some (f2 opIdx (fVar 0) (fVar 14))) none))
  (gApp 17 (fTup (fCons (f2 opMod (fCall opInt (fCons (fVar 18) fNil)) (fVar 6)) (fCons (fSlice (fVar 19) (some (f2 opIdx (fVar 0) (f2 opFloor (fVar 18) (fVar 6)))) none) fNil)))))
  (gFrz 16 (gSeq (gSet 12 (fCall ql_flat (fCons (f2 opIdx (fVar 5) (fC (.int 0))) (fCons (f2 opIdx (fVar 1) (fC (.int 1))) (fCons (fVar 14) (fCons (fVar 16) fNil))))))
  (gFrz 17 (gSeq (gSet 13 (fCall ql_flat (fCons (f2 opIdx (fVar 5) (fC (.int 1))) (fCons (f2 opIdx (fVar 3) (fC (.int 1))) (fCons (fVar 15) (fCons (fVar 17) fNil))))))
  (gSet 8 (f2 opAdd (fVar 8) (fTup (fCons (fTup (fCons (f2 opAdd (f2 opMul (f2 opIdx (fVar 12) (fC (.int 0))) (fVar 6)) (f2 opIdx (fVar 13) (fC (.int 0)))) (fCons (f2 opAdd (f2 opIdx (fVar 12) (fC (.int 1))) (f2 opIdx (fVar 13) (fC (.int 1)))) fNil))) fNil))))))))))))))
  (gRet (fTup (fCons (fVar 7) (fCons (fTup (fCons (f2 opAdd (f2 opMul (f2 opIdx (fVar 1) (fC (.int 0))) (fVar 6)) (f2 opIdx (fVar 3) (fC (.int 0)))) (fCons (fVar 8) fNil))) fNil))))))))
def l_product_book : List PyData → Option PyData := runF 4 22 b_l_product_book
theorem sc_l_product_book : FnScope ["_law_near_so", "_law_book_so", "_law_far_so", "_law_twin_so", "_law_wide", "_law_insides", "_law_size", "_law_product_so", "_law_flat_so", "_law_pick", "_law_row", "_law_leaves", "_law_near", "_law_far", "_law_first_so", "_law_second_so", "_law_left", "_law_right", "_law_name", "_law_things_so", "_law_more", "_law_mate"] ["_law_near_so", "_law_book_so", "_law_far_so", "_law_twin_so"] (defScope (top 64)) := ⟨rfl, rfl, rfl, by decide +kernel, rfl, by decide +kernel, by decide +kernel⟩
theorem ok_l_product_book (T : Txt mg) (hF : Has K mg "_law_product_book" 64) (c_l_inside : Cal P w K mg base 2 "_law_inside" ["_law_near_so", "_law_far_so"] (spF 2 l_inside)) (c_ql_parts : Cal P w K mg base 1 "_law_parts" ["_law_near_so", "_law_row", "_law_things_so"] (spF 3 ql_parts)) (c_ql_flat : Cal P w K mg base 2 "_law_flat" ["_law_inside_so", "_law_flat_so", "_law_pick", "_law_parts_here"] (spF 4 ql_flat)) : Cal P w K mg base 3 "_law_product_book" ["_law_near_so", "_law_book_so", "_law_far_so", "_law_twin_so"] (spF 4 l_product_book) :=
  cal_of (k := 2) (N := ["_law_near_so", "_law_book_so", "_law_far_so", "_law_twin_so", "_law_wide", "_law_insides", "_law_size", "_law_product_so", "_law_flat_so", "_law_pick", "_law_row", "_law_leaves", "_law_near", "_law_far", "_law_first_so", "_law_second_so", "_law_left", "_law_right", "_law_name", "_law_things_so", "_law_more", "_law_mate"]) hF sc_l_product_book rfl (fun _ _ _ _ _ _ us hl => match us, hl with | [_, _, _, _], _ => rfl) (body := b_l_product_book) fun f cd A outer s H F o =>
  (s_cons (s_bind (ds_bind (.tr 6 7 8) (pg_tr o.calm (pg_name (i := 6) sc_l_product_book.nd rfl (by first | exact Or.inl rfl | exact Or.inr rfl)) (pg_name (i := 7) sc_l_product_book.nd rfl (by first | exact Or.inl rfl | exact Or.inr rfl)) (pg_name (i := 8) sc_l_product_book.nd rfl (by first | exact Or.inl rfl | exact Or.inr rfl))) (de_fTup (da_fCons (ec (de_len rfl T.len (da_fCons (de_var 2 (pv 2)) da_fNil))) (da_fCons (de_fTup da_fNil) (da_fCons (de_fTup da_fNil) da_fNil))))))
  (s_cons (s_for (ds_for (.nm 4) PassesOwn.never o.calm (di_seq (de_var 0 (pv 0))) (pg_name (i := 4) sc_l_product_book.nd rfl (by first | exact Or.inl rfl | exact Or.inr rfl))
  (s_one (s_set (ds_set 7 sc_l_product_book.nd rfl (by first | exact Or.inl rfl | exact Or.inr rfl) (e2 (de_add (de_var 7 (pv 7)) (ec (de_tuple rfl T.tuple (da_fCons (v_comp (de_comp (.nm 20) [("_law_more", 20)] o.calm sc_l_product_book.nd (di_seq (de_var 2 (pv 2))) (blkOk_by (N := ["_law_near_so", "_law_book_so", "_law_far_so", "_law_twin_so", "_law_wide", "_law_insides", "_law_size", "_law_product_so", "_law_flat_so", "_law_pick", "_law_row", "_law_leaves", "_law_near", "_law_far", "_law_first_so", "_law_second_so", "_law_left", "_law_right", "_law_name", "_law_things_so", "_law_more", "_law_mate"]) (sc := defScope (top 64)) (by decide +kernel)) (fun _ _ _ _ _ => (pg_name (i := 20) sc_l_product_book.nd rfl (by first | exact Or.inl rfl | exact Or.inr rfl))) (fun _ _ _ _ _ => ts_nil) (fun _ _ _ _ _ => (e2 (de_add (de_var 4 (pv 4)) (de_var 20 (pv 20))))) (by decide))) da_fNil))))))))))
  (s_cons (s_set (ds_set 5 sc_l_product_book.nd rfl (by first | exact Or.inl rfl | exact Or.inr rfl) (de_fTup (da_fCons (ec (de_call c_l_inside o (by decide) runF_len rfl (da_fCons (de_var 0 (pv 0)) (da_fCons (de_var 0 (pv 0)) da_fNil)))) (da_fCons (ec (de_call c_l_inside o (by decide) runF_len rfl (da_fCons (de_var 2 (pv 2)) (da_fCons (de_var 2 (pv 2)) da_fNil)))) da_fNil)))))
  (s_cons (s_for (ds_for (.pr 9 10) PassesOwn.never o.calm (di_seq (ec (de_call c_l_inside o (by decide) runF_len rfl (da_fCons (de_var 7 (pv 7)) (da_fCons (de_var 7 (pv 7)) da_fNil))))) (pg_pr o.calm (pg_name (i := 9) sc_l_product_book.nd rfl (by first | exact Or.inl rfl | exact Or.inr rfl)) (pg_name (i := 10) sc_l_product_book.nd rfl (by first | exact Or.inl rfl | exact Or.inr rfl)))
  (s_cons (s_par (ds_par 14 15 o.calm sc_l_product_book.nd rfl rfl (by decide) rfl rfl (da_fCons (e2 (de_floor (de_var 9 (pv 9)) (de_var 6 (pv 6)))) (da_fCons (e2 (de_mod (ec (de_intc rfl T.int (da_fCons (de_var 9 (pv 9)) da_fNil))) (de_var 6 (pv 6)))) da_fNil)) rfl))
  (s_cons (s_set (ds_set 11 sc_l_product_book.nd rfl (by first | exact Or.inl rfl | exact Or.inr rfl) (ec (de_call c_ql_parts o (by decide) len_ql_parts rfl (da_fCons (de_var 7 (pv 7)) (da_fCons (de_var 10 (pv 10)) (da_fCons (de_tupRg1 o.calm rfl T.tuple rfl T.range (ec (de_sum2 o.calm rfl T.sum (da_fCons (v_comp (de_comp (.nm 21) [("_law_mate", 21)] o.calm sc_l_product_book.nd (di_seq (de_var 10 (pv 10))) (blkOk_by (N := ["_law_near_so", "_law_book_so", "_law_far_so", "_law_twin_so", "_law_wide", "_law_insides", "_law_size", "_law_product_so", "_law_flat_so", "_law_pick", "_law_row", "_law_leaves", "_law_near", "_law_far", "_law_first_so", "_law_second_so", "_law_left", "_law_right", "_law_name", "_law_things_so", "_law_more", "_law_mate"]) (sc := defScope (top 64)) (by decide +kernel)) (fun _ _ _ _ _ => (pg_name (i := 21) sc_l_product_book.nd rfl (by first | exact Or.inl rfl | exact Or.inr rfl))) (fun _ _ _ _ _ => ts_nil) (fun _ _ _ _ _ => (e2 (de_idx (de_var 7 (pv 7)) (de_var 21 (pv 21))))) (by decide))) da_fNil)))) da_fNil)))))))
  (s_cons (s_parOO (ds_parOO 16 17 o.calm sc_l_product_book.nd rfl rfl (by decide) rfl rfl rfl))
  (s_cons (s_for (ds_for (.pr 18 19) PassesOwn.never o.calm (di_seq (de_fSlice01 (de_var 11 (pv 11)) (e2 (de_idx (de_var 0 (pv 0)) (de_var 14 (pv 14)))))) (pg_pr o.calm (pg_name (i := 18) sc_l_product_book.nd rfl (by first | exact Or.inl rfl | exact Or.inr rfl)) (pg_name (i := 19) sc_l_product_book.nd rfl (by first | exact Or.inl rfl | exact Or.inr rfl)))
  (s_one (s_app (ds_app 16 (pv 16) (de_fTup (da_fCons (e2 (de_floor (de_var 18 (pv 18)) (de_var 6 (pv 6)))) (da_fCons (de_fSlice01 (de_var 19 (pv 19)) (e2 (de_idx (de_var 0 (pv 0)) (e2 (de_floor (de_var 18 (pv 18)) (de_var 6 (pv 6))))))) da_fNil))))))))
  (s_cons (s_for (ds_for (.pr 18 19) PassesOwn.never o.calm (di_seq (de_fSlice10 (de_var 11 (pv 11)) (e2 (de_idx (de_var 0 (pv 0)) (de_var 14 (pv 14)))))) (pg_pr o.calm (pg_name (i := 18) sc_l_product_book.nd rfl (by first | exact Or.inl rfl | exact Or.inr rfl)) (pg_name (i := 19) sc_l_product_book.nd rfl (by first | exact Or.inl rfl | exact Or.inr rfl)))
  (s_one (s_app (ds_app 17 (pv 17) (de_fTup (da_fCons (e2 (de_mod (ec (de_intc rfl T.int (da_fCons (de_var 18 (pv 18)) da_fNil))) (de_var 6 (pv 6)))) (da_fCons (de_fSlice10 (de_var 19 (pv 19)) (e2 (de_idx (de_var 0 (pv 0)) (e2 (de_floor (de_var 18 (pv 18)) (de_var 6 (pv 6))))))) da_fNil))))))))
  (s_frz 16 (s_cons (s_set (ds_set 12 sc_l_product_book.nd rfl (by first | exact Or.inl rfl | exact Or.inr rfl) (ec (de_call c_ql_flat o (by decide) len_ql_flat rfl (da_fCons (e2 (de_idx (de_var 5 (pv 5)) de_int)) (da_fCons (e2 (de_idx (de_var 1 (pv 1)) de_int)) (da_fCons (de_var 14 (pv 14)) (da_fCons (de_var 16 (pv 16)) da_fNil))))))))
  (s_frz 17 (s_cons (s_set (ds_set 13 sc_l_product_book.nd rfl (by first | exact Or.inl rfl | exact Or.inr rfl) (ec (de_call c_ql_flat o (by decide) len_ql_flat rfl (da_fCons (e2 (de_idx (de_var 5 (pv 5)) de_int)) (da_fCons (e2 (de_idx (de_var 3 (pv 3)) de_int)) (da_fCons (de_var 15 (pv 15)) (da_fCons (de_var 17 (pv 17)) da_fNil))))))))
  (s_one (s_set (ds_set 8 sc_l_product_book.nd rfl (by first | exact Or.inl rfl | exact Or.inr rfl) (e2 (de_add (de_var 8 (pv 8)) (de_fTup (da_fCons (de_fTup (da_fCons (e2 (de_add (e2 (de_mul (e2 (de_idx (de_var 12 (pv 12)) de_int)) (de_var 6 (pv 6)))) (e2 (de_idx (de_var 13 (pv 13)) de_int)))) (da_fCons (e2 (de_add (e2 (de_idx (de_var 12 (pv 12)) de_int)) (e2 (de_idx (de_var 13 (pv 13)) de_int)))) da_fNil))) da_fNil))))))))))))))))))
  (s_one (s_ret (ds_ret (de_fTup (da_fCons (de_var 7 (pv 7)) (da_fCons (de_fTup (da_fCons (e2 (de_add (e2 (de_mul (e2 (de_idx (de_var 1 (pv 1)) de_int)) (de_var 6 (pv 6)))) (e2 (de_idx (de_var 3 (pv 3)) de_int)))) (da_fCons (de_var 8 (pv 8)) da_fNil))) da_fNil))))))))))

/-! is_map -/
def b_l_is_map : Sl → Option Out := (gSeq (gIf (fT (f2 opNe (f2 opIdx (f2 opIdx (fVar 4) (f2 opIdx (fVar 1) (fC (.int 0)))) (fC (.int 0))) (f2 opIdx (fVar 3) (fC (.int 0)))))
  (gRet (fC (.bool false)))
  gNext)
  (gSeq (gPar 5 6 (fCons (fCall l_inside (fCons (fVar 0) (fCons (fVar 0) fNil))) (fCons (fCall l_inside (fCons (fVar 2) (fCons (fVar 2) fNil))) fNil)))
  (gSeq (gFor (.pr 7 8) (fItems (fVar 5))
  (gSeq (gSet 9 (fCall ql_parts (fCons (fVar 0) (fCons (fVar 8) (fCons (fRng .tuple fZero (fCall opSum2 (fCons (fComp (.nm 14) [14] fYes (f2 opIdx (fVar 0) (fVar 14)) (fItems (fVar 8))) fNil))) fNil)))))
  (gSeq (gSet 10 (fCall ql_done (fCons (fVar 4) (fCons (fCall ql_flat (fCons (fVar 5) (fCons (f2 opIdx (fVar 1) (fC (.int 1))) (fCons (fVar 7) (fCons (fVar 9) fNil))))) fNil))))
  (gSeq (gBind (.pr 11 12) (fCall ql_done (fCons (fVar 4) (fCons (fTup (fCons (fVar 7) (fCons (fCall opTuple (fCons (fComp (.nm 13) [13] fYes (fCall ql_done (fCons (fVar 4) (fCons (fVar 13) fNil))) (fItems (fVar 9))) fNil)) fNil))) fNil))))
  (gIf (fT (f2 opNe (fVar 10) (fCall ql_flat (fCons (fVar 6) (fCons (f2 opIdx (fVar 3) (fC (.int 1))) (fCons (fVar 11) (fCons (fVar 12) fNil)))))))
  (gRet (fC (.bool false)))
  gNext)))))
  (gRet (fC (.bool true))))))
def l_is_map : List PyData → Option PyData := runF 5 15 b_l_is_map
theorem sc_l_is_map : FnScope ["_law_near_so", "_law_book_so", "_law_far_so", "_law_twin_so", "_law_table_so", "_law_inside_so", "_law_beyond_so", "_law_pick", "_law_row", "_law_leaves", "_law_led", "_law_goal_so", "_law_parts_here", "_law_leaf", "_law_mate"] ["_law_near_so", "_law_book_so", "_law_far_so", "_law_twin_so", "_law_table_so"] (defScope (top 65)) := ⟨rfl, rfl, rfl, by decide +kernel, rfl, by decide +kernel, by decide +kernel⟩
theorem ok_l_is_map (T : Txt mg) (hF : Has K mg "_law_is_map" 65) (c_l_inside : Cal P w K mg base 2 "_law_inside" ["_law_near_so", "_law_far_so"] (spF 2 l_inside)) (c_ql_parts : Cal P w K mg base 1 "_law_parts" ["_law_near_so", "_law_row", "_law_things_so"] (spF 3 ql_parts)) (c_ql_flat : Cal P w K mg base 2 "_law_flat" ["_law_inside_so", "_law_flat_so", "_law_pick", "_law_parts_here"] (spF 4 ql_flat)) (c_ql_done : Cal P w K mg base 1 "_law_done" ["_law_table_so", "_law_filled_so"] (spF 2 ql_done)) : Cal P w K mg base 3 "_law_is_map" ["_law_near_so", "_law_book_so", "_law_far_so", "_law_twin_so", "_law_table_so"] (spF 5 l_is_map) :=
  cal_of (k := 2) (N := ["_law_near_so", "_law_book_so", "_law_far_so", "_law_twin_so", "_law_table_so", "_law_inside_so", "_law_beyond_so", "_law_pick", "_law_row", "_law_leaves", "_law_led", "_law_goal_so", "_law_parts_here", "_law_leaf", "_law_mate"]) hF sc_l_is_map rfl (fun _ _ _ _ _ _ us hl => match us, hl with | [_, _, _, _, _], _ => rfl) (body := b_l_is_map) fun f cd A outer s H F o =>
  (s_cons (s_if (ds_if (t2 (dt_ne o.u64 (e2 (de_idx (e2 (de_idx (de_var 4 (pv 4)) (e2 (de_idx (de_var 1 (pv 1)) de_int)))) de_int)) (e2 (de_idx (de_var 3 (pv 3)) de_int))))
  (s_one (s_ret (ds_ret de_bl)))
  s_nil))
  (s_cons (s_par (ds_par 5 6 o.calm sc_l_is_map.nd rfl rfl (by decide) rfl rfl (da_fCons (ec (de_call c_l_inside o (by decide) runF_len rfl (da_fCons (de_var 0 (pv 0)) (da_fCons (de_var 0 (pv 0)) da_fNil)))) (da_fCons (ec (de_call c_l_inside o (by decide) runF_len rfl (da_fCons (de_var 2 (pv 2)) (da_fCons (de_var 2 (pv 2)) da_fNil)))) da_fNil)) rfl))
  (s_cons (s_for (ds_for (.pr 7 8) PassesOwn.never o.calm (di_seq (de_var 5 (pv 5))) (pg_pr o.calm (pg_name (i := 7) sc_l_is_map.nd rfl (by first | exact Or.inl rfl | exact Or.inr rfl)) (pg_name (i := 8) sc_l_is_map.nd rfl (by first | exact Or.inl rfl | exact Or.inr rfl)))
  (s_cons (s_set (ds_set 9 sc_l_is_map.nd rfl (by first | exact Or.inl rfl | exact Or.inr rfl) (ec (de_call c_ql_parts o (by decide) len_ql_parts rfl (da_fCons (de_var 0 (pv 0)) (da_fCons (de_var 8 (pv 8)) (da_fCons (de_tupRg1 o.calm rfl T.tuple rfl T.range (ec (de_sum2 o.calm rfl T.sum (da_fCons (v_comp (de_comp (.nm 14) [("_law_mate", 14)] o.calm sc_l_is_map.nd (di_seq (de_var 8 (pv 8))) (blkOk_by (N := ["_law_near_so", "_law_book_so", "_law_far_so", "_law_twin_so", "_law_table_so", "_law_inside_so", "_law_beyond_so", "_law_pick", "_law_row", "_law_leaves", "_law_led", "_law_goal_so", "_law_parts_here", "_law_leaf", "_law_mate"]) (sc := defScope (top 65)) (by decide +kernel)) (fun _ _ _ _ _ => (pg_name (i := 14) sc_l_is_map.nd rfl (by first | exact Or.inl rfl | exact Or.inr rfl))) (fun _ _ _ _ _ => ts_nil) (fun _ _ _ _ _ => (e2 (de_idx (de_var 0 (pv 0)) (de_var 14 (pv 14))))) (by decide))) da_fNil)))) da_fNil)))))))
  (s_cons (s_set (ds_set 10 sc_l_is_map.nd rfl (by first | exact Or.inl rfl | exact Or.inr rfl) (ec (de_call c_ql_done o (by decide) len_ql_done rfl (da_fCons (de_var 4 (pv 4)) (da_fCons (ec (de_call c_ql_flat o (by decide) len_ql_flat rfl (da_fCons (de_var 5 (pv 5)) (da_fCons (e2 (de_idx (de_var 1 (pv 1)) de_int)) (da_fCons (de_var 7 (pv 7)) (da_fCons (de_var 9 (pv 9)) da_fNil)))))) da_fNil))))))
  (s_cons (s_bind (ds_bind (.pr 11 12) (pg_pr o.calm (pg_name (i := 11) sc_l_is_map.nd rfl (by first | exact Or.inl rfl | exact Or.inr rfl)) (pg_name (i := 12) sc_l_is_map.nd rfl (by first | exact Or.inl rfl | exact Or.inr rfl))) (ec (de_call c_ql_done o (by decide) len_ql_done rfl (da_fCons (de_var 4 (pv 4)) (da_fCons (de_fTup (da_fCons (de_var 7 (pv 7)) (da_fCons (ec (de_tuple rfl T.tuple (da_fCons (v_comp (de_comp (.nm 13) [("_law_leaf", 13)] o.calm sc_l_is_map.nd (di_seq (de_var 9 (pv 9))) (blkOk_by (N := ["_law_near_so", "_law_book_so", "_law_far_so", "_law_twin_so", "_law_table_so", "_law_inside_so", "_law_beyond_so", "_law_pick", "_law_row", "_law_leaves", "_law_led", "_law_goal_so", "_law_parts_here", "_law_leaf", "_law_mate"]) (sc := defScope (top 65)) (by decide +kernel)) (fun _ _ _ _ _ => (pg_name (i := 13) sc_l_is_map.nd rfl (by first | exact Or.inl rfl | exact Or.inr rfl))) (fun _ _ _ _ _ => ts_nil) (fun _ _ _ _ _ => (ec (de_call c_ql_done o.blk (by decide) len_ql_done rfl (da_fCons (de_var 4 (pv 4)) (da_fCons (de_var 13 (pv 13)) da_fNil))))) (by decide))) da_fNil))) da_fNil))) da_fNil))))))
  (s_one (s_if (ds_if (t2 (dt_ne o.u64 (de_var 10 (pv 10)) (ec (de_call c_ql_flat o (by decide) len_ql_flat rfl (da_fCons (de_var 6 (pv 6)) (da_fCons (e2 (de_idx (de_var 3 (pv 3)) de_int)) (da_fCons (de_var 11 (pv 11)) (da_fCons (de_var 12 (pv 12)) da_fNil))))))))
  (s_one (s_ret (ds_ret de_bl)))
  s_nil))))))))
  (s_one (s_ret (ds_ret de_bl))))))

/-! looks -/
def b_l_looks : Sl → Option Out := (gSeq (gBind (.pr 2 3) (fTup (fCons (fTup fNil) (fCons (fTup fNil) fNil))))
  (gSeq (gFor (.pr 4 5) (fEnum (fVar 0))
  (gFor (.pr 6 7) (fEnum (fVar 1))
  (gSeq (gSet 2 (f2 opAdd (fVar 2) (fTup (fCons (fTup (fCons (fVar 4) (fCons (fRng .tuple fZero (fVar 5)) fNil))) fNil))))
  (gSet 3 (f2 opAdd (fVar 3) (fTup (fCons (fTup (fCons (fVar 6) (fCons (fRng .tuple (fVar 5) (f2 opAdd (fVar 5) (fVar 7))) fNil))) fNil)))))))
  (gRet (fTup (fCons (fVar 2) (fCons (fVar 3) fNil))))))
def l_looks : List PyData → Option PyData := runF 2 8 b_l_looks
theorem sc_l_looks : FnScope ["_law_near_so", "_law_far_so", "_law_first_so", "_law_second_so", "_law_pick", "_law_wide", "_law_mate", "_law_more"] ["_law_near_so", "_law_far_so"] (defScope (top 67)) := ⟨rfl, rfl, rfl, by decide +kernel, rfl, by decide +kernel, by decide +kernel⟩
theorem ok_l_looks (T : Txt mg) (hF : Has K mg "_law_looks" 67) : Cal P w K mg base 1 "_law_looks" ["_law_near_so", "_law_far_so"] (spF 2 l_looks) :=
  cal_of (k := 0) (N := ["_law_near_so", "_law_far_so", "_law_first_so", "_law_second_so", "_law_pick", "_law_wide", "_law_mate", "_law_more"]) hF sc_l_looks rfl (fun _ _ _ _ _ _ us hl => match us, hl with | [_, _], _ => rfl) (body := b_l_looks) fun f cd A outer s H F o =>
  (s_cons (s_bind (ds_bind (.pr 2 3) (pg_pr o.calm (pg_name (i := 2) sc_l_looks.nd rfl (by first | exact Or.inl rfl | exact Or.inr rfl)) (pg_name (i := 3) sc_l_looks.nd rfl (by first | exact Or.inl rfl | exact Or.inr rfl))) (de_fTup (da_fCons (de_fTup da_fNil) (da_fCons (de_fTup da_fNil) da_fNil)))))
  (s_cons (s_for (ds_for (.pr 4 5) PassesOwn.never o.calm (di_enum rfl T.enumerate (de_var 0 (pv 0))) (pg_pr o.calm (pg_name (i := 4) sc_l_looks.nd rfl (by first | exact Or.inl rfl | exact Or.inr rfl)) (pg_name (i := 5) sc_l_looks.nd rfl (by first | exact Or.inl rfl | exact Or.inr rfl)))
  (s_one (s_for (ds_for (.pr 6 7) PassesOwn.never o.calm (di_enum rfl T.enumerate (de_var 1 (pv 1))) (pg_pr o.calm (pg_name (i := 6) sc_l_looks.nd rfl (by first | exact Or.inl rfl | exact Or.inr rfl)) (pg_name (i := 7) sc_l_looks.nd rfl (by first | exact Or.inl rfl | exact Or.inr rfl)))
  (s_cons (s_set (ds_set 2 sc_l_looks.nd rfl (by first | exact Or.inl rfl | exact Or.inr rfl) (e2 (de_add (de_var 2 (pv 2)) (de_fTup (da_fCons (de_fTup (da_fCons (de_var 4 (pv 4)) (da_fCons (de_tupRg1 o.calm rfl T.tuple rfl T.range (de_var 5 (pv 5))) da_fNil))) da_fNil))))))
  (s_one (s_set (ds_set 3 sc_l_looks.nd rfl (by first | exact Or.inl rfl | exact Or.inr rfl) (e2 (de_add (de_var 3 (pv 3)) (de_fTup (da_fCons (de_fTup (da_fCons (de_var 6 (pv 6)) (da_fCons (de_tupRg2 o.calm rfl T.tuple rfl T.range (de_var 5 (pv 5)) (e2 (de_add (de_var 5 (pv 5)) (de_var 7 (pv 7))))) da_fNil))) da_fNil)))))))))))))
  (s_one (s_ret (ds_ret (de_fTup (da_fCons (de_var 2 (pv 2)) (da_fCons (de_var 3 (pv 3)) da_fNil))))))))

/-! judged -/
def b_l_judged : Sl → Option Out := (gSeq (gSet 3 (fCall l_is_map (fCons (f2 opIdx (fVar 0) (fC (.int 0))) (fCons (f2 opIdx (fVar 0) (fC (.int 1))) (fCons (f2 opIdx (fVar 1) (fC (.int 0))) (fCons (f2 opIdx (fVar 1) (fC (.int 1))) (fCons (fVar 2) fNil)))))))
  (gRet (fCall ql_like (fCons (fCall p_is_book_map (fCons (f2 opIdx (fVar 0) (fC (.int 0))) (fCons (f2 opIdx (fVar 0) (fC (.int 1))) (fCons (f2 opIdx (fVar 1) (fC (.int 0))) (fCons (f2 opIdx (fVar 1) (fC (.int 1))) (fCons (fVar 2) fNil)))))) (fCons (fVar 3) fNil)))))
def l_judged : List PyData → Option PyData := runF 3 4 b_l_judged
theorem sc_l_judged : FnScope ["_law_near", "_law_far", "_law_table_so", "_law_due"] ["_law_near", "_law_far", "_law_table_so"] (defScope (top 68)) := ⟨rfl, rfl, rfl, by decide +kernel, rfl, by decide +kernel, by decide +kernel⟩
theorem ok_l_judged (T : Txt mg) (hF : Has K mg "_law_judged" 68) (c_l_is_map : Cal P w K mg base 3 "_law_is_map" ["_law_near_so", "_law_book_so", "_law_far_so", "_law_twin_so", "_law_table_so"] (spF 5 l_is_map)) (c_p_is_book_map : Cal P w K mg base 9 "is_book_map" ["holder", "book", "goal", "other", "program"] (spF 5 p_is_book_map)) (c_ql_like : Cal P w K mg base 1 "_law_like" ["_law_got", "_law_due"] (spF 2 ql_like)) : Cal P w K mg base 10 "_law_judged" ["_law_near", "_law_far", "_law_table_so"] (spF 3 l_judged) :=
  cal_of (k := 9) (N := ["_law_near", "_law_far", "_law_table_so", "_law_due"]) hF sc_l_judged rfl (fun _ _ _ _ _ _ us hl => match us, hl with | [_, _, _], _ => rfl) (body := b_l_judged) fun f cd A outer s H F o =>
  (s_cons (s_set (ds_set 3 sc_l_judged.nd rfl (by first | exact Or.inl rfl | exact Or.inr rfl) (ec (de_call c_l_is_map o (by decide) runF_len rfl (da_fCons (e2 (de_idx (de_var 0 (pv 0)) de_int)) (da_fCons (e2 (de_idx (de_var 0 (pv 0)) de_int)) (da_fCons (e2 (de_idx (de_var 1 (pv 1)) de_int)) (da_fCons (e2 (de_idx (de_var 1 (pv 1)) de_int)) (da_fCons (de_var 2 (pv 2)) da_fNil)))))))))
  (s_one (s_ret (ds_ret (ec (de_call c_ql_like o (by decide) len_ql_like rfl (da_fCons (ec (de_call c_p_is_book_map o (by decide) runF_len rfl (da_fCons (e2 (de_idx (de_var 0 (pv 0)) de_int)) (da_fCons (e2 (de_idx (de_var 0 (pv 0)) de_int)) (da_fCons (e2 (de_idx (de_var 1 (pv 1)) de_int)) (da_fCons (e2 (de_idx (de_var 1 (pv 1)) de_int)) (da_fCons (de_var 2 (pv 2)) da_fNil))))))) (da_fCons (de_var 3 (pv 3)) da_fNil))))))))

/-! by_hand -/
def b_l_by_hand : Sl → Option Out := (gSeq (gSet 0 (fTup (fCons (fC (.int 0)) (fCons (fTup (fCons (fTup (fCons (fC (.int 0)) (fCons (fTup (fCons (fC (.int 0)) fNil)) fNil))) (fCons (fTup (fCons (fC (.int 1)) (fCons (fTup (fCons (fC (.int 0)) fNil)) fNil))) (fCons (fTup (fCons (fC (.int 1)) (fCons (fTup (fCons (fC (.int 0)) fNil)) fNil))) (fCons (fTup (fCons (fC (.int 0)) (fCons (fTup (fCons (fC (.int 0)) fNil)) fNil))) fNil))))) fNil))))
  (gSeq (gSetOwn 1 (fCons (fCall (fun ds => p_is_book_map (perm [1, 2, 0, 4, 3] ds)) (fCons (fTup (fCons (fC (.int 1)) fNil)) (fCons (fTup (fCons (fC (.int 1)) (fCons (fC (.int 1)) fNil))) (fCons (fVar 0) (fCons (f2 opMul (fTup (fCons (fTup (fCons (fC (.int 0)) (fCons (fTup (fCons (fC (.int 0)) fNil)) fNil))) fNil)) (fC (.int 2))) (fCons (fTup (fCons (fC (.int 0)) (fCons (fTup (fCons (fTup (fCons (fC (.int 0)) (fCons (fTup (fCons (fC (.int 0)) fNil)) fNil))) fNil)) fNil))) fNil)))))) fNil))
  (gSeq (gApp 1 (fCall p_is_book_map (fCons (fTup (fCons (fC (.int 1)) (fCons (fC (.int 1)) fNil))) (fCons (fVar 0) (fCons (fTup (fCons (fC (.int 1)) (fCons (fC (.int 1)) fNil))) (fCons (fVar 0) (fCons (fTup (fCons (fTup (fCons (fC (.int 0)) (fCons (fTup (fCons (fC (.int 0)) fNil)) fNil))) (fCons (fTup (fCons (fC (.int 0)) (fCons (fTup (fCons (fC (.int 0)) fNil)) fNil))) fNil))) fNil)))))))
  (gSeq (gApp 1 (fCall p_is_book_map (fCons (fTup (fCons (fC (.int 1)) (fCons (fC (.int 1)) fNil))) (fCons (fVar 0) (fCons (fTup (fCons (fC (.int 1)) (fCons (fC (.int 1)) fNil))) (fCons (fVar 0) (fCons (fTup (fCons (fTup (fCons (fC (.int 1)) (fCons (fTup (fCons (fC (.int 0)) fNil)) fNil))) (fCons (fTup (fCons (fC (.int 0)) (fCons (fTup (fCons (fC (.int 0)) fNil)) fNil))) fNil))) fNil)))))))
  (gSeq (gApp 1 (fCall p_is_book_map (fCons (fTup (fCons (fC (.int 2)) fNil)) (fCons (fTup (fCons (fC (.int 0)) (fCons (fTup (fCons (fTup (fCons (fC (.int 0)) (fCons (fTup (fCons (fC (.int 0)) (fCons (fC (.int 3)) fNil))) fNil))) fNil)) fNil))) (fCons (fTup (fCons (fC (.int 1)) fNil)) (fCons (fTup (fCons (fC (.int 0)) (fCons (fTup (fCons (fTup (fCons (fC (.int 0)) (fCons (fTup (fCons (fC (.int 0)) fNil)) fNil))) fNil)) fNil))) (fCons (fTup (fCons (fTup (fCons (fC (.int 0)) (fCons (fTup (fCons (fC (.int 1)) fNil)) fNil))) fNil)) fNil)))))))
  (gFrz 1 (gSeq (gIf (fNot (fT (fCall ql_like (fCons (fVar 1) (fCons (fLst (fCons (fC (.bool true)) (fCons (fC (.bool true)) (fCons (fC (.bool false)) (fCons (fC (.bool true)) fNil))))) fNil)))))
  (gRet (fC (.bool false)))
  gNext)
  (gSeq (gBind (.pr 3 4) (fTup (fCons (fTup (fCons (fC (.int 1)) (fCons (fTup (fCons (fTup (fCons (fC (.int 0)) (fCons (fTup fNil) fNil))) (fCons (fTup (fCons (fC (.int 0)) (fCons (fTup fNil) fNil))) (fCons (fTup (fCons (fC (.int 1)) (fCons (fTup (fCons (fC (.int 0)) fNil)) fNil))) fNil)))) fNil))) (fCons (fTup (fCons (fC (.int 0)) (fCons (fTup (fCons (fTup (fCons (fC (.int 0)) (fCons (fTup (fCons (fC (.int 0)) fNil)) fNil))) (fCons (fTup (fCons (fC (.int 1)) (fCons (fTup fNil) fNil))) (fCons (fTup (fCons (fC (.int 1)) (fCons (fTup fNil) fNil))) fNil)))) fNil))) fNil))))
  (gSeq (gSet 2 (f2 opAdd (fTup (fCons (fTup (fCons (fC (.int 0)) (fCons (fTup (fCons (fC (.int 0)) fNil)) fNil))) (fCons (fTup (fCons (fC (.int 1)) (fCons (fTup fNil) fNil))) (fCons (fTup (fCons (fC (.int 0)) (fCons (fTup (fCons (fC (.int 1)) fNil)) fNil))) (fCons (fTup (fCons (fC (.int 1)) (fCons (fTup fNil) fNil))) fNil))))) (fTup (fCons (fTup (fCons (fC (.int 1)) (fCons (fTup fNil) fNil))) fNil))))
  (gSeq (gSet 2 (f2 opAdd (f2 opAdd (fVar 2) (fTup (fCons (fTup (fCons (fC (.int 0)) (fCons (fTup (fCons (fC (.int 1)) fNil)) fNil))) (fCons (fTup (fCons (fC (.int 1)) (fCons (fTup fNil) fNil))) (fCons (fTup (fCons (fC (.int 0)) (fCons (fTup (fCons (fC (.int 2)) fNil)) fNil))) (fCons (fTup (fCons (fC (.int 1)) (fCons (fTup fNil) fNil))) fNil)))))) (fTup (fCons (fTup (fCons (fC (.int 0)) (fCons (fTup (fCons (fC (.int 0)) fNil)) fNil))) (fCons (fTup (fCons (fC (.int 1)) (fCons (fTup fNil) fNil))) (fCons (fTup (fCons (fC (.int 0)) (fCons (fTup (fCons (fC (.int 1)) fNil)) fNil))) (fCons (fTup (fCons (fC (.int 1)) (fCons (fTup fNil) fNil))) fNil)))))))
  (gSeq (gSet 2 (f2 opAdd (f2 opAdd (fVar 2) (fTup (fCons (fTup (fCons (fC (.int 2)) (fCons (fTup (fCons (fC (.int 0)) (fCons (fC (.int 2)) fNil))) fNil))) (fCons (fTup (fCons (fC (.int 3)) (fCons (fTup (fCons (fC (.int 0)) fNil)) fNil))) (fCons (fTup (fCons (fC (.int 2)) (fCons (fTup (fCons (fC (.int 0)) (fCons (fC (.int 3)) fNil))) fNil))) (fCons (fTup (fCons (fC (.int 3)) (fCons (fTup (fCons (fC (.int 0)) fNil)) fNil))) fNil)))))) (fTup (fCons (fTup (fCons (fC (.int 2)) (fCons (fTup (fCons (fC (.int 0)) (fCons (fC (.int 1)) fNil))) fNil))) (fCons (fTup (fCons (fC (.int 3)) (fCons (fTup (fCons (fC (.int 0)) fNil)) fNil))) (fCons (fTup (fCons (fC (.int 2)) (fCons (fTup (fCons (fC (.int 0)) (fCons (fC (.int 2)) fNil))) fNil))) (fCons (fTup (fCons (fC (.int 3)) (fCons (fTup (fCons (fC (.int 0)) fNil)) fNil))) fNil)))))))
  (gSeq (gSet 2 (f2 opAdd (fVar 2) (fTup (fCons (fTup (fCons (fC (.int 1)) (fCons (fTup fNil) fNil))) (fCons (fTup (fCons (fC (.int 1)) (fCons (fTup fNil) fNil))) (fCons (fTup (fCons (fC (.int 3)) (fCons (fTup (fCons (fC (.int 0)) fNil)) fNil))) (fCons (fTup (fCons (fC (.int 3)) (fCons (fTup (fCons (fC (.int 0)) fNil)) fNil))) fNil)))))))
  (gRet (fCall ql_like (fCons (fCall (fun ds => p_product_book (perm [3, 2, 1, 0] ds)) (fCons (fVar 4) (fCons (fTup (fCons (fC (.int 1)) (fCons (fC (.int 0)) fNil))) (fCons (fVar 3) (fCons (fTup (fCons (fC (.int 0)) (fCons (fC (.int 1)) fNil))) fNil))))) (fCons (fTup (fCons (fC (.int 2)) (fCons (fVar 2) fNil))) fNil))))))))))))))))
def l_by_hand : List PyData → Option PyData := runF 0 5 b_l_by_hand
theorem sc_l_by_hand : FnScope ["_law_one_so", "_law_got", "_law_due", "_law_near", "_law_far"] [] (defScope (top 73)) := ⟨rfl, rfl, rfl, by decide +kernel, rfl, by decide +kernel, by decide +kernel⟩
theorem ok_l_by_hand (T : Txt mg) (hF : Has K mg "_law_by_hand" 73) (c_p_is_book_map : Cal P w K mg base 9 "is_book_map" ["holder", "book", "goal", "other", "program"] (spF 5 p_is_book_map)) (c_ql_like : Cal P w K mg base 1 "_law_like" ["_law_got", "_law_due"] (spF 2 ql_like)) (k_p_is_book_map : CalK P w K mg base 9 "is_book_map" ["holder", "book", "goal", "other", "program"] ["goal", "holder", "book", "program", "other"] [1, 2, 0, 4, 3] (spF 5 p_is_book_map)) (k_p_product_book : CalK P w K mg base 9 "product_book" ["holder", "book", "goal", "other"] ["other", "goal", "book", "holder"] [3, 2, 1, 0] (spF 4 p_product_book)) : Cal P w K mg base 10 "_law_by_hand" [] (spF 0 l_by_hand) :=
  cal_of (k := 9) (N := ["_law_one_so", "_law_got", "_law_due", "_law_near", "_law_far"]) hF sc_l_by_hand rfl (fun _ _ _ _ _ _ us hl => match us, hl with | [], _ => rfl) (body := b_l_by_hand) fun f cd A outer s H F o =>
  (s_cons (s_set (ds_set 0 sc_l_by_hand.nd rfl (by first | exact Or.inl rfl | exact Or.inr rfl) (de_fTup (da_fCons de_int (da_fCons (de_fTup (da_fCons (de_fTup (da_fCons de_int (da_fCons (de_fTup (da_fCons de_int da_fNil)) da_fNil))) (da_fCons (de_fTup (da_fCons de_int (da_fCons (de_fTup (da_fCons de_int da_fNil)) da_fNil))) (da_fCons (de_fTup (da_fCons de_int (da_fCons (de_fTup (da_fCons de_int da_fNil)) da_fNil))) (da_fCons (de_fTup (da_fCons de_int (da_fCons (de_fTup (da_fCons de_int da_fNil)) da_fNil))) da_fNil))))) da_fNil)))))
  (s_cons (s_setOwn (ds_setOwn 1 sc_l_by_hand.nd rfl (by first | exact Or.inl rfl | exact Or.inr rfl) (da_fCons (v_callK k_p_is_book_map o (by decide) runF_len rfl (dk_cons (de_fTup (da_fCons de_int da_fNil)) (dk_cons (de_fTup (da_fCons de_int (da_fCons de_int da_fNil))) (dk_cons (de_var 0 (pv 0)) (dk_cons (e2 (de_mul (de_fTup (da_fCons (de_fTup (da_fCons de_int (da_fCons (de_fTup (da_fCons de_int da_fNil)) da_fNil))) da_fNil)) de_int)) (dk_cons (de_fTup (da_fCons de_int (da_fCons (de_fTup (da_fCons (de_fTup (da_fCons de_int (da_fCons (de_fTup (da_fCons de_int da_fNil)) da_fNil))) da_fNil)) da_fNil))) dk_nil)))))) da_fNil)))
  (s_cons (s_app (ds_app 1 (pv 1) (ec (de_call c_p_is_book_map o (by decide) runF_len rfl (da_fCons (de_fTup (da_fCons de_int (da_fCons de_int da_fNil))) (da_fCons (de_var 0 (pv 0)) (da_fCons (de_fTup (da_fCons de_int (da_fCons de_int da_fNil))) (da_fCons (de_var 0 (pv 0)) (da_fCons (de_fTup (da_fCons (de_fTup (da_fCons de_int (da_fCons (de_fTup (da_fCons de_int da_fNil)) da_fNil))) (da_fCons (de_fTup (da_fCons de_int (da_fCons (de_fTup (da_fCons de_int da_fNil)) da_fNil))) da_fNil))) da_fNil)))))))))
  (s_cons (s_app (ds_app 1 (pv 1) (ec (de_call c_p_is_book_map o (by decide) runF_len rfl (da_fCons (de_fTup (da_fCons de_int (da_fCons de_int da_fNil))) (da_fCons (de_var 0 (pv 0)) (da_fCons (de_fTup (da_fCons de_int (da_fCons de_int da_fNil))) (da_fCons (de_var 0 (pv 0)) (da_fCons (de_fTup (da_fCons (de_fTup (da_fCons de_int (da_fCons (de_fTup (da_fCons de_int da_fNil)) da_fNil))) (da_fCons (de_fTup (da_fCons de_int (da_fCons (de_fTup (da_fCons de_int da_fNil)) da_fNil))) da_fNil))) da_fNil)))))))))
  (s_cons (s_app (ds_app 1 (pv 1) (ec (de_call c_p_is_book_map o (by decide) runF_len rfl (da_fCons (de_fTup (da_fCons de_int da_fNil)) (da_fCons (de_fTup (da_fCons de_int (da_fCons (de_fTup (da_fCons (de_fTup (da_fCons de_int (da_fCons (de_fTup (da_fCons de_int (da_fCons de_int da_fNil))) da_fNil))) da_fNil)) da_fNil))) (da_fCons (de_fTup (da_fCons de_int da_fNil)) (da_fCons (de_fTup (da_fCons de_int (da_fCons (de_fTup (da_fCons (de_fTup (da_fCons de_int (da_fCons (de_fTup (da_fCons de_int da_fNil)) da_fNil))) da_fNil)) da_fNil))) (da_fCons (de_fTup (da_fCons (de_fTup (da_fCons de_int (da_fCons (de_fTup (da_fCons de_int da_fNil)) da_fNil))) da_fNil)) da_fNil)))))))))
  (s_frz 1 (s_cons (s_if (ds_if (t_not (tv (ec (de_call c_ql_like o (by decide) len_ql_like rfl (da_fCons (de_var 1 (pv 1)) (da_fCons (de_fLst (da_fCons de_bl (da_fCons de_bl (da_fCons de_bl (da_fCons de_bl da_fNil))))) da_fNil))))))
  (s_one (s_ret (ds_ret de_bl)))
  s_nil))
  (s_cons (s_bind (ds_bind (.pr 3 4) (pg_pr o.calm (pg_name (i := 3) sc_l_by_hand.nd rfl (by first | exact Or.inl rfl | exact Or.inr rfl)) (pg_name (i := 4) sc_l_by_hand.nd rfl (by first | exact Or.inl rfl | exact Or.inr rfl))) (de_fTup (da_fCons (de_fTup (da_fCons de_int (da_fCons (de_fTup (da_fCons (de_fTup (da_fCons de_int (da_fCons (de_fTup da_fNil) da_fNil))) (da_fCons (de_fTup (da_fCons de_int (da_fCons (de_fTup da_fNil) da_fNil))) (da_fCons (de_fTup (da_fCons de_int (da_fCons (de_fTup (da_fCons de_int da_fNil)) da_fNil))) da_fNil)))) da_fNil))) (da_fCons (de_fTup (da_fCons de_int (da_fCons (de_fTup (da_fCons (de_fTup (da_fCons de_int (da_fCons (de_fTup (da_fCons de_int da_fNil)) da_fNil))) (da_fCons (de_fTup (da_fCons de_int (da_fCons (de_fTup da_fNil) da_fNil))) (da_fCons (de_fTup (da_fCons de_int (da_fCons (de_fTup da_fNil) da_fNil))) da_fNil)))) da_fNil))) da_fNil)))))
  (s_cons (s_set (ds_set 2 sc_l_by_hand.nd rfl (by first | exact Or.inl rfl | exact Or.inr rfl) (e2 (de_add (de_fTup (da_fCons (de_fTup (da_fCons de_int (da_fCons (de_fTup (da_fCons de_int da_fNil)) da_fNil))) (da_fCons (de_fTup (da_fCons de_int (da_fCons (de_fTup da_fNil) da_fNil))) (da_fCons (de_fTup (da_fCons de_int (da_fCons (de_fTup (da_fCons de_int da_fNil)) da_fNil))) (da_fCons (de_fTup (da_fCons de_int (da_fCons (de_fTup da_fNil) da_fNil))) da_fNil))))) (de_fTup (da_fCons (de_fTup (da_fCons de_int (da_fCons (de_fTup da_fNil) da_fNil))) da_fNil))))))
  (s_cons (s_set (ds_set 2 sc_l_by_hand.nd rfl (by first | exact Or.inl rfl | exact Or.inr rfl) (e2 (de_add (e2 (de_add (de_var 2 (pv 2)) (de_fTup (da_fCons (de_fTup (da_fCons de_int (da_fCons (de_fTup (da_fCons de_int da_fNil)) da_fNil))) (da_fCons (de_fTup (da_fCons de_int (da_fCons (de_fTup da_fNil) da_fNil))) (da_fCons (de_fTup (da_fCons de_int (da_fCons (de_fTup (da_fCons de_int da_fNil)) da_fNil))) (da_fCons (de_fTup (da_fCons de_int (da_fCons (de_fTup da_fNil) da_fNil))) da_fNil))))))) (de_fTup (da_fCons (de_fTup (da_fCons de_int (da_fCons (de_fTup (da_fCons de_int da_fNil)) da_fNil))) (da_fCons (de_fTup (da_fCons de_int (da_fCons (de_fTup da_fNil) da_fNil))) (da_fCons (de_fTup (da_fCons de_int (da_fCons (de_fTup (da_fCons de_int da_fNil)) da_fNil))) (da_fCons (de_fTup (da_fCons de_int (da_fCons (de_fTup da_fNil) da_fNil))) da_fNil)))))))))
  (s_cons (s_set (ds_set 2 sc_l_by_hand.nd rfl (by first | exact Or.inl rfl | exact Or.inr rfl) (e2 (de_add (e2 (de_add (de_var 2 (pv 2)) (de_fTup (da_fCons (de_fTup (da_fCons de_int (da_fCons (de_fTup (da_fCons de_int (da_fCons de_int da_fNil))) da_fNil))) (da_fCons (de_fTup (da_fCons de_int (da_fCons (de_fTup (da_fCons de_int da_fNil)) da_fNil))) (da_fCons (de_fTup (da_fCons de_int (da_fCons (de_fTup (da_fCons de_int (da_fCons de_int da_fNil))) da_fNil))) (da_fCons (de_fTup (da_fCons de_int (da_fCons (de_fTup (da_fCons de_int da_fNil)) da_fNil))) da_fNil))))))) (de_fTup (da_fCons (de_fTup (da_fCons de_int (da_fCons (de_fTup (da_fCons de_int (da_fCons de_int da_fNil))) da_fNil))) (da_fCons (de_fTup (da_fCons de_int (da_fCons (de_fTup (da_fCons de_int da_fNil)) da_fNil))) (da_fCons (de_fTup (da_fCons de_int (da_fCons (de_fTup (da_fCons de_int (da_fCons de_int da_fNil))) da_fNil))) (da_fCons (de_fTup (da_fCons de_int (da_fCons (de_fTup (da_fCons de_int da_fNil)) da_fNil))) da_fNil)))))))))
  (s_cons (s_set (ds_set 2 sc_l_by_hand.nd rfl (by first | exact Or.inl rfl | exact Or.inr rfl) (e2 (de_add (de_var 2 (pv 2)) (de_fTup (da_fCons (de_fTup (da_fCons de_int (da_fCons (de_fTup da_fNil) da_fNil))) (da_fCons (de_fTup (da_fCons de_int (da_fCons (de_fTup da_fNil) da_fNil))) (da_fCons (de_fTup (da_fCons de_int (da_fCons (de_fTup (da_fCons de_int da_fNil)) da_fNil))) (da_fCons (de_fTup (da_fCons de_int (da_fCons (de_fTup (da_fCons de_int da_fNil)) da_fNil))) da_fNil)))))))))
  (s_one (s_ret (ds_ret (ec (de_call c_ql_like o (by decide) len_ql_like rfl (da_fCons (v_callK k_p_product_book o (by decide) runF_len rfl (dk_cons (de_var 4 (pv 4)) (dk_cons (de_fTup (da_fCons de_int (da_fCons de_int da_fNil))) (dk_cons (de_var 3 (pv 3)) (dk_cons (de_fTup (da_fCons de_int (da_fCons de_int da_fNil))) dk_nil))))) (da_fCons (de_fTup (da_fCons de_int (da_fCons (de_var 2 (pv 2)) da_fNil))) da_fNil)))))))))))))))))))

end K50

set_option Elab.async false
set_option linter.all false
set_option maxRecDepth 100000
set_option maxHeartbeats 4000000
namespace K50
open PySem PySem.Spec PyProof.Rows L2
variable {P : Program} {w : World} {K : PySem.W.Frag} {mg : Str → Option Value} {base : Heap}
theorem mul_l {a b : Int} (h : a.natAbs < 1152921504606846976) : opMul (.int a) (.int b) = some (.int (a * b)) := if_pos (.inl h)
theorem mul_r {a b : Int} (h : b.natAbs < 1152921504606846976) : opMul (.int a) (.int b) = some (.int (a * b)) := if_pos (.inr h)
theorem mod_p {a b : Int} (h : 0 < b) : opMod (.int a) (.int b) = some (.int (a % b)) := if_pos h
theorem floor_p {a b : Int} (h : 0 < b ∧ b < 1073741824) : opFloor (.int a) (.int b) = some (.int (a / b)) := if_pos h
theorem mixed_some (a b : Int) (hb : b.natAbs < 1152921504606846976) : ∃ r : Int, l_mixed [.int a, .int b] = some (.int r) := by
  unfold l_mixed runF b_l_mixed gSeq gSet gRet f2 fCall fCons fNil fVar fC ini opInt
  have h1 : (a % 2147483647).natAbs < 1152921504606846976 := by omega
  have h2 : (69621 : Int).natAbs < 1152921504606846976 := by decide
  simp [mod_p, mul_r, mul_l, hb, h1, h2, opAdd]
def n_draw : List PyData → Nm PyData
  | [.int (.ofNat k)] => if 0 < k ∧ k ≤ 1000 then some (1, (List.range k).map fun (i : Nat) => PyData.int (i : Int)) else none
  | _ => none
theorem n_draw_len (ds : List PyData) (z : Nat × List PyData) (h : n_draw ds = some z) : ds.length + 1 = 2 := by
  unfold n_draw at h
  split at h
  · rfl
  · cases h
theorem n_draw_some {ds : List PyData} {m : Nat} {T : PyData → Nat → Prop} (h : Nd (n_draw ds) m T) : ∃ k : Nat, ds = [.int (k : Int)] ∧ 0 < k ∧ k ≤ 1000 ∧ m + 1 ≤ 1000000 ∧ ∀ i : Nat, i < k → T (.int (i : Int)) (m + 1) := by
  obtain ⟨z, e, l, q⟩ := h
  unfold n_draw at e
  split at e
  · next k =>
    split at e
    · next hk =>
      cases e
      exact ⟨k, rfl, hk.1, hk.2, l, fun i hi => q _ (List.mem_map.mpr ⟨i, List.mem_range.mpr hi, rfl⟩) (m + 1) (by omega) (Nat.le_refl _)⟩
    · cases e
  · cases e
theorem sc_n_draw : FnScope ["_law_state", "_law_limit", "_law_at", "_law_place", "_law_left", "_law_number"] ["_law_state", "_law_limit"] (defScope (top 51)) := ⟨rfl, rfl, rfl, by decide +kernel, rfl, by decide +kernel, by decide +kernel⟩
theorem ok_n_draw (T : Txt mg) (hF : Has K mg "_law_draw" 51) (c_l_mixed : Cal P w K mg base 1 "_law_mixed" ["_law_cell", "_law_k"] (spF 2 l_mixed)) : Cal P w K mg base 2 "_law_draw" ["_law_state", "_law_limit"] (spN 2 n_draw) :=
  calN_gen (k := 1) (y := "_law_state") (N := ["_law_limit", "_law_at", "_law_place", "_law_left", "_law_number"]) hF sc_n_draw rfl (fun _ _ _ _ _ _ us hl => match us, hl with | [_, _], _ => rfl) fun f cd A outer s H F p c l L o hL hL2 =>
  have hu : (cxK P w K mg base ["_law_state", "_law_limit", "_law_at", "_law_place", "_law_left", "_law_number"] "_law_draw" (defScope (top 51)) f cd A outer s H).nox.A.units + 1 < cLine := by have := o.u64; omega
  ⟨_, dss_cons (ds_set 2 sc_n_draw.nd rfl (by first | exact Or.inl rfl | exact Or.inr rfl) (de_at hu (pv 0)))
    (dss_cons (ds_putAt hu (pv 0) (de_add (de_var 2 (pv 2)) de_int))
    (dss_cons (ds_set 3 sc_n_draw.nd rfl (by first | exact Or.inl rfl | exact Or.inr rfl) (de_mod (de_intc rfl T.int (da_cons (de_var 2 (pv 2)) da_nil)) (de_lenC hu rfl T.len (pv 0))))
    (dss_cons (ds_set 4 sc_n_draw.nd rfl (by first | exact Or.inl rfl | exact Or.inr rfl) (de_item false hu (pv 0) (de_var 3 (pv 3))))
    (dss_cons (ds_if (dt_gt (de_var 4 (pv 4)) de_int) (dss_cons (ds_putL hu (pv 0) (de_var 3 (pv 3)) (de_floor (de_var 4 (pv 4)) (de_var 1 (pv 1)))) (dss_one (ds_ret (de_mod (de_intc rfl T.int (da_cons (de_var 4 (pv 4)) da_nil)) (de_var 1 (pv 1)))))) dss_nil)
    (dss_cons (ds_set 5 sc_n_draw.nd rfl (by first | exact Or.inl rfl | exact Or.inr rfl) (de_call c_l_mixed o (by decide) runF_len rfl (da_cons (de_call c_l_mixed o (by decide) runF_len rfl (da_cons (de_item true hu (pv 0) (de_var 3 (pv 3))) (da_cons (de_var 2 (pv 2)) da_nil))) (da_cons (de_add de_int (de_var 2 (pv 2))) da_nil))))
    (dss_one (ds_ret (de_mod (de_floor (de_intc rfl T.int (da_cons (de_add (de_mul (de_var 5 (pv 5)) de_int) (de_call c_l_mixed o (by decide) runF_len rfl (da_cons (de_var 5 (pv 5)) (da_cons (de_add de_int (de_var 2 (pv 2))) da_nil)))) da_nil)) de_int) (de_var 1 (pv 1)))))))))), by
    intro ds m T hl q
    obtain ⟨k, rfl, hk, hk2, hm, q⟩ := n_draw_some q
    refine ⟨rfl, rfl, _, rfl, _, rfl, _, rfl, rfl, _, rfl, _, rfl, rfl, _, mod_p (by omega), rfl, _, rfl, m % L, rfl, Nat.mod_lt _ hL, fun x => ?_⟩
    refine ⟨_, rfl, _, rfl, _, rfl, _, rfl, ?_⟩
    have hkI : (0 : Int) < (k : Int) := by omega
    have fin : ∀ y : Int, T (.int (y % (k : Int))) (m + 1) := fun y => by
      have h1 := Int.emod_nonneg y (show (k : Int) ≠ 0 by omega)
      have h2 := Int.emod_lt_of_pos y hkI
      have h3 : y % (k : Int) = (((y % (k : Int)).toNat : Nat) : Int) := by omega
      rw [h3]
      exact q _ (by omega)
    by_cases hx : 0 < x
    · simp only [hx, decide_true, if_true]
      exact ⟨rfl, _, rfl, _, rfl, _, floor_p (by omega), ⟨_, rfl⟩, _, rfl, m % L, rfl, Nat.mod_lt _ hL, _, rfl, _, rfl, _, rfl, _, mod_p hkI, fin _⟩
    · simp only [hx, decide_false, Bool.false_eq_true, if_false]
      refine ⟨rfl, _, rfl, m % L, rfl, Nat.mod_lt _ hL, fun x2 => ?_⟩
      obtain ⟨r1, e1⟩ := mixed_some x2 (m : Int) (by omega)
      obtain ⟨r2, e2⟩ := mixed_some r1 (40 + (m : Int)) (by omega)
      obtain ⟨r3, e3⟩ := mixed_some r2 (7 + (m : Int)) (by omega)
      exact ⟨_, rfl, _, e1, _, rfl, _, rfl, _, rfl, _, e2, _, rfl, _, rfl, _, mul_r (by decide), _, rfl, _, rfl, _, rfl, _, rfl, _, e3, _, rfl, _, rfl, _, rfl, _, floor_p (by decide), _, rfl, _, mod_p hkI, fin _⟩⟩
end K50

set_option Elab.async false
set_option linter.all false
set_option maxRecDepth 100000
set_option maxHeartbeats 4000000
namespace K50
open PySem PySem.Spec PyProof.Rows L2
variable {P : Program} {w : World} {K : PySem.W.Frag} {mg : Str → Option Value} {base : Heap}

/-! what is forgotten -/
def sameE : Option EV → Option EV → Bool
  | none, none => true
  | some .st, some .st => true
  | some (.d x), some (.d y) => sameD x y
  | some (.own xs), some (.own ys) => sameL xs ys
  | _, _ => false
theorem sameE_eq (x y : Option EV) (h : sameE x y = true) : x = y := by
  unfold sameE at h
  split at h
  · rfl
  · rfl
  · rw [sameD_eq _ _ h]
  · rw [sameL_eq _ _ h]
  · cases h
def sameS : Sl → Sl → Bool
  | [], [] => true
  | x :: xs, y :: ys => sameE x y && sameS xs ys
  | _, _ => false
theorem sameS_eq : ∀ (x y : Sl), sameS x y = true → x = y
  | [], ys, h => by cases ys <;> simp [sameS] at h ⊢
  | x :: xs, ys, h => by
    cases ys with
    | nil => simp [sameS] at h
    | cons y ys =>
      simp only [sameS, Bool.and_eq_true] at h
      rw [sameE_eq x y h.1, sameS_eq xs ys h.2]
def sameO : Out → Out → Bool
  | .nx x, .nx y => sameS x y
  | .rt x, .rt y => sameD x y
  | _, _ => false
theorem sameO_eq (x y : Out) (h : sameO x y = true) : x = y := by
  unfold sameO at h
  split at h
  · rw [sameS_eq _ _ h]
  · rw [sameD_eq _ _ h]
  · cases h
def dedup {α : Type} (e : α → α → Bool) : List α → List α
  | [] => []
  | x :: xs => if (dedup e xs).any (e x) then dedup e xs else x :: dedup e xs
theorem dedup_mem {α : Type} {e : α → α → Bool} (he : ∀ x y, e x y = true → x = y) : ∀ (xs : List α) (x : α), x ∈ xs → x ∈ dedup e xs
  | y :: xs, x, h => by
    unfold dedup
    rcases List.mem_cons.mp h with rfl | h
    · split
      · next q =>
        obtain ⟨z, h1, h2⟩ := List.any_eq_true.mp q
        rw [he _ _ h2]; exact h1
      · simp
    · have := dedup_mem he xs x h
      split
      · exact this
      · simp [this]
def fgt : List Nat → Sl → Sl
  | [], ρ => ρ
  | i :: is, ρ => (fgt is ρ).set i none
theorem Rp.forg {B : Bs} {F H : Hp} {σ : L2.St} {ρ : Sl} {n : Nat} (R : Rp B F H σ ρ n) : ∀ is : List Nat, Rp B F H σ (fgt is ρ) n
  | [] => R
  | i :: is => by
    have R1 := R.forg is
    refine ⟨by unfold fgt; rw [List.length_set]; exact R1.len, R1.step, fun j e h => ?_, fun j k xs ys l h1 h2 h3 h4 => ?_, R1.stf, R1.inv⟩
    · rcases get_set h with ⟨rfl, hl, e1⟩ | ⟨hne, h1⟩
      · cases e1
      · exact R1.slot j e h1
    · rcases get_set h1 with ⟨_, _, e1⟩ | ⟨hne, h1⟩
      · cases e1
      rcases get_set h2 with ⟨_, _, e1⟩ | ⟨hne2, h2⟩
      · cases e1
      exact R1.sep j k xs ys l h1 h2 h3 h4
theorem dss_fgt {X : Cx} {B : Bs} {sts : List Stmt} {t : TSD} (is : List Nat) (h : DSs X B sts t) : DSs X B sts (fun E ρ n => t E (fgt is ρ) n) :=
  ⟨pss_wk h.ps fun D σ H ⟨E, F, ρ, n, R, ok, q⟩ => ⟨E, F, fgt is ρ, n, R.forg is, ok, q⟩, fun h1 q => h.mono h1 q⟩
def fgO (is : List Nat) : Out → Out
  | .nx ρ => .nx (fgt is ρ)
  | .rt d => .rt d
def ndd (is : List Nat) (x : Nm Out) : Nm Out := x.map fun y => (y.1, dedup sameO (y.2.map (fgO is)))
theorem Nd.dd {is : List Nat} {x : Nm Out} {n : Nat} {Q : Out → Nat → Prop} (h : Nd (ndd is x) n Q) : Nd x n fun o m => Q (fgO is o) m := by
  obtain ⟨y, e, l, q⟩ := h
  obtain ⟨z, e1, e2⟩ := Option.map_eq_some_iff.mp e
  subst e2
  exact ⟨z, e1, l, fun a ha m m1 m2 => q _ (dedup_mem sameO_eq _ _ (List.mem_map.mpr ⟨a, ha, rfl⟩)) m m1 m2⟩
def nSeqD (is : List Nat) (g h : Sl → Nm Out) : Sl → Nm Out := fun ρ => nBind (ndd is (g ρ)) fun o => match o with
  | .nx ρ' => h ρ'
  | .rt d => nRet (.rt d)
theorem ns_consD {X : Cx} {B : Bs} {st : Stmt} {sts : List Stmt} {g h : Sl → Nm Out} (is : List Nat) (h1 : DS X B st (NSD g)) (h2 : DSs X B sts (NSD h)) : DSs X B (st :: sts) (NSD (nSeqD is g h)) := (dss_cons h1 (dss_fgt is h2)).imp (fun E ρ n q => Nd.mono (fun o m z => by
  cases o with
  | nx ρ' => exact z
  | rt d => exact (nd_out (E := E) z : E.rt d m)) (Nd.dd (Nd.bind q))) nsd_mono
theorem ns_consD2 {X : Cx} {B : Bs} {st st2 : Stmt} {sts : List Stmt} {g g2 h : Sl → Nm Out} (is : List Nat) (h1 : DS X B st (NSD g)) (h3 : DS X B st2 (NSD g2)) (h2 : DSs X B sts (NSD h)) : DSs X B (st :: st2 :: sts) (NSD (nSeqD is (nSeq g g2) h)) := (dss_cons h1 (dss_cons h3 (dss_fgt is h2))).imp (fun E ρ n q => by
  refine Nd.mono (fun o m z => ?_) (Nd.bind (Nd.dd (Nd.bind q)))
  cases o with
  | nx ρ1 =>
    refine Nd.mono (fun o2 m2 z2 => ?_) z
    cases o2 with
    | nx ρ2 => exact z2
    | rt d => exact (nd_out (E := E) z2 : E.rt d m2)
  | rt d =>
    have z1 := Nd.ret z
    exact (nd_out (E := E) z1 : E.rt d m)) nsd_mono
/-! a def's outcomes by a list -/
def cN (c : Nat) (as : List PyData) : List PyData → Nm PyData
  | [] => some (c, as)
  | _ => none
theorem len_cN {c : Nat} {as : List PyData} (ds : List PyData) (z : Nat × List PyData) (h : cN c as ds = some z) : ds.length + 1 = 1 := by
  unfold cN at h
  split at h
  · rfl
  · cases h
def subN (x : Nm PyData) (c : Nat) (as : List PyData) : Bool := match x with
  | some y => decide (y.1 ≤ c) && y.2.all fun a => as.any (sameD a)
  | none => false
theorem Cal.wkN {k c : Nat} {x : Str} {ps : List Str} {f : List PyData → Nm PyData} {as : List PyData} (h : Cal P w K mg base k x ps (spN 1 f)) (s : subN (f []) c as = true) : Cal P w K mg base k x ps (spN 1 (cN c as)) := by
  obtain ⟨a, fd, F, hm, hk, hb⟩ := h
  have up : ∀ vs H Q E, spN 1 (cN c as) vs H Q E → spN 1 f vs H Q E := fun vs H Q E ⟨p, c', l, L, F1, ws, ds, n, h1, h2, h3, h4, h5, h6, q⟩ => by
    refine ⟨p, c', l, L, F1, ws, ds, n, h1, h2, h3, h4, h5, h6, ?_⟩
    have : ds = [] := List.length_eq_zero_iff.mp (by omega)
    subst this
    obtain ⟨z, e, l, q⟩ := q
    cases e
    unfold subN at s
    split at s
    · next y e =>
      simp only [Bool.and_eq_true, decide_eq_true_eq, List.all_eq_true] at s
      dsimp only at l q
      exact ⟨y, e, by omega, fun b hb m m1 m2 => by
        obtain ⟨b', h7, h8⟩ := List.any_eq_true.mp (s.2 b hb)
        rw [← sameD_eq _ _ h8] at h7
        exact q b h7 m m1 (by omega)⟩
    · cases s
  exact ⟨a, fd, ⟨fun vs H Q E h => F.len vs H Q E (up _ _ _ _ h), fun A outer s H args us vs Q r g e b v h => F.run A outer s H args us vs Q r g e b v (up _ _ _ _ h)⟩, hm, hk, hb⟩
/-! outcomes that are all true -/
def isTr : PyData → Bool
  | .bool true => true
  | _ => false
def outTr : Out → Bool
  | .rt d => isTr d
  | _ => false
def chkO (x : Nm Out) (c : Nat) : Bool := match x with
  | some y => Nat.ble y.1 c && y.2.all outTr
  | none => false
theorem isTr_eq {d : PyData} (h : isTr d = true) : d = .bool true := by
  unfold isTr at h
  split at h
  · rfl
  · cases h
theorem chkO_some {x : Nm Out} {c : Nat} (h : chkO x c = true) : ∃ y, x = some y ∧ y.1 ≤ c ∧ ∀ o ∈ y.2, o = .rt (.bool true) := by
  unfold chkO at h
  split at h
  · next y =>
    simp only [Bool.and_eq_true, List.all_eq_true, Nat.ble_eq] at h
    refine ⟨y, rfl, h.1, fun o ho => ?_⟩
    have := h.2 o ho
    cases o with
    | nx ρ => cases this
    | rt d => rw [isTr_eq this]
  · cases h
theorem nAll_tr {α : Type} {k : α → Nm Out} {c : Nat} : ∀ (as : List α), (∀ a ∈ as, chkO (k a) c = true) → ∃ y, nAll k as = some y ∧ y.1 ≤ c ∧ ∀ o ∈ y.2, o = .rt (.bool true)
  | [], _ => ⟨(0, []), rfl, Nat.zero_le _, fun o ho => absurd ho (by simp)⟩
  | a :: as, h => by
    obtain ⟨y, e1, l1, q1⟩ := chkO_some (h a (by simp))
    obtain ⟨z, e2, l2, q2⟩ := nAll_tr as fun b hb => h b (by simp [hb])
    refine ⟨(max y.1 z.1, y.2 ++ z.2), ?_, by dsimp only; omega, fun o ho => ?_⟩
    · unfold nAll
      rw [e1]
      show (nAll k as).bind _ = _
      rw [e2]
      rfl
    · rcases List.mem_append.mp ho with h | h
      · exact q1 o h
      · exact q2 o h
theorem sub_tr {N c c2 : Nat} {g h : Sl → Nm Out} {os : List Out} (e : g (iniN N []) = some (c, os)) (q : ∀ o ∈ os, ∃ ρ, o = .nx ρ ∧ chkO (h ρ) c2 = true) : subN (runN 1 N (nSeq g h) []) (c + c2) [.bool true] = true := by
  obtain ⟨y, e1, l1, q1⟩ := nAll_tr (k := fun o : Out => match o with
    | .nx ρ' => h ρ'
    | .rt d => nRet (.rt d)) (c := c2) os fun o ho => by
      obtain ⟨ρ, rfl, hc⟩ := q o ho
      exact hc
  have e2 : nSeq g h (iniN N []) = some (c + y.1, y.2) := by
    unfold nSeq nBind
    rw [e]
    exact (congrArg (fun q : Nm Out => q.bind fun z => some (c + z.1, z.2)) e1).trans rfl
  have q2 : ∀ l : List Out, (∀ o ∈ l, o = .rt (.bool true)) → nAll (fun o : Out => nRet (match o with
    | .rt d => d
    | .nx _ => PyData.none)) l = some (0, l.map fun _ => PyData.bool true) := fun l => by
    induction l with
    | nil => intro _; rfl
    | cons o l ih =>
      intro ho
      have e3 := ho o (by simp)
      subst e3
      unfold nAll
      show (nAll _ l).bind _ = _
      rw [ih fun o h => ho o (by simp [h])]
      rfl
  have e3 : runN 1 N (nSeq g h) [] = some (c + y.1 + 0, y.2.map fun _ => PyData.bool true) := by
    show nBind (nSeq g h (iniN N [])) _ = _
    rw [e2]
    exact (congrArg (fun q : Nm PyData => q.bind fun z => some (c + y.1 + z.1, z.2)) (q2 y.2 q1)).trans rfl
  rw [e3]
  show (decide (c + y.1 + 0 ≤ c + c2) && (y.2.map fun _ => PyData.bool true).all fun a => [PyData.bool true].any (sameD a)) = true
  simp only [Bool.and_eq_true, decide_eq_true_eq, List.all_eq_true]
  refine ⟨by omega, fun a ha => ?_⟩
  obtain ⟨_, _, rfl⟩ := List.mem_map.mp ha
  rfl

/-! of -/
def b_n_of : Sl → Nm Out := (nRt (n2 opIdx (nP (fVar 1)) (nCallN 0 n_draw (nP (fCons (fCall opLen (fCons (fVar 1) fNil)) fNil)))))
def r_n_of : List PyData → Nm PyData := runN 2 2 b_n_of
theorem sc_n_of : FnScope ["_law_state", "_law_some"] ["_law_state", "_law_some"] (defScope (top 52)) := ⟨rfl, rfl, rfl, by decide +kernel, rfl, by decide +kernel, by decide +kernel⟩
theorem ok_n_of (T : Txt mg) (hF : Has K mg "_law_of" 52) (c_n_draw : Cal P w K mg base 2 "_law_draw" ["_law_state", "_law_limit"] (spN 2 n_draw)) : Cal P w K mg base 3 "_law_of" ["_law_state", "_law_some"] (spN 2 r_n_of) :=
  calN_of (k := 2) (y := "_law_state") (N := ["_law_some"]) hF sc_n_of rfl (fun _ _ _ _ _ _ us hl => match us, hl with | [_, _], _ => rfl) (body := b_n_of) fun f cd A outer s H F p c l L o =>
  (ns_one (ns_ret (ds_ret (ne2 (de_idx (ne_p (de_var 1 (pv 1))) (de_callN c_n_draw o (by decide) n_draw_len rfl (pv 0) (na_p (da_fCons (ec (de_len rfl T.len (da_fCons (de_var 1 (pv 1)) da_fNil))) da_fNil))))))))

abbrev n_of := r_n_of
theorem len_n_of (ds : List PyData) (z : Nat × List PyData) (h : n_of ds = some z) : ds.length + 1 = 2 := runN_len ds z h

/-! table -/
def b_n_table : Sl → Nm Out := (nSeq (nP (gSet 3 (fTup fNil)))
  (nSeq (nFor (.nm 4) (fItems (fVar 1))
  (nSeq (nP (gSet 5 (fComp (.pr 8 9) [8, 9] (fOr (fT (f2 opGt (fVar 4) (fC (.int 0)))) (fT (f2 opEq (fVar 9) (fC (.int 0))))) (fVar 8) (fEnum (fVar 2)))))
  (nSeq (nP (gIf (fT (f2 opEq (fVar 5) (fLst fNil)))
  (gRet (fC .none))
  gNext))
  (nSeq (nSet 6 (nCallN 0 n_of (nP (fCons (fVar 5) fNil))))
  (nSeq (nSet 7 (nCall opTuple (nCons (nComp (.nm 10) [10] (nCallN 0 n_draw (nP (fCons (fVar 4) fNil))) (fRange (f2 opIdx (fVar 2) (fVar 6)))) (fun _ => nRet []))))
  (nP (gSet 3 (f2 opAdd (fVar 3) (fTup (fCons (fTup (fCons (fVar 6) (fCons (fVar 7) fNil))) fNil))))))))))
  (nP (gRet (fVar 3)))))
def r_n_table : List PyData → Nm PyData := runN 3 11 b_n_table
theorem sc_n_table : FnScope ["_law_state", "_law_near_so", "_law_far_so", "_law_found", "_law_many", "_law_good", "_law_pick", "_law_row", "_law_k", "_law_wide", "_law_step"] ["_law_state", "_law_near_so", "_law_far_so"] (defScope (top 53)) := ⟨rfl, rfl, rfl, by decide +kernel, rfl, by decide +kernel, by decide +kernel⟩
theorem ok_n_table (T : Txt mg) (hF : Has K mg "_law_table" 53) (c_n_of : Cal P w K mg base 3 "_law_of" ["_law_state", "_law_some"] (spN 2 n_of)) (c_n_draw : Cal P w K mg base 2 "_law_draw" ["_law_state", "_law_limit"] (spN 2 n_draw)) : Cal P w K mg base 4 "_law_table" ["_law_state", "_law_near_so", "_law_far_so"] (spN 3 r_n_table) :=
  calN_of (k := 3) (y := "_law_state") (N := ["_law_near_so", "_law_far_so", "_law_found", "_law_many", "_law_good", "_law_pick", "_law_row", "_law_k", "_law_wide", "_law_step"]) hF sc_n_table rfl (fun _ _ _ _ _ _ us hl => match us, hl with | [_, _, _], _ => rfl) (body := b_n_table) fun f cd A outer s H F p c l L o =>
  (ns_cons (ns_p (s_set (ds_set 3 sc_n_table.nd rfl (by first | exact Or.inl rfl | exact Or.inr rfl) (de_fTup da_fNil))))
  (ns_cons (ns_for (ds_for (.nm 4) PassesOwn.never o.calm (di_seq (de_var 1 (pv 1))) (pg_name (i := 4) sc_n_table.nd rfl (by first | exact Or.inl rfl | exact Or.inr rfl))
  (ns_cons (ns_p (s_setC (ds_setComp 5 (.pr 8 9) [("_law_k", 8), ("_law_wide", 9)] o.calm sc_n_table.nd rfl rfl (sw_true rfl rfl rfl (by decide +kernel)) (di_enum rfl T.enumerate (de_var 2 (pv 2))) (blkOk_by (N := ["_law_state", "_law_near_so", "_law_far_so", "_law_found", "_law_many", "_law_good", "_law_pick", "_law_row", "_law_k", "_law_wide", "_law_step"]) (sc := defScope (top 53)) (by decide +kernel)) (fun _ _ _ _ _ => (pg_pr o.blk.calm (pg_name (i := 8) sc_n_table.nd rfl (by first | exact Or.inl rfl | exact Or.inr rfl)) (pg_name (i := 9) sc_n_table.nd rfl (by first | exact Or.inl rfl | exact Or.inr rfl)))) (fun _ _ _ _ _ => (ts_one (DW.dt (w_or (t2 (dt_gt (de_var 4 (pv 4)) de_int)) (w_or1 (t2 (dt_eq o.blk.u64 (de_var 9 (pv 9)) de_int))))))) (fun _ _ _ _ _ => (de_var 8 (pv 8))) (by decide))))
  (ns_cons (ns_p (s_if (ds_if (t2 (dt_eq o.u64 (de_var 5 (pv 5)) (de_fLst da_fNil)))
  (s_one (s_ret (ds_ret de_non)))
  s_nil)))
  (ns_cons (ns_set (ds_set 6 sc_n_table.nd rfl (by first | exact Or.inl rfl | exact Or.inr rfl) (de_callN c_n_of o (by decide) len_n_of rfl (pv 0) (na_p (da_fCons (de_var 5 (pv 5)) da_fNil)))))
  (ns_cons (ns_set (ds_set 7 sc_n_table.nd rfl (by first | exact Or.inl rfl | exact Or.inr rfl) (nec (de_tuple rfl T.tuple (na_cons (ne_comp (de_comp (.nm 10) [("_law_step", 10)] o.calm sc_n_table.nd (di_range rfl T.range (e2 (de_idx (de_var 2 (pv 2)) (de_var 6 (pv 6))))) (blkOk_by (N := ["_law_state", "_law_near_so", "_law_far_so", "_law_found", "_law_many", "_law_good", "_law_pick", "_law_row", "_law_k", "_law_wide", "_law_step"]) (sc := defScope (top 53)) (by decide +kernel)) (fun _ _ _ _ _ => (pg_name (i := 10) sc_n_table.nd rfl (by first | exact Or.inl rfl | exact Or.inr rfl))) (fun _ _ _ _ _ => ts_nil) (fun _ _ _ _ _ => (de_callN c_n_draw o.blk (by decide) n_draw_len rfl (pv 0) (na_p (da_fCons (de_var 4 (pv 4)) da_fNil)))) (by decide))) na_nil)))))
  (nss_p (s_one (s_set (ds_set 3 sc_n_table.nd rfl (by first | exact Or.inl rfl | exact Or.inr rfl) (e2 (de_add (de_var 3 (pv 3)) (de_fTup (da_fCons (de_fTup (da_fCons (de_var 6 (pv 6)) (da_fCons (de_var 7 (pv 7)) da_fNil))) da_fNil))))))))))))))
  (nss_p (s_one (s_ret (ds_ret (de_var 3 (pv 3))))))))

abbrev n_table := r_n_table
theorem len_n_table (ds : List PyData) (z : Nat × List PyData) (h : n_table ds = some z) : ds.length + 1 = 3 := runN_len ds z h

/-! square -/
def b_n_square : Sl → Nm Out := (nSeq (nP (gSetOwn 2 (fCons (fTup (fCons (fTup (fCons (fC (.int 0)) (fCons (fC (.int 1)) (fCons (fC (.int 2)) fNil)))) (fCons (fTup (fCons (fC (.int 1)) (fCons (fC (.int 2)) (fCons (fC (.int 0)) fNil)))) (fCons (fTup (fCons (fC (.int 2)) (fCons (fC (.int 0)) (fCons (fC (.int 1)) fNil)))) fNil)))) (fCons (fTup (fCons (fTup (fCons (fC (.int 0)) (fCons (fC (.int 1)) (fCons (fC (.int 2)) fNil)))) (fCons (fTup (fCons (fC (.int 1)) (fCons (fC (.int 1)) (fCons (fC (.int 2)) fNil)))) (fCons (fTup (fCons (fC (.int 2)) (fCons (fC (.int 2)) (fCons (fC (.int 1)) fNil)))) fNil)))) fNil))))
  (nFrz 2 (nSeq (nP (gSetCat 2 (fVar 2) (fLst (fCons (fTup (fCons (fTup (fCons (fC (.int 0)) (fCons (fC (.int 1)) (fCons (fC (.int 2)) fNil)))) (fCons (fTup (fCons (fC (.int 1)) (fCons (fC (.int 0)) (fCons (fC (.int 2)) fNil)))) (fCons (fTup (fCons (fC (.int 2)) (fCons (fC (.int 2)) (fCons (fC (.int 2)) fNil)))) fNil)))) (fCons (fTup (fCons (fTup (fCons (fC (.int 0)) (fCons (fC (.int 1)) (fCons (fC (.int 2)) fNil)))) (fCons (fTup (fCons (fC (.int 1)) (fCons (fC (.int 1)) (fCons (fC (.int 2)) fNil)))) (fCons (fTup (fCons (fC (.int 2)) (fCons (fC (.int 2)) (fCons (fC (.int 2)) fNil)))) fNil)))) fNil)))))
  (nFrz 2 (nSeq (nP (gSetCat 2 (fVar 2) (fLst (fCons (fTup (fCons (fTup (fCons (fC (.int 0)) (fCons (fC (.int 1)) (fCons (fC (.int 2)) fNil)))) (fCons (fTup (fCons (fC (.int 1)) (fCons (fC (.int 1)) (fCons (fC (.int 1)) fNil)))) (fCons (fTup (fCons (fC (.int 2)) (fCons (fC (.int 2)) (fCons (fC (.int 2)) fNil)))) fNil)))) (fCons (fTup (fCons (fTup (fCons (fC (.int 0)) (fCons (fC (.int 1)) (fCons (fC (.int 2)) fNil)))) (fCons (fTup (fCons (fC (.int 1)) (fCons (fC (.int 1)) (fCons (fC (.int 2)) fNil)))) (fCons (fTup (fCons (fC (.int 2)) (fCons (fC (.int 1)) (fCons (fC (.int 2)) fNil)))) fNil)))) fNil)))))
  (nSeq (nP (gApp 2 (fTup (fCons (fTup (fCons (fC (.int 0)) (fCons (fC (.int 1)) (fCons (fC (.int 2)) fNil)))) (fCons (fTup (fCons (fC (.int 1)) (fCons (fC (.int 2)) (fCons (fC (.int 2)) fNil)))) (fCons (fTup (fCons (fC (.int 2)) (fCons (fC (.int 2)) (fCons (fC (.int 2)) fNil)))) fNil))))))
  (nSeq (nSet 3 (n2 opAdd (nP (fC (.int 1))) (nCallN 0 n_draw (nP (fCons (fVar 1) fNil)))))
  (nFrz 2 (nSeq (nSet 4 (nCallN 0 n_of (nP (fCons (f2 opIdx (fLst (fCons (fLst (fCons (fTup (fCons (fTup (fCons (fC (.int 0)) fNil)) fNil)) fNil)) (fCons (fLst (fCons (fTup (fCons (fTup (fCons (fC (.int 0)) (fCons (fC (.int 1)) fNil))) (fCons (fTup (fCons (fC (.int 1)) (fCons (fC (.int 0)) fNil))) fNil))) (fCons (fTup (fCons (fTup (fCons (fC (.int 0)) (fCons (fC (.int 1)) fNil))) (fCons (fTup (fCons (fC (.int 1)) (fCons (fC (.int 1)) fNil))) fNil))) fNil))) (fCons (fVar 2) fNil)))) (f2 opSub (fVar 3) (fC (.int 1)))) fNil))))
  (nSeq (nP (gSetOwn 5 fNil))
  (nSeq (nFor (.nm 6) (fRange (fVar 3))
  (nIns 5 (nCallN 0 n_draw (nP (fCons (f2 opAdd (fVar 6) (fC (.int 1))) fNil))) (nP (fVar 6))))
  (nP (gFrz 5 (gSeq (gPar 8 9 (fCons (fComp (.nm 10) [10] fYes (f2 opIndex (fVar 5) (fVar 10)) (fRange (fVar 3))) (fCons (fTup fNil) fNil)))
  (gSeq (gFor (.nm 7) (fItems (fVar 8))
  (gSet 9 (f2 opAdd (fVar 9) (fTup (fCons (fCall opTuple (fCons (fComp (.nm 11) [11] fYes (f2 opIdx (fVar 5) (f2 opIdx (f2 opIdx (fVar 4) (fVar 7)) (fVar 11))) (fItems (fVar 8))) fNil)) fNil)))))
  (gRet (fTup (fCons (f2 opIdx (fVar 5) (fC (.int 0))) (fCons (fVar 9) fNil)))))))))))))))))))
def r_n_square : List PyData → Nm PyData := runN 2 12 b_n_square
theorem sc_n_square : FnScope ["_law_state", "_law_most", "_law_three", "_law_many", "_law_told", "_law_names", "_law_step", "_law_near", "_law_olds", "_law_found", "_law_name", "_law_far"] ["_law_state", "_law_most"] (defScope (top 60)) := ⟨rfl, rfl, rfl, by decide +kernel, rfl, by decide +kernel, by decide +kernel⟩
theorem ok_n_square (T : Txt mg) (hF : Has K mg "_law_square" 60) (c_n_draw : Cal P w K mg base 2 "_law_draw" ["_law_state", "_law_limit"] (spN 2 n_draw)) (c_n_of : Cal P w K mg base 3 "_law_of" ["_law_state", "_law_some"] (spN 2 n_of)) : Cal P w K mg base 4 "_law_square" ["_law_state", "_law_most"] (spN 2 r_n_square) :=
  calN_of (k := 3) (y := "_law_state") (N := ["_law_most", "_law_three", "_law_many", "_law_told", "_law_names", "_law_step", "_law_near", "_law_olds", "_law_found", "_law_name", "_law_far"]) hF sc_n_square rfl (fun _ _ _ _ _ _ us hl => match us, hl with | [_, _], _ => rfl) (body := b_n_square) fun f cd A outer s H F p c l L o =>
  (ns_cons (ns_p (s_setOwn (ds_setOwn 2 sc_n_square.nd rfl (by first | exact Or.inl rfl | exact Or.inr rfl) (da_fCons (de_fTup (da_fCons (de_fTup (da_fCons de_int (da_fCons de_int (da_fCons de_int da_fNil)))) (da_fCons (de_fTup (da_fCons de_int (da_fCons de_int (da_fCons de_int da_fNil)))) (da_fCons (de_fTup (da_fCons de_int (da_fCons de_int (da_fCons de_int da_fNil)))) da_fNil)))) (da_fCons (de_fTup (da_fCons (de_fTup (da_fCons de_int (da_fCons de_int (da_fCons de_int da_fNil)))) (da_fCons (de_fTup (da_fCons de_int (da_fCons de_int (da_fCons de_int da_fNil)))) (da_fCons (de_fTup (da_fCons de_int (da_fCons de_int (da_fCons de_int da_fNil)))) da_fNil)))) da_fNil)))))
  (ns_frz 2 (ns_cons (ns_p (s_setCat (ds_setCat 2 sc_n_square.nd rfl (by first | exact Or.inl rfl | exact Or.inr rfl) (de_var 2 (pv 2)) (de_fLst (da_fCons (de_fTup (da_fCons (de_fTup (da_fCons de_int (da_fCons de_int (da_fCons de_int da_fNil)))) (da_fCons (de_fTup (da_fCons de_int (da_fCons de_int (da_fCons de_int da_fNil)))) (da_fCons (de_fTup (da_fCons de_int (da_fCons de_int (da_fCons de_int da_fNil)))) da_fNil)))) (da_fCons (de_fTup (da_fCons (de_fTup (da_fCons de_int (da_fCons de_int (da_fCons de_int da_fNil)))) (da_fCons (de_fTup (da_fCons de_int (da_fCons de_int (da_fCons de_int da_fNil)))) (da_fCons (de_fTup (da_fCons de_int (da_fCons de_int (da_fCons de_int da_fNil)))) da_fNil)))) da_fNil))))))
  (ns_frz 2 (ns_cons (ns_p (s_setCat (ds_setCat 2 sc_n_square.nd rfl (by first | exact Or.inl rfl | exact Or.inr rfl) (de_var 2 (pv 2)) (de_fLst (da_fCons (de_fTup (da_fCons (de_fTup (da_fCons de_int (da_fCons de_int (da_fCons de_int da_fNil)))) (da_fCons (de_fTup (da_fCons de_int (da_fCons de_int (da_fCons de_int da_fNil)))) (da_fCons (de_fTup (da_fCons de_int (da_fCons de_int (da_fCons de_int da_fNil)))) da_fNil)))) (da_fCons (de_fTup (da_fCons (de_fTup (da_fCons de_int (da_fCons de_int (da_fCons de_int da_fNil)))) (da_fCons (de_fTup (da_fCons de_int (da_fCons de_int (da_fCons de_int da_fNil)))) (da_fCons (de_fTup (da_fCons de_int (da_fCons de_int (da_fCons de_int da_fNil)))) da_fNil)))) da_fNil))))))
  (ns_cons (ns_p (s_app (ds_app 2 (pv 2) (de_fTup (da_fCons (de_fTup (da_fCons de_int (da_fCons de_int (da_fCons de_int da_fNil)))) (da_fCons (de_fTup (da_fCons de_int (da_fCons de_int (da_fCons de_int da_fNil)))) (da_fCons (de_fTup (da_fCons de_int (da_fCons de_int (da_fCons de_int da_fNil)))) da_fNil)))))))
  (ns_cons (ns_set (ds_set 3 sc_n_square.nd rfl (by first | exact Or.inl rfl | exact Or.inr rfl) (ne2 (de_add (ne_p de_int) (de_callN c_n_draw o (by decide) n_draw_len rfl (pv 0) (na_p (da_fCons (de_var 1 (pv 1)) da_fNil)))))))
  (ns_frz 2 (ns_cons (ns_set (ds_set 4 sc_n_square.nd rfl (by first | exact Or.inl rfl | exact Or.inr rfl) (de_callN c_n_of o (by decide) len_n_of rfl (pv 0) (na_p (da_fCons (e2 (de_idx (de_fLst (da_fCons (de_fLst (da_fCons (de_fTup (da_fCons (de_fTup (da_fCons de_int da_fNil)) da_fNil)) da_fNil)) (da_fCons (de_fLst (da_fCons (de_fTup (da_fCons (de_fTup (da_fCons de_int (da_fCons de_int da_fNil))) (da_fCons (de_fTup (da_fCons de_int (da_fCons de_int da_fNil))) da_fNil))) (da_fCons (de_fTup (da_fCons (de_fTup (da_fCons de_int (da_fCons de_int da_fNil))) (da_fCons (de_fTup (da_fCons de_int (da_fCons de_int da_fNil))) da_fNil))) da_fNil))) (da_fCons (de_var 2 (pv 2)) da_fNil)))) (e2 (de_sub (de_var 3 (pv 3)) de_int)))) da_fNil)))))
  (ns_cons (ns_p (s_setOwn (ds_setOwn 5 sc_n_square.nd rfl (by first | exact Or.inl rfl | exact Or.inr rfl) da_fNil)))
  (ns_cons (ns_for (ds_for (.nm 6) PassesOwn.never o.calm (di_range rfl T.range (de_var 3 (pv 3))) (pg_name (i := 6) sc_n_square.nd rfl (by first | exact Or.inl rfl | exact Or.inr rfl))
  (ns_one (ns_ins (ds_ins 5 (pv 5) (de_callN c_n_draw o (by decide) n_draw_len rfl (pv 0) (na_p (da_fCons (e2 (de_add (de_var 6 (pv 6)) de_int)) da_fNil))) (ne_p (de_var 6 (pv 6))))))))
  (nss_p (s_frz 5 (s_cons (s_par (ds_par 8 9 o.calm sc_n_square.nd rfl rfl (by decide) rfl rfl (da_fCons (v_comp (de_comp (.nm 10) [("_law_name", 10)] o.calm sc_n_square.nd (di_range rfl T.range (de_var 3 (pv 3))) (blkOk_by (N := ["_law_state", "_law_most", "_law_three", "_law_many", "_law_told", "_law_names", "_law_step", "_law_near", "_law_olds", "_law_found", "_law_name", "_law_far"]) (sc := defScope (top 60)) (by decide +kernel)) (fun _ _ _ _ _ => (pg_name (i := 10) sc_n_square.nd rfl (by first | exact Or.inl rfl | exact Or.inr rfl))) (fun _ _ _ _ _ => ts_nil) (fun _ _ _ _ _ => (v_index (de_index o.blk.u65 (de_var 5 (pv 5)) (de_var 10 (pv 10))))) (by decide))) (da_fCons (de_fTup da_fNil) da_fNil)) rfl))
  (s_cons (s_for (ds_for (.nm 7) PassesOwn.never o.calm (di_seq (de_var 8 (pv 8))) (pg_name (i := 7) sc_n_square.nd rfl (by first | exact Or.inl rfl | exact Or.inr rfl))
  (s_one (s_set (ds_set 9 sc_n_square.nd rfl (by first | exact Or.inl rfl | exact Or.inr rfl) (e2 (de_add (de_var 9 (pv 9)) (de_fTup (da_fCons (ec (de_tuple rfl T.tuple (da_fCons (v_comp (de_comp (.nm 11) [("_law_far", 11)] o.calm sc_n_square.nd (di_seq (de_var 8 (pv 8))) (blkOk_by (N := ["_law_state", "_law_most", "_law_three", "_law_many", "_law_told", "_law_names", "_law_step", "_law_near", "_law_olds", "_law_found", "_law_name", "_law_far"]) (sc := defScope (top 60)) (by decide +kernel)) (fun _ _ _ _ _ => (pg_name (i := 11) sc_n_square.nd rfl (by first | exact Or.inl rfl | exact Or.inr rfl))) (fun _ _ _ _ _ => ts_nil) (fun _ _ _ _ _ => (e2 (de_idx (de_var 5 (pv 5)) (e2 (de_idx (e2 (de_idx (de_var 4 (pv 4)) (de_var 7 (pv 7)))) (de_var 11 (pv 11))))))) (by decide))) da_fNil))) da_fNil)))))))))
  (s_one (s_ret (ds_ret (de_fTup (da_fCons (e2 (de_idx (de_var 5 (pv 5)) de_int)) (da_fCons (de_var 9 (pv 9)) da_fNil)))))))))))))))))))))

abbrev n_square := r_n_square
theorem len_n_square (ds : List PyData) (z : Nat × List PyData) (h : n_square ds = some z) : ds.length + 1 = 2 := runN_len ds z h

/-! stop_book -/
def b_n_stop_book : Sl → Nm Out := (nSeq (nP (gBind (.pr 7 8) (fVar 1)))
  (nSeq (nP (gSet 3 (f2 opMul (fTup (fCons (fC (.int 1)) fNil)) (fCall opLen (fCons (fVar 8) fNil)))))
  (nSeq (nFor (.nm 4) (fRange (fVar 2))
  (nSeq (nSet 9 (nCallN 0 n_draw (nP (fCons (f2 opAdd (fCall opLen (fCons (fVar 3) fNil)) (fC (.int 1))) fNil))))
  (nP (gSet 3 (f2 opAdd (f2 opAdd (fSlice (fVar 3) none (some (fVar 9))) (fTup (fCons (fC (.int 0)) fNil))) (fSlice (fVar 3) (some (fVar 9)) none))))))
  (nP (gSeq (gSet 5 (fComp (.pr 10 14) [10, 14] (fT (f2 opEq (fVar 14) (fC (.int 1)))) (fVar 10) (fEnum (fVar 3))))
  (gSeq (gSet 6 (fTup fNil))
  (gSeq (gFor (.pr 10 11) (fItems (fCall l_inside (fCons (fVar 3) (fCons (fVar 3) fNil))))
  (gSeq (gSet 12 (fIfE (fT (f2 opEq (fVar 11) (fTup fNil))) (fVar 10) (f2 opIdx (fVar 11) (fC (.int 0)))))
  (gSeq (gIf (fAnd (fT (f2 opNe (fVar 11) (fTup fNil))) (fT (f2 opEq (f2 opIdx (fVar 3) (f2 opIdx (fVar 11) (fC (.int 0)))) (fC (.int 1)))))
  (gSeq (gSet 13 (f2 opIdx (fVar 8) (f2 opIndex (fVar 5) (fVar 10))))
  (gSet 12 (f2 opIdx (fVar 5) (f2 opIdx (fVar 13) (f2 opIndex (fVar 5) (f2 opIdx (fVar 11) (fC (.int 0))))))))
  gNext)
  (gSet 6 (f2 opAdd (fVar 6) (fTup (fCons (fTup (fCons (fVar 12) (fCons (f2 opMul (fTup (fCons (fC (.int 0)) fNil)) (f2 opIdx (fVar 3) (fVar 12))) fNil))) fNil)))))))
  (gRet (fTup (fCons (fVar 3) (fCons (fTup (fCons (f2 opIdx (fVar 5) (fVar 7)) (fCons (fVar 6) fNil))) fNil)))))))))))
def r_n_stop_book : List PyData → Nm PyData := runN 3 15 b_n_stop_book
theorem sc_n_stop_book : FnScope ["_law_state", "_law_monoid", "_law_ends", "_law_near_so", "_law_step", "_law_names_so", "_law_flat_so", "_law_unit", "_law_square_here", "_law_at", "_law_pick", "_law_row", "_law_goal_so", "_law_line", "_law_wide"] ["_law_state", "_law_monoid", "_law_ends"] (defScope (top 62)) := ⟨rfl, rfl, rfl, by decide +kernel, rfl, by decide +kernel, by decide +kernel⟩
theorem ok_n_stop_book (T : Txt mg) (hF : Has K mg "_law_stop_book" 62) (c_l_inside : Cal P w K mg base 2 "_law_inside" ["_law_near_so", "_law_far_so"] (spF 2 l_inside)) (c_n_draw : Cal P w K mg base 2 "_law_draw" ["_law_state", "_law_limit"] (spN 2 n_draw)) : Cal P w K mg base 3 "_law_stop_book" ["_law_state", "_law_monoid", "_law_ends"] (spN 3 r_n_stop_book) :=
  calN_of (k := 2) (y := "_law_state") (N := ["_law_monoid", "_law_ends", "_law_near_so", "_law_step", "_law_names_so", "_law_flat_so", "_law_unit", "_law_square_here", "_law_at", "_law_pick", "_law_row", "_law_goal_so", "_law_line", "_law_wide"]) hF sc_n_stop_book rfl (fun _ _ _ _ _ _ us hl => match us, hl with | [_, _, _], _ => rfl) (body := b_n_stop_book) fun f cd A outer s H F p c l L o =>
  (ns_cons (ns_p (s_bind (ds_bind (.pr 7 8) (pg_pr o.calm (pg_name (i := 7) sc_n_stop_book.nd rfl (by first | exact Or.inl rfl | exact Or.inr rfl)) (pg_name (i := 8) sc_n_stop_book.nd rfl (by first | exact Or.inl rfl | exact Or.inr rfl))) (de_var 1 (pv 1)))))
  (ns_cons (ns_p (s_set (ds_set 3 sc_n_stop_book.nd rfl (by first | exact Or.inl rfl | exact Or.inr rfl) (e2 (de_mul (de_fTup (da_fCons de_int da_fNil)) (ec (de_len rfl T.len (da_fCons (de_var 8 (pv 8)) da_fNil))))))))
  (ns_cons (ns_for (ds_for (.nm 4) PassesOwn.never o.calm (di_range rfl T.range (de_var 2 (pv 2))) (pg_name (i := 4) sc_n_stop_book.nd rfl (by first | exact Or.inl rfl | exact Or.inr rfl))
  (ns_cons (ns_set (ds_set 9 sc_n_stop_book.nd rfl (by first | exact Or.inl rfl | exact Or.inr rfl) (de_callN c_n_draw o (by decide) n_draw_len rfl (pv 0) (na_p (da_fCons (e2 (de_add (ec (de_len rfl T.len (da_fCons (de_var 3 (pv 3)) da_fNil))) de_int)) da_fNil)))))
  (nss_p (s_one (s_set (ds_set 3 sc_n_stop_book.nd rfl (by first | exact Or.inl rfl | exact Or.inr rfl) (e2 (de_add (e2 (de_add (de_fSlice01 (de_var 3 (pv 3)) (de_var 9 (pv 9))) (de_fTup (da_fCons de_int da_fNil)))) (de_fSlice10 (de_var 3 (pv 3)) (de_var 9 (pv 9))))))))))))
  (nss_p (s_cons (s_setC (ds_setComp 5 (.pr 10 14) [("_law_pick", 10), ("_law_wide", 14)] o.calm sc_n_stop_book.nd rfl rfl (sw_true rfl rfl rfl (by decide +kernel)) (di_enum rfl T.enumerate (de_var 3 (pv 3))) (blkOk_by (N := ["_law_state", "_law_monoid", "_law_ends", "_law_near_so", "_law_step", "_law_names_so", "_law_flat_so", "_law_unit", "_law_square_here", "_law_at", "_law_pick", "_law_row", "_law_goal_so", "_law_line", "_law_wide"]) (sc := defScope (top 62)) (by decide +kernel)) (fun _ _ _ _ _ => (pg_pr o.blk.calm (pg_name (i := 10) sc_n_stop_book.nd rfl (by first | exact Or.inl rfl | exact Or.inr rfl)) (pg_name (i := 14) sc_n_stop_book.nd rfl (by first | exact Or.inl rfl | exact Or.inr rfl)))) (fun _ _ _ _ _ => (ts_one (t2 (dt_eq o.blk.u64 (de_var 14 (pv 14)) de_int)))) (fun _ _ _ _ _ => (de_var 10 (pv 10))) (by decide)))
  (s_cons (s_set (ds_set 6 sc_n_stop_book.nd rfl (by first | exact Or.inl rfl | exact Or.inr rfl) (de_fTup da_fNil)))
  (s_cons (s_for (ds_for (.pr 10 11) PassesOwn.never o.calm (di_seq (ec (de_call c_l_inside o (by decide) runF_len rfl (da_fCons (de_var 3 (pv 3)) (da_fCons (de_var 3 (pv 3)) da_fNil))))) (pg_pr o.calm (pg_name (i := 10) sc_n_stop_book.nd rfl (by first | exact Or.inl rfl | exact Or.inr rfl)) (pg_name (i := 11) sc_n_stop_book.nd rfl (by first | exact Or.inl rfl | exact Or.inr rfl)))
  (s_cons (s_set (ds_set 12 sc_n_stop_book.nd rfl (by first | exact Or.inl rfl | exact Or.inr rfl) (v_if (t2 (dt_eq o.u64 (de_var 11 (pv 11)) (de_fTup da_fNil))) (de_var 10 (pv 10)) (e2 (de_idx (de_var 11 (pv 11)) de_int)))))
  (s_cons (s_if (ds_if (DW.dt (w_and (t2 (dt_ne o.u64 (de_var 11 (pv 11)) (de_fTup da_fNil))) (w_and1 (t2 (dt_eq o.u64 (e2 (de_idx (de_var 3 (pv 3)) (e2 (de_idx (de_var 11 (pv 11)) de_int)))) de_int)))))
  (s_cons (s_set (ds_set 13 sc_n_stop_book.nd rfl (by first | exact Or.inl rfl | exact Or.inr rfl) (e2 (de_idx (de_var 8 (pv 8)) (v_index (de_index o.u65 (de_var 5 (pv 5)) (de_var 10 (pv 10))))))))
  (s_one (s_set (ds_set 12 sc_n_stop_book.nd rfl (by first | exact Or.inl rfl | exact Or.inr rfl) (e2 (de_idx (de_var 5 (pv 5)) (e2 (de_idx (de_var 13 (pv 13)) (v_index (de_index o.u65 (de_var 5 (pv 5)) (e2 (de_idx (de_var 11 (pv 11)) de_int))))))))))))
  s_nil))
  (s_one (s_set (ds_set 6 sc_n_stop_book.nd rfl (by first | exact Or.inl rfl | exact Or.inr rfl) (e2 (de_add (de_var 6 (pv 6)) (de_fTup (da_fCons (de_fTup (da_fCons (de_var 12 (pv 12)) (da_fCons (e2 (de_mul (de_fTup (da_fCons de_int da_fNil)) (e2 (de_idx (de_var 3 (pv 3)) (de_var 12 (pv 12)))))) da_fNil))) da_fNil)))))))))))
  (s_one (s_ret (ds_ret (de_fTup (da_fCons (de_var 3 (pv 3)) (da_fCons (de_fTup (da_fCons (e2 (de_idx (de_var 5 (pv 5)) (de_var 7 (pv 7)))) (da_fCons (de_var 6 (pv 6)) da_fNil))) da_fNil)))))))))))))

abbrev n_stop_book := r_n_stop_book
theorem len_n_stop_book (ds : List PyData) (z : Nat × List PyData) (h : n_stop_book ds = some z) : ds.length + 1 = 3 := runN_len ds z h

/-! small_book -/
def b_n_small_book : Sl → Nm Out := (nSeq (nSet 1 (nCallN 0 n_draw (nP (fCons (fC (.int 4)) fNil))))
  (nSeq (nIf (nP (fT (f2 opEq (fVar 1) (fC (.int 0)))))
  (nSeq (nSet 2 (n2 opAdd (nP (fC (.int 1))) (nCallN 0 n_draw (nP (fCons (fC (.int 2)) fNil)))))
  (nRt (nCall l_read_book (nCons (nP (fVar 2)) (nCons (nCallN 0 n_draw (nP (fCons (fVar 2) fNil))) (nCons (nCallN 0 n_square (nP (fCons (fC (.int 1)) fNil))) (fun _ => nRet [])))))))
  nNext)
  (nSeq (nIf (nP (fT (f2 opEq (fVar 1) (fC (.int 1)))))
  (nRt (nCallN 0 n_stop_book (nCons (nCallN 0 n_square (nP (fCons (fC (.int 1)) fNil))) (nCons (nP (fC (.int 1))) (fun _ => nRet [])))))
  nNext)
  (nRt (nCall l_read_book (nCons (nP (fC (.int 1))) (nCons (nP (fC (.int 0))) (nCons (nCallN 0 n_square (nP (fCons (fC (.int 2)) fNil))) (fun _ => nRet [])))))))))
def r_n_small_book : List PyData → Nm PyData := runN 1 3 b_n_small_book
theorem sc_n_small_book : FnScope ["_law_state", "_law_kind_so", "_law_wide"] ["_law_state"] (defScope (top 63)) := ⟨rfl, rfl, rfl, by decide +kernel, rfl, by decide +kernel, by decide +kernel⟩
theorem ok_n_small_book (T : Txt mg) (hF : Has K mg "_law_small_book" 63) (c_l_read_book : Cal P w K mg base 3 "_law_read_book" ["_law_wide", "_law_spot", "_law_monoid"] (spF 3 l_read_book)) (c_n_draw : Cal P w K mg base 2 "_law_draw" ["_law_state", "_law_limit"] (spN 2 n_draw)) (c_n_square : Cal P w K mg base 4 "_law_square" ["_law_state", "_law_most"] (spN 2 n_square)) (c_n_stop_book : Cal P w K mg base 3 "_law_stop_book" ["_law_state", "_law_monoid", "_law_ends"] (spN 3 n_stop_book)) : Cal P w K mg base 5 "_law_small_book" ["_law_state"] (spN 1 r_n_small_book) :=
  calN_of (k := 4) (y := "_law_state") (N := ["_law_kind_so", "_law_wide"]) hF sc_n_small_book rfl (fun _ _ _ _ _ _ us hl => match us, hl with | [_], _ => rfl) (body := b_n_small_book) fun f cd A outer s H F p c l L o =>
  (ns_cons (ns_set (ds_set 1 sc_n_small_book.nd rfl (by first | exact Or.inl rfl | exact Or.inr rfl) (de_callN c_n_draw o (by decide) n_draw_len rfl (pv 0) (na_p (da_fCons de_int da_fNil)))))
  (ns_cons (ns_if (ds_if (nt_p (t2 (dt_eq o.u64 (de_var 1 (pv 1)) de_int)))
  (ns_cons (ns_set (ds_set 2 sc_n_small_book.nd rfl (by first | exact Or.inl rfl | exact Or.inr rfl) (ne2 (de_add (ne_p de_int) (de_callN c_n_draw o (by decide) n_draw_len rfl (pv 0) (na_p (da_fCons de_int da_fNil)))))))
  (ns_one (ns_ret (ds_ret (nec (de_call c_l_read_book o (by decide) runF_len rfl (na_cons (ne_p (de_var 2 (pv 2))) (na_cons (de_callN c_n_draw o (by decide) n_draw_len rfl (pv 0) (na_p (da_fCons (de_var 2 (pv 2)) da_fNil))) (na_cons (de_callN c_n_square o (by decide) len_n_square rfl (pv 0) (na_p (da_fCons de_int da_fNil))) na_nil)))))))))
  ns_nil))
  (ns_cons (ns_if (ds_if (nt_p (t2 (dt_eq o.u64 (de_var 1 (pv 1)) de_int)))
  (ns_one (ns_ret (ds_ret (de_callN c_n_stop_book o (by decide) len_n_stop_book rfl (pv 0) (na_cons (de_callN c_n_square o (by decide) len_n_square rfl (pv 0) (na_p (da_fCons de_int da_fNil))) (na_cons (ne_p de_int) na_nil))))))
  ns_nil))
  (ns_one (ns_ret (ds_ret (nec (de_call c_l_read_book o (by decide) runF_len rfl (na_cons (ne_p de_int) (na_cons (ne_p de_int) (na_cons (de_callN c_n_square o (by decide) len_n_square rfl (pv 0) (na_p (da_fCons de_int da_fNil))) na_nil)))))))))))

end K50

set_option Elab.async false
set_option linter.all false
set_option maxRecDepth 100000
set_option maxHeartbeats 4000000
namespace K50
open PySem PySem.Spec PyProof.Rows L2
variable {P : Program} {w : World} {K : PySem.W.Frag} {mg : Str → Option Value} {base : Heap}

def small_0 : PyData := (.tuple [(.tuple [.int 2]), (.tuple [.int 0, (.tuple [(.tuple [.int 0, (.tuple [.int 0, .int 3])])])])])
def small_1 : PyData := (.tuple [(.tuple [.int 0, .int 1]), (.tuple [.int 1, (.tuple [(.tuple [.int 0, (.tuple [])]), (.tuple [.int 0, (.tuple [])]), (.tuple [.int 1, (.tuple [.int 0])])])])])
def small_2 : PyData := (.tuple [(.tuple [.int 1, .int 0]), (.tuple [.int 0, (.tuple [(.tuple [.int 0, (.tuple [.int 0])]), (.tuple [.int 1, (.tuple [])]), (.tuple [.int 1, (.tuple [])])])])])
def small_3 : PyData := (.tuple [(.tuple [.int 1]), (.tuple [.int 0, (.tuple [(.tuple [.int 0, (.tuple [.int 0])])])])])
def small_4 : PyData := (.tuple [(.tuple [.int 1, .int 1]), (.tuple [.int 1, (.tuple [(.tuple [.int 1, (.tuple [.int 0])]), (.tuple [.int 0, (.tuple [.int 0])]), (.tuple [.int 0, (.tuple [.int 0])]), (.tuple [.int 1, (.tuple [.int 0])])])])])
def small_5 : PyData := (.tuple [(.tuple [.int 1, .int 1]), (.tuple [.int 0, (.tuple [(.tuple [.int 0, (.tuple [.int 0])]), (.tuple [.int 1, (.tuple [.int 0])]), (.tuple [.int 1, (.tuple [.int 0])]), (.tuple [.int 0, (.tuple [.int 0])])])])])
def small_6 : PyData := (.tuple [(.tuple [.int 1, .int 1]), (.tuple [.int 1, (.tuple [(.tuple [.int 0, (.tuple [.int 0])]), (.tuple [.int 0, (.tuple [.int 0])]), (.tuple [.int 0, (.tuple [.int 0])]), (.tuple [.int 1, (.tuple [.int 0])])])])])
def small_7 : PyData := (.tuple [(.tuple [.int 1, .int 1]), (.tuple [.int 0, (.tuple [(.tuple [.int 0, (.tuple [.int 0])]), (.tuple [.int 1, (.tuple [.int 0])]), (.tuple [.int 1, (.tuple [.int 0])]), (.tuple [.int 1, (.tuple [.int 0])])])])])
def smallL : List PyData := [small_0, small_1, small_2, small_3, small_4, small_5, small_6, small_7]
theorem small_sub : subN (r_n_small_book []) 6 smallL = true := by decide +kernel
abbrev n_small_book := cN 6 smallL
theorem len_n_small_book (ds : List PyData) (z : Nat × List PyData) (h : n_small_book ds = some z) : ds.length + 1 = 1 := len_cN ds z h

/-! pair -/
def b_n_pair : Sl → Nm Out := (nSeq (nPar 1 2 (nCons (nCallN 0 n_small_book (nP fNil)) (nCons (nP (fTup (fCons (fTup (fCons (fC (.int 1)) fNil)) (fCons (fTup (fCons (fC (.int 0)) (fCons (fTup (fCons (fTup (fCons (fC (.int 0)) (fCons (fTup (fCons (fC (.int 0)) fNil)) fNil))) fNil)) fNil))) fNil)))) (fun _ => nRet []))))
  (nSeq (nIf (nBool (n2 opEq (nCallN 0 n_draw (nP (fCons (fC (.int 4)) fNil))) (nP (fC (.int 0)))))
  (nP (gSet 2 (fTup (fCons (fTup (fCons (fC (.int 0)) fNil)) (fCons (fTup (fCons (fC (.int 0)) (fCons (fTup (fCons (fTup (fCons (fC (.int 0)) (fCons (fTup fNil) fNil))) fNil)) fNil))) fNil)))))
  nNext)
  (nRt (nIfE (nBool (n2 opEq (nCallN 0 n_draw (nP (fCons (fC (.int 2)) fNil))) (nP (fC (.int 0))))) (nP (fTup (fCons (fVar 1) (fCons (fVar 2) fNil)))) (nP (fTup (fCons (fVar 2) (fCons (fVar 1) fNil))))))))
def r_n_pair : List PyData → Nm PyData := runN 1 3 b_n_pair
theorem sc_n_pair : FnScope ["_law_state", "_law_small", "_law_least"] ["_law_state"] (defScope (top 66)) := ⟨rfl, rfl, rfl, by decide +kernel, rfl, by decide +kernel, by decide +kernel⟩
theorem ok_n_pair (T : Txt mg) (hF : Has K mg "_law_pair" 66) (c_n_small_book : Cal P w K mg base 5 "_law_small_book" ["_law_state"] (spN 1 n_small_book)) (c_n_draw : Cal P w K mg base 2 "_law_draw" ["_law_state", "_law_limit"] (spN 2 n_draw)) : Cal P w K mg base 6 "_law_pair" ["_law_state"] (spN 1 r_n_pair) :=
  calN_of (k := 5) (y := "_law_state") (N := ["_law_small", "_law_least"]) hF sc_n_pair rfl (fun _ _ _ _ _ _ us hl => match us, hl with | [_], _ => rfl) (body := b_n_pair) fun f cd A outer s H F p c l L o =>
  (ns_cons (ns_par (ds_par 1 2 o.calm sc_n_pair.nd rfl rfl (by decide) rfl rfl (na_cons (de_callN c_n_small_book o (by decide) len_n_small_book rfl (pv 0) (na_p da_fNil)) (na_cons (ne_p (de_fTup (da_fCons (de_fTup (da_fCons de_int da_fNil)) (da_fCons (de_fTup (da_fCons de_int (da_fCons (de_fTup (da_fCons (de_fTup (da_fCons de_int (da_fCons (de_fTup (da_fCons de_int da_fNil)) da_fNil))) da_fNil)) da_fNil))) da_fNil)))) na_nil)) rfl))
  (ns_cons (ns_if (ds_if (nt2 (dt_eq o.u64 (de_callN c_n_draw o (by decide) n_draw_len rfl (pv 0) (na_p (da_fCons de_int da_fNil))) (ne_p de_int)))
  (nss_p (s_one (s_set (ds_set 2 sc_n_pair.nd rfl (by first | exact Or.inl rfl | exact Or.inr rfl) (de_fTup (da_fCons (de_fTup (da_fCons de_int da_fNil)) (da_fCons (de_fTup (da_fCons de_int (da_fCons (de_fTup (da_fCons (de_fTup (da_fCons de_int (da_fCons (de_fTup da_fNil) da_fNil))) da_fNil)) da_fNil))) da_fNil)))))))
  ns_nil))
  (ns_one (ns_ret (ds_ret (ne_if (nt2 (dt_eq o.u64 (de_callN c_n_draw o (by decide) n_draw_len rfl (pv 0) (na_p (da_fCons de_int da_fNil))) (ne_p de_int))) (ne_p (de_fTup (da_fCons (de_var 1 (pv 1)) (da_fCons (de_var 2 (pv 2)) da_fNil)))) (ne_p (de_fTup (da_fCons (de_var 2 (pv 2)) (da_fCons (de_var 1 (pv 1)) da_fNil))))))))))

def pair_0 : PyData := (.tuple [(.tuple [(.tuple [.int 2]), (.tuple [.int 0, (.tuple [(.tuple [.int 0, (.tuple [.int 0, .int 3])])])])]), (.tuple [(.tuple [.int 0]), (.tuple [.int 0, (.tuple [(.tuple [.int 0, (.tuple [])])])])])])
def pair_1 : PyData := (.tuple [(.tuple [(.tuple [.int 0]), (.tuple [.int 0, (.tuple [(.tuple [.int 0, (.tuple [])])])])]), (.tuple [(.tuple [.int 2]), (.tuple [.int 0, (.tuple [(.tuple [.int 0, (.tuple [.int 0, .int 3])])])])])])
def pair_2 : PyData := (.tuple [(.tuple [(.tuple [.int 2]), (.tuple [.int 0, (.tuple [(.tuple [.int 0, (.tuple [.int 0, .int 3])])])])]), (.tuple [(.tuple [.int 1]), (.tuple [.int 0, (.tuple [(.tuple [.int 0, (.tuple [.int 0])])])])])])
def pair_3 : PyData := (.tuple [(.tuple [(.tuple [.int 1]), (.tuple [.int 0, (.tuple [(.tuple [.int 0, (.tuple [.int 0])])])])]), (.tuple [(.tuple [.int 2]), (.tuple [.int 0, (.tuple [(.tuple [.int 0, (.tuple [.int 0, .int 3])])])])])])
def pair_4 : PyData := (.tuple [(.tuple [(.tuple [.int 0, .int 1]), (.tuple [.int 1, (.tuple [(.tuple [.int 0, (.tuple [])]), (.tuple [.int 0, (.tuple [])]), (.tuple [.int 1, (.tuple [.int 0])])])])]), (.tuple [(.tuple [.int 0]), (.tuple [.int 0, (.tuple [(.tuple [.int 0, (.tuple [])])])])])])
def pair_5 : PyData := (.tuple [(.tuple [(.tuple [.int 0]), (.tuple [.int 0, (.tuple [(.tuple [.int 0, (.tuple [])])])])]), (.tuple [(.tuple [.int 0, .int 1]), (.tuple [.int 1, (.tuple [(.tuple [.int 0, (.tuple [])]), (.tuple [.int 0, (.tuple [])]), (.tuple [.int 1, (.tuple [.int 0])])])])])])
def pair_6 : PyData := (.tuple [(.tuple [(.tuple [.int 0, .int 1]), (.tuple [.int 1, (.tuple [(.tuple [.int 0, (.tuple [])]), (.tuple [.int 0, (.tuple [])]), (.tuple [.int 1, (.tuple [.int 0])])])])]), (.tuple [(.tuple [.int 1]), (.tuple [.int 0, (.tuple [(.tuple [.int 0, (.tuple [.int 0])])])])])])
def pair_7 : PyData := (.tuple [(.tuple [(.tuple [.int 1]), (.tuple [.int 0, (.tuple [(.tuple [.int 0, (.tuple [.int 0])])])])]), (.tuple [(.tuple [.int 0, .int 1]), (.tuple [.int 1, (.tuple [(.tuple [.int 0, (.tuple [])]), (.tuple [.int 0, (.tuple [])]), (.tuple [.int 1, (.tuple [.int 0])])])])])])
def pair_8 : PyData := (.tuple [(.tuple [(.tuple [.int 1, .int 0]), (.tuple [.int 0, (.tuple [(.tuple [.int 0, (.tuple [.int 0])]), (.tuple [.int 1, (.tuple [])]), (.tuple [.int 1, (.tuple [])])])])]), (.tuple [(.tuple [.int 0]), (.tuple [.int 0, (.tuple [(.tuple [.int 0, (.tuple [])])])])])])
def pair_9 : PyData := (.tuple [(.tuple [(.tuple [.int 0]), (.tuple [.int 0, (.tuple [(.tuple [.int 0, (.tuple [])])])])]), (.tuple [(.tuple [.int 1, .int 0]), (.tuple [.int 0, (.tuple [(.tuple [.int 0, (.tuple [.int 0])]), (.tuple [.int 1, (.tuple [])]), (.tuple [.int 1, (.tuple [])])])])])])
def pair_10 : PyData := (.tuple [(.tuple [(.tuple [.int 1, .int 0]), (.tuple [.int 0, (.tuple [(.tuple [.int 0, (.tuple [.int 0])]), (.tuple [.int 1, (.tuple [])]), (.tuple [.int 1, (.tuple [])])])])]), (.tuple [(.tuple [.int 1]), (.tuple [.int 0, (.tuple [(.tuple [.int 0, (.tuple [.int 0])])])])])])
def pair_11 : PyData := (.tuple [(.tuple [(.tuple [.int 1]), (.tuple [.int 0, (.tuple [(.tuple [.int 0, (.tuple [.int 0])])])])]), (.tuple [(.tuple [.int 1, .int 0]), (.tuple [.int 0, (.tuple [(.tuple [.int 0, (.tuple [.int 0])]), (.tuple [.int 1, (.tuple [])]), (.tuple [.int 1, (.tuple [])])])])])])
def pair_12 : PyData := (.tuple [(.tuple [(.tuple [.int 1]), (.tuple [.int 0, (.tuple [(.tuple [.int 0, (.tuple [.int 0])])])])]), (.tuple [(.tuple [.int 0]), (.tuple [.int 0, (.tuple [(.tuple [.int 0, (.tuple [])])])])])])
def pair_13 : PyData := (.tuple [(.tuple [(.tuple [.int 0]), (.tuple [.int 0, (.tuple [(.tuple [.int 0, (.tuple [])])])])]), (.tuple [(.tuple [.int 1]), (.tuple [.int 0, (.tuple [(.tuple [.int 0, (.tuple [.int 0])])])])])])
def pair_14 : PyData := (.tuple [(.tuple [(.tuple [.int 1]), (.tuple [.int 0, (.tuple [(.tuple [.int 0, (.tuple [.int 0])])])])]), (.tuple [(.tuple [.int 1]), (.tuple [.int 0, (.tuple [(.tuple [.int 0, (.tuple [.int 0])])])])])])
def pair_15 : PyData := (.tuple [(.tuple [(.tuple [.int 1, .int 1]), (.tuple [.int 1, (.tuple [(.tuple [.int 1, (.tuple [.int 0])]), (.tuple [.int 0, (.tuple [.int 0])]), (.tuple [.int 0, (.tuple [.int 0])]), (.tuple [.int 1, (.tuple [.int 0])])])])]), (.tuple [(.tuple [.int 0]), (.tuple [.int 0, (.tuple [(.tuple [.int 0, (.tuple [])])])])])])
def pair_16 : PyData := (.tuple [(.tuple [(.tuple [.int 0]), (.tuple [.int 0, (.tuple [(.tuple [.int 0, (.tuple [])])])])]), (.tuple [(.tuple [.int 1, .int 1]), (.tuple [.int 1, (.tuple [(.tuple [.int 1, (.tuple [.int 0])]), (.tuple [.int 0, (.tuple [.int 0])]), (.tuple [.int 0, (.tuple [.int 0])]), (.tuple [.int 1, (.tuple [.int 0])])])])])])
def pair_17 : PyData := (.tuple [(.tuple [(.tuple [.int 1, .int 1]), (.tuple [.int 1, (.tuple [(.tuple [.int 1, (.tuple [.int 0])]), (.tuple [.int 0, (.tuple [.int 0])]), (.tuple [.int 0, (.tuple [.int 0])]), (.tuple [.int 1, (.tuple [.int 0])])])])]), (.tuple [(.tuple [.int 1]), (.tuple [.int 0, (.tuple [(.tuple [.int 0, (.tuple [.int 0])])])])])])
def pair_18 : PyData := (.tuple [(.tuple [(.tuple [.int 1]), (.tuple [.int 0, (.tuple [(.tuple [.int 0, (.tuple [.int 0])])])])]), (.tuple [(.tuple [.int 1, .int 1]), (.tuple [.int 1, (.tuple [(.tuple [.int 1, (.tuple [.int 0])]), (.tuple [.int 0, (.tuple [.int 0])]), (.tuple [.int 0, (.tuple [.int 0])]), (.tuple [.int 1, (.tuple [.int 0])])])])])])
def pair_19 : PyData := (.tuple [(.tuple [(.tuple [.int 1, .int 1]), (.tuple [.int 0, (.tuple [(.tuple [.int 0, (.tuple [.int 0])]), (.tuple [.int 1, (.tuple [.int 0])]), (.tuple [.int 1, (.tuple [.int 0])]), (.tuple [.int 0, (.tuple [.int 0])])])])]), (.tuple [(.tuple [.int 0]), (.tuple [.int 0, (.tuple [(.tuple [.int 0, (.tuple [])])])])])])
def pair_20 : PyData := (.tuple [(.tuple [(.tuple [.int 0]), (.tuple [.int 0, (.tuple [(.tuple [.int 0, (.tuple [])])])])]), (.tuple [(.tuple [.int 1, .int 1]), (.tuple [.int 0, (.tuple [(.tuple [.int 0, (.tuple [.int 0])]), (.tuple [.int 1, (.tuple [.int 0])]), (.tuple [.int 1, (.tuple [.int 0])]), (.tuple [.int 0, (.tuple [.int 0])])])])])])
def pair_21 : PyData := (.tuple [(.tuple [(.tuple [.int 1, .int 1]), (.tuple [.int 0, (.tuple [(.tuple [.int 0, (.tuple [.int 0])]), (.tuple [.int 1, (.tuple [.int 0])]), (.tuple [.int 1, (.tuple [.int 0])]), (.tuple [.int 0, (.tuple [.int 0])])])])]), (.tuple [(.tuple [.int 1]), (.tuple [.int 0, (.tuple [(.tuple [.int 0, (.tuple [.int 0])])])])])])
def pair_22 : PyData := (.tuple [(.tuple [(.tuple [.int 1]), (.tuple [.int 0, (.tuple [(.tuple [.int 0, (.tuple [.int 0])])])])]), (.tuple [(.tuple [.int 1, .int 1]), (.tuple [.int 0, (.tuple [(.tuple [.int 0, (.tuple [.int 0])]), (.tuple [.int 1, (.tuple [.int 0])]), (.tuple [.int 1, (.tuple [.int 0])]), (.tuple [.int 0, (.tuple [.int 0])])])])])])
def pair_23 : PyData := (.tuple [(.tuple [(.tuple [.int 1, .int 1]), (.tuple [.int 1, (.tuple [(.tuple [.int 0, (.tuple [.int 0])]), (.tuple [.int 0, (.tuple [.int 0])]), (.tuple [.int 0, (.tuple [.int 0])]), (.tuple [.int 1, (.tuple [.int 0])])])])]), (.tuple [(.tuple [.int 0]), (.tuple [.int 0, (.tuple [(.tuple [.int 0, (.tuple [])])])])])])
def pair_24 : PyData := (.tuple [(.tuple [(.tuple [.int 0]), (.tuple [.int 0, (.tuple [(.tuple [.int 0, (.tuple [])])])])]), (.tuple [(.tuple [.int 1, .int 1]), (.tuple [.int 1, (.tuple [(.tuple [.int 0, (.tuple [.int 0])]), (.tuple [.int 0, (.tuple [.int 0])]), (.tuple [.int 0, (.tuple [.int 0])]), (.tuple [.int 1, (.tuple [.int 0])])])])])])
def pair_25 : PyData := (.tuple [(.tuple [(.tuple [.int 1, .int 1]), (.tuple [.int 1, (.tuple [(.tuple [.int 0, (.tuple [.int 0])]), (.tuple [.int 0, (.tuple [.int 0])]), (.tuple [.int 0, (.tuple [.int 0])]), (.tuple [.int 1, (.tuple [.int 0])])])])]), (.tuple [(.tuple [.int 1]), (.tuple [.int 0, (.tuple [(.tuple [.int 0, (.tuple [.int 0])])])])])])
def pair_26 : PyData := (.tuple [(.tuple [(.tuple [.int 1]), (.tuple [.int 0, (.tuple [(.tuple [.int 0, (.tuple [.int 0])])])])]), (.tuple [(.tuple [.int 1, .int 1]), (.tuple [.int 1, (.tuple [(.tuple [.int 0, (.tuple [.int 0])]), (.tuple [.int 0, (.tuple [.int 0])]), (.tuple [.int 0, (.tuple [.int 0])]), (.tuple [.int 1, (.tuple [.int 0])])])])])])
def pair_27 : PyData := (.tuple [(.tuple [(.tuple [.int 1, .int 1]), (.tuple [.int 0, (.tuple [(.tuple [.int 0, (.tuple [.int 0])]), (.tuple [.int 1, (.tuple [.int 0])]), (.tuple [.int 1, (.tuple [.int 0])]), (.tuple [.int 1, (.tuple [.int 0])])])])]), (.tuple [(.tuple [.int 0]), (.tuple [.int 0, (.tuple [(.tuple [.int 0, (.tuple [])])])])])])
def pair_28 : PyData := (.tuple [(.tuple [(.tuple [.int 0]), (.tuple [.int 0, (.tuple [(.tuple [.int 0, (.tuple [])])])])]), (.tuple [(.tuple [.int 1, .int 1]), (.tuple [.int 0, (.tuple [(.tuple [.int 0, (.tuple [.int 0])]), (.tuple [.int 1, (.tuple [.int 0])]), (.tuple [.int 1, (.tuple [.int 0])]), (.tuple [.int 1, (.tuple [.int 0])])])])])])
def pair_29 : PyData := (.tuple [(.tuple [(.tuple [.int 1, .int 1]), (.tuple [.int 0, (.tuple [(.tuple [.int 0, (.tuple [.int 0])]), (.tuple [.int 1, (.tuple [.int 0])]), (.tuple [.int 1, (.tuple [.int 0])]), (.tuple [.int 1, (.tuple [.int 0])])])])]), (.tuple [(.tuple [.int 1]), (.tuple [.int 0, (.tuple [(.tuple [.int 0, (.tuple [.int 0])])])])])])
def pair_30 : PyData := (.tuple [(.tuple [(.tuple [.int 1]), (.tuple [.int 0, (.tuple [(.tuple [.int 0, (.tuple [.int 0])])])])]), (.tuple [(.tuple [.int 1, .int 1]), (.tuple [.int 0, (.tuple [(.tuple [.int 0, (.tuple [.int 0])]), (.tuple [.int 1, (.tuple [.int 0])]), (.tuple [.int 1, (.tuple [.int 0])]), (.tuple [.int 1, (.tuple [.int 0])])])])])])
def pairL : List PyData := [pair_0, pair_1, pair_2, pair_3, pair_4, pair_5, pair_6, pair_7, pair_8, pair_9, pair_10, pair_11, pair_12, pair_13, pair_14, pair_15, pair_16, pair_17, pair_18, pair_19, pair_20, pair_21, pair_22, pair_23, pair_24, pair_25, pair_26, pair_27, pair_28, pair_29, pair_30]
theorem pair_sub : subN (r_n_pair []) 8 pairL = true := by decide +kernel
abbrev n_pair := cN 8 pairL
theorem len_n_pair (ds : List PyData) (z : Nat × List PyData) (h : n_pair ds = some z) : ds.length + 1 = 1 := len_cN ds z h

/-! wide_pair -/
def b_n_wide_pair : Sl → Nm Out := (nSeq (nPar 2 3 (nCons (nCallN 0 n_draw (nP (fCons (fC (.int 6)) fNil))) (nCons (nCallN 0 n_stop_book (nCons (nCallN 0 n_square (nP (fCons (fC (.int 1)) fNil))) (nCons (nP (fC (.int 1))) (fun _ => nRet [])))) (fun _ => nRet []))))
  (nSeq (nSet 1 (nCallN 0 n_stop_book (nCons (nCallN 0 n_square (nP (fCons (fC (.int 1)) fNil))) (nCons (n2 opAdd (nP (fC (.int 1))) (nCallN 0 n_draw (nP (fCons (fC (.int 2)) fNil)))) (fun _ => nRet [])))))
  (nSeq (nIf (nP (fT (f2 opLt (fVar 2) (fC (.int 3)))))
  (nSeq (nP (gSet 4 (fLst (fCons (fTup (fCons (fC (.int 0)) (fCons (fTup (fCons (fTup (fCons (fC (.int 0)) (fCons (fC (.int 1)) fNil))) (fCons (fTup (fCons (fC (.int 1)) (fCons (fC (.int 0)) fNil))) fNil))) fNil))) (fCons (fTup (fCons (fC (.int 0)) (fCons (fTup (fCons (fTup (fCons (fC (.int 0)) (fCons (fC (.int 1)) fNil))) (fCons (fTup (fCons (fC (.int 1)) (fCons (fC (.int 1)) fNil))) fNil))) fNil))) (fCons (fTup (fCons (fC (.int 1)) (fCons (fTup (fCons (fTup (fCons (fC (.int 1)) (fCons (fC (.int 0)) fNil))) (fCons (fTup (fCons (fC (.int 0)) (fCons (fC (.int 1)) fNil))) fNil))) fNil))) (fCons (fTup (fCons (fC (.int 1)) (fCons (fTup (fCons (fTup (fCons (fC (.int 0)) (fCons (fC (.int 0)) fNil))) (fCons (fTup (fCons (fC (.int 0)) (fCons (fC (.int 1)) fNil))) fNil))) fNil))) fNil)))))))
  (nSet 1 (nCall l_read_book (nCons (nP (fC (.int 1))) (nCons (nP (fC (.int 0))) (nCons (nCallN 0 n_of (nP (fCons (fVar 4) fNil))) (fun _ => nRet [])))))))
  (nIf (nP (fT (f2 opEq (fVar 2) (fC (.int 3)))))
  (nSet 1 (nCall l_read_book (nCons (nP (fC (.int 2))) (nCons (nCallN 0 n_draw (nP (fCons (fC (.int 2)) fNil))) (nCons (nP (fTup (fCons (fC (.int 0)) (fCons (fTup (fCons (fTup (fCons (fC (.int 0)) fNil)) fNil)) fNil)))) (fun _ => nRet []))))))
  nNext))
  (nRt (nIfE (nBool (n2 opEq (nCallN 0 n_draw (nP (fCons (fC (.int 2)) fNil))) (nP (fC (.int 0))))) (nP (fTup (fCons (fVar 3) (fCons (fVar 1) fNil)))) (nP (fTup (fCons (fVar 1) (fCons (fVar 3) fNil)))))))))
def r_n_wide_pair : List PyData → Nm PyData := runN 1 5 b_n_wide_pair
theorem sc_n_wide_pair : FnScope ["_law_state", "_law_more", "_law_kind_so", "_law_small", "_law_some"] ["_law_state"] (defScope (top 70)) := ⟨rfl, rfl, rfl, by decide +kernel, rfl, by decide +kernel, by decide +kernel⟩
theorem ok_n_wide_pair (T : Txt mg) (hF : Has K mg "_law_wide_pair" 70) (c_l_read_book : Cal P w K mg base 3 "_law_read_book" ["_law_wide", "_law_spot", "_law_monoid"] (spF 3 l_read_book)) (c_n_stop_book : Cal P w K mg base 3 "_law_stop_book" ["_law_state", "_law_monoid", "_law_ends"] (spN 3 n_stop_book)) (c_n_square : Cal P w K mg base 4 "_law_square" ["_law_state", "_law_most"] (spN 2 n_square)) (c_n_draw : Cal P w K mg base 2 "_law_draw" ["_law_state", "_law_limit"] (spN 2 n_draw)) (c_n_of : Cal P w K mg base 3 "_law_of" ["_law_state", "_law_some"] (spN 2 n_of)) : Cal P w K mg base 5 "_law_wide_pair" ["_law_state"] (spN 1 r_n_wide_pair) :=
  calN_of (k := 4) (y := "_law_state") (N := ["_law_more", "_law_kind_so", "_law_small", "_law_some"]) hF sc_n_wide_pair rfl (fun _ _ _ _ _ _ us hl => match us, hl with | [_], _ => rfl) (body := b_n_wide_pair) fun f cd A outer s H F p c l L o =>
  (ns_cons (ns_par (ds_par 2 3 o.calm sc_n_wide_pair.nd rfl rfl (by decide) rfl rfl (na_cons (de_callN c_n_draw o (by decide) n_draw_len rfl (pv 0) (na_p (da_fCons de_int da_fNil))) (na_cons (de_callN c_n_stop_book o (by decide) len_n_stop_book rfl (pv 0) (na_cons (de_callN c_n_square o (by decide) len_n_square rfl (pv 0) (na_p (da_fCons de_int da_fNil))) (na_cons (ne_p de_int) na_nil))) na_nil)) rfl))
  (ns_cons (ns_set (ds_set 1 sc_n_wide_pair.nd rfl (by first | exact Or.inl rfl | exact Or.inr rfl) (de_callN c_n_stop_book o (by decide) len_n_stop_book rfl (pv 0) (na_cons (de_callN c_n_square o (by decide) len_n_square rfl (pv 0) (na_p (da_fCons de_int da_fNil))) (na_cons (ne2 (de_add (ne_p de_int) (de_callN c_n_draw o (by decide) n_draw_len rfl (pv 0) (na_p (da_fCons de_int da_fNil))))) na_nil)))))
  (ns_cons (ns_if (ds_if (nt_p (t2 (dt_lt (de_var 2 (pv 2)) de_int)))
  (ns_cons (ns_p (s_set (ds_set 4 sc_n_wide_pair.nd rfl (by first | exact Or.inl rfl | exact Or.inr rfl) (de_fLst (da_fCons (de_fTup (da_fCons de_int (da_fCons (de_fTup (da_fCons (de_fTup (da_fCons de_int (da_fCons de_int da_fNil))) (da_fCons (de_fTup (da_fCons de_int (da_fCons de_int da_fNil))) da_fNil))) da_fNil))) (da_fCons (de_fTup (da_fCons de_int (da_fCons (de_fTup (da_fCons (de_fTup (da_fCons de_int (da_fCons de_int da_fNil))) (da_fCons (de_fTup (da_fCons de_int (da_fCons de_int da_fNil))) da_fNil))) da_fNil))) (da_fCons (de_fTup (da_fCons de_int (da_fCons (de_fTup (da_fCons (de_fTup (da_fCons de_int (da_fCons de_int da_fNil))) (da_fCons (de_fTup (da_fCons de_int (da_fCons de_int da_fNil))) da_fNil))) da_fNil))) (da_fCons (de_fTup (da_fCons de_int (da_fCons (de_fTup (da_fCons (de_fTup (da_fCons de_int (da_fCons de_int da_fNil))) (da_fCons (de_fTup (da_fCons de_int (da_fCons de_int da_fNil))) da_fNil))) da_fNil))) da_fNil))))))))
  (ns_one (ns_set (ds_set 1 sc_n_wide_pair.nd rfl (by first | exact Or.inl rfl | exact Or.inr rfl) (nec (de_call c_l_read_book o (by decide) runF_len rfl (na_cons (ne_p de_int) (na_cons (ne_p de_int) (na_cons (de_callN c_n_of o (by decide) len_n_of rfl (pv 0) (na_p (da_fCons (de_var 4 (pv 4)) da_fNil))) na_nil)))))))))
  (ns_one (ns_if (ds_if (nt_p (t2 (dt_eq o.u64 (de_var 2 (pv 2)) de_int)))
  (ns_one (ns_set (ds_set 1 sc_n_wide_pair.nd rfl (by first | exact Or.inl rfl | exact Or.inr rfl) (nec (de_call c_l_read_book o (by decide) runF_len rfl (na_cons (ne_p de_int) (na_cons (de_callN c_n_draw o (by decide) n_draw_len rfl (pv 0) (na_p (da_fCons de_int da_fNil))) (na_cons (ne_p (de_fTup (da_fCons de_int (da_fCons (de_fTup (da_fCons (de_fTup (da_fCons de_int da_fNil)) da_fNil)) da_fNil)))) na_nil))))))))
  ns_nil)))))
  (ns_one (ns_ret (ds_ret (ne_if (nt2 (dt_eq o.u64 (de_callN c_n_draw o (by decide) n_draw_len rfl (pv 0) (na_p (da_fCons de_int da_fNil))) (ne_p de_int))) (ne_p (de_fTup (da_fCons (de_var 3 (pv 3)) (da_fCons (de_var 1 (pv 1)) da_fNil)))) (ne_p (de_fTup (da_fCons (de_var 1 (pv 1)) (da_fCons (de_var 3 (pv 3)) da_fNil)))))))))))

def wide_pair_0 : PyData := (.tuple [(.tuple [(.tuple [.int 0, .int 1]), (.tuple [.int 1, (.tuple [(.tuple [.int 0, (.tuple [])]), (.tuple [.int 0, (.tuple [])]), (.tuple [.int 1, (.tuple [.int 0])])])])]), (.tuple [(.tuple [.int 1, .int 1]), (.tuple [.int 0, (.tuple [(.tuple [.int 0, (.tuple [.int 0])]), (.tuple [.int 1, (.tuple [.int 0])]), (.tuple [.int 1, (.tuple [.int 0])]), (.tuple [.int 0, (.tuple [.int 0])])])])])])
def wide_pair_1 : PyData := (.tuple [(.tuple [(.tuple [.int 1, .int 1]), (.tuple [.int 0, (.tuple [(.tuple [.int 0, (.tuple [.int 0])]), (.tuple [.int 1, (.tuple [.int 0])]), (.tuple [.int 1, (.tuple [.int 0])]), (.tuple [.int 0, (.tuple [.int 0])])])])]), (.tuple [(.tuple [.int 0, .int 1]), (.tuple [.int 1, (.tuple [(.tuple [.int 0, (.tuple [])]), (.tuple [.int 0, (.tuple [])]), (.tuple [.int 1, (.tuple [.int 0])])])])])])
def wide_pair_2 : PyData := (.tuple [(.tuple [(.tuple [.int 0, .int 1]), (.tuple [.int 1, (.tuple [(.tuple [.int 0, (.tuple [])]), (.tuple [.int 0, (.tuple [])]), (.tuple [.int 1, (.tuple [.int 0])])])])]), (.tuple [(.tuple [.int 1, .int 1]), (.tuple [.int 0, (.tuple [(.tuple [.int 0, (.tuple [.int 0])]), (.tuple [.int 1, (.tuple [.int 0])]), (.tuple [.int 1, (.tuple [.int 0])]), (.tuple [.int 1, (.tuple [.int 0])])])])])])
def wide_pair_3 : PyData := (.tuple [(.tuple [(.tuple [.int 1, .int 1]), (.tuple [.int 0, (.tuple [(.tuple [.int 0, (.tuple [.int 0])]), (.tuple [.int 1, (.tuple [.int 0])]), (.tuple [.int 1, (.tuple [.int 0])]), (.tuple [.int 1, (.tuple [.int 0])])])])]), (.tuple [(.tuple [.int 0, .int 1]), (.tuple [.int 1, (.tuple [(.tuple [.int 0, (.tuple [])]), (.tuple [.int 0, (.tuple [])]), (.tuple [.int 1, (.tuple [.int 0])])])])])])
def wide_pair_4 : PyData := (.tuple [(.tuple [(.tuple [.int 0, .int 1]), (.tuple [.int 1, (.tuple [(.tuple [.int 0, (.tuple [])]), (.tuple [.int 0, (.tuple [])]), (.tuple [.int 1, (.tuple [.int 0])])])])]), (.tuple [(.tuple [.int 1, .int 1]), (.tuple [.int 1, (.tuple [(.tuple [.int 1, (.tuple [.int 0])]), (.tuple [.int 0, (.tuple [.int 0])]), (.tuple [.int 0, (.tuple [.int 0])]), (.tuple [.int 1, (.tuple [.int 0])])])])])])
def wide_pair_5 : PyData := (.tuple [(.tuple [(.tuple [.int 1, .int 1]), (.tuple [.int 1, (.tuple [(.tuple [.int 1, (.tuple [.int 0])]), (.tuple [.int 0, (.tuple [.int 0])]), (.tuple [.int 0, (.tuple [.int 0])]), (.tuple [.int 1, (.tuple [.int 0])])])])]), (.tuple [(.tuple [.int 0, .int 1]), (.tuple [.int 1, (.tuple [(.tuple [.int 0, (.tuple [])]), (.tuple [.int 0, (.tuple [])]), (.tuple [.int 1, (.tuple [.int 0])])])])])])
def wide_pair_6 : PyData := (.tuple [(.tuple [(.tuple [.int 0, .int 1]), (.tuple [.int 1, (.tuple [(.tuple [.int 0, (.tuple [])]), (.tuple [.int 0, (.tuple [])]), (.tuple [.int 1, (.tuple [.int 0])])])])]), (.tuple [(.tuple [.int 1, .int 1]), (.tuple [.int 1, (.tuple [(.tuple [.int 0, (.tuple [.int 0])]), (.tuple [.int 0, (.tuple [.int 0])]), (.tuple [.int 0, (.tuple [.int 0])]), (.tuple [.int 1, (.tuple [.int 0])])])])])])
def wide_pair_7 : PyData := (.tuple [(.tuple [(.tuple [.int 1, .int 1]), (.tuple [.int 1, (.tuple [(.tuple [.int 0, (.tuple [.int 0])]), (.tuple [.int 0, (.tuple [.int 0])]), (.tuple [.int 0, (.tuple [.int 0])]), (.tuple [.int 1, (.tuple [.int 0])])])])]), (.tuple [(.tuple [.int 0, .int 1]), (.tuple [.int 1, (.tuple [(.tuple [.int 0, (.tuple [])]), (.tuple [.int 0, (.tuple [])]), (.tuple [.int 1, (.tuple [.int 0])])])])])])
def wide_pair_8 : PyData := (.tuple [(.tuple [(.tuple [.int 1, .int 0]), (.tuple [.int 0, (.tuple [(.tuple [.int 0, (.tuple [.int 0])]), (.tuple [.int 1, (.tuple [])]), (.tuple [.int 1, (.tuple [])])])])]), (.tuple [(.tuple [.int 1, .int 1]), (.tuple [.int 0, (.tuple [(.tuple [.int 0, (.tuple [.int 0])]), (.tuple [.int 1, (.tuple [.int 0])]), (.tuple [.int 1, (.tuple [.int 0])]), (.tuple [.int 0, (.tuple [.int 0])])])])])])
def wide_pair_9 : PyData := (.tuple [(.tuple [(.tuple [.int 1, .int 1]), (.tuple [.int 0, (.tuple [(.tuple [.int 0, (.tuple [.int 0])]), (.tuple [.int 1, (.tuple [.int 0])]), (.tuple [.int 1, (.tuple [.int 0])]), (.tuple [.int 0, (.tuple [.int 0])])])])]), (.tuple [(.tuple [.int 1, .int 0]), (.tuple [.int 0, (.tuple [(.tuple [.int 0, (.tuple [.int 0])]), (.tuple [.int 1, (.tuple [])]), (.tuple [.int 1, (.tuple [])])])])])])
def wide_pair_10 : PyData := (.tuple [(.tuple [(.tuple [.int 1, .int 0]), (.tuple [.int 0, (.tuple [(.tuple [.int 0, (.tuple [.int 0])]), (.tuple [.int 1, (.tuple [])]), (.tuple [.int 1, (.tuple [])])])])]), (.tuple [(.tuple [.int 1, .int 1]), (.tuple [.int 0, (.tuple [(.tuple [.int 0, (.tuple [.int 0])]), (.tuple [.int 1, (.tuple [.int 0])]), (.tuple [.int 1, (.tuple [.int 0])]), (.tuple [.int 1, (.tuple [.int 0])])])])])])
def wide_pair_11 : PyData := (.tuple [(.tuple [(.tuple [.int 1, .int 1]), (.tuple [.int 0, (.tuple [(.tuple [.int 0, (.tuple [.int 0])]), (.tuple [.int 1, (.tuple [.int 0])]), (.tuple [.int 1, (.tuple [.int 0])]), (.tuple [.int 1, (.tuple [.int 0])])])])]), (.tuple [(.tuple [.int 1, .int 0]), (.tuple [.int 0, (.tuple [(.tuple [.int 0, (.tuple [.int 0])]), (.tuple [.int 1, (.tuple [])]), (.tuple [.int 1, (.tuple [])])])])])])
def wide_pair_12 : PyData := (.tuple [(.tuple [(.tuple [.int 1, .int 0]), (.tuple [.int 0, (.tuple [(.tuple [.int 0, (.tuple [.int 0])]), (.tuple [.int 1, (.tuple [])]), (.tuple [.int 1, (.tuple [])])])])]), (.tuple [(.tuple [.int 1, .int 1]), (.tuple [.int 1, (.tuple [(.tuple [.int 1, (.tuple [.int 0])]), (.tuple [.int 0, (.tuple [.int 0])]), (.tuple [.int 0, (.tuple [.int 0])]), (.tuple [.int 1, (.tuple [.int 0])])])])])])
def wide_pair_13 : PyData := (.tuple [(.tuple [(.tuple [.int 1, .int 1]), (.tuple [.int 1, (.tuple [(.tuple [.int 1, (.tuple [.int 0])]), (.tuple [.int 0, (.tuple [.int 0])]), (.tuple [.int 0, (.tuple [.int 0])]), (.tuple [.int 1, (.tuple [.int 0])])])])]), (.tuple [(.tuple [.int 1, .int 0]), (.tuple [.int 0, (.tuple [(.tuple [.int 0, (.tuple [.int 0])]), (.tuple [.int 1, (.tuple [])]), (.tuple [.int 1, (.tuple [])])])])])])
def wide_pair_14 : PyData := (.tuple [(.tuple [(.tuple [.int 1, .int 0]), (.tuple [.int 0, (.tuple [(.tuple [.int 0, (.tuple [.int 0])]), (.tuple [.int 1, (.tuple [])]), (.tuple [.int 1, (.tuple [])])])])]), (.tuple [(.tuple [.int 1, .int 1]), (.tuple [.int 1, (.tuple [(.tuple [.int 0, (.tuple [.int 0])]), (.tuple [.int 0, (.tuple [.int 0])]), (.tuple [.int 0, (.tuple [.int 0])]), (.tuple [.int 1, (.tuple [.int 0])])])])])])
def wide_pair_15 : PyData := (.tuple [(.tuple [(.tuple [.int 1, .int 1]), (.tuple [.int 1, (.tuple [(.tuple [.int 0, (.tuple [.int 0])]), (.tuple [.int 0, (.tuple [.int 0])]), (.tuple [.int 0, (.tuple [.int 0])]), (.tuple [.int 1, (.tuple [.int 0])])])])]), (.tuple [(.tuple [.int 1, .int 0]), (.tuple [.int 0, (.tuple [(.tuple [.int 0, (.tuple [.int 0])]), (.tuple [.int 1, (.tuple [])]), (.tuple [.int 1, (.tuple [])])])])])])
def wide_pair_16 : PyData := (.tuple [(.tuple [(.tuple [.int 0, .int 1]), (.tuple [.int 1, (.tuple [(.tuple [.int 0, (.tuple [])]), (.tuple [.int 0, (.tuple [])]), (.tuple [.int 1, (.tuple [.int 0])])])])]), (.tuple [(.tuple [.int 2]), (.tuple [.int 0, (.tuple [(.tuple [.int 0, (.tuple [.int 0, .int 3])])])])])])
def wide_pair_17 : PyData := (.tuple [(.tuple [(.tuple [.int 2]), (.tuple [.int 0, (.tuple [(.tuple [.int 0, (.tuple [.int 0, .int 3])])])])]), (.tuple [(.tuple [.int 0, .int 1]), (.tuple [.int 1, (.tuple [(.tuple [.int 0, (.tuple [])]), (.tuple [.int 0, (.tuple [])]), (.tuple [.int 1, (.tuple [.int 0])])])])])])
def wide_pair_18 : PyData := (.tuple [(.tuple [(.tuple [.int 1, .int 0]), (.tuple [.int 0, (.tuple [(.tuple [.int 0, (.tuple [.int 0])]), (.tuple [.int 1, (.tuple [])]), (.tuple [.int 1, (.tuple [])])])])]), (.tuple [(.tuple [.int 2]), (.tuple [.int 0, (.tuple [(.tuple [.int 0, (.tuple [.int 0, .int 3])])])])])])
def wide_pair_19 : PyData := (.tuple [(.tuple [(.tuple [.int 2]), (.tuple [.int 0, (.tuple [(.tuple [.int 0, (.tuple [.int 0, .int 3])])])])]), (.tuple [(.tuple [.int 1, .int 0]), (.tuple [.int 0, (.tuple [(.tuple [.int 0, (.tuple [.int 0])]), (.tuple [.int 1, (.tuple [])]), (.tuple [.int 1, (.tuple [])])])])])])
def wide_pair_20 : PyData := (.tuple [(.tuple [(.tuple [.int 0, .int 1]), (.tuple [.int 1, (.tuple [(.tuple [.int 0, (.tuple [])]), (.tuple [.int 0, (.tuple [])]), (.tuple [.int 1, (.tuple [.int 0])])])])]), (.tuple [(.tuple [.int 0, .int 1]), (.tuple [.int 1, (.tuple [(.tuple [.int 0, (.tuple [])]), (.tuple [.int 0, (.tuple [])]), (.tuple [.int 1, (.tuple [.int 0])])])])])])
def wide_pair_21 : PyData := (.tuple [(.tuple [(.tuple [.int 0, .int 1]), (.tuple [.int 1, (.tuple [(.tuple [.int 0, (.tuple [])]), (.tuple [.int 0, (.tuple [])]), (.tuple [.int 1, (.tuple [.int 0])])])])]), (.tuple [(.tuple [.int 0, .int 0, .int 1]), (.tuple [.int 2, (.tuple [(.tuple [.int 0, (.tuple [])]), (.tuple [.int 1, (.tuple [])]), (.tuple [.int 0, (.tuple [])]), (.tuple [.int 1, (.tuple [])]), (.tuple [.int 2, (.tuple [.int 0])])])])])])
def wide_pair_22 : PyData := (.tuple [(.tuple [(.tuple [.int 0, .int 0, .int 1]), (.tuple [.int 2, (.tuple [(.tuple [.int 0, (.tuple [])]), (.tuple [.int 1, (.tuple [])]), (.tuple [.int 0, (.tuple [])]), (.tuple [.int 1, (.tuple [])]), (.tuple [.int 2, (.tuple [.int 0])])])])]), (.tuple [(.tuple [.int 0, .int 1]), (.tuple [.int 1, (.tuple [(.tuple [.int 0, (.tuple [])]), (.tuple [.int 0, (.tuple [])]), (.tuple [.int 1, (.tuple [.int 0])])])])])])
def wide_pair_23 : PyData := (.tuple [(.tuple [(.tuple [.int 0, .int 1]), (.tuple [.int 1, (.tuple [(.tuple [.int 0, (.tuple [])]), (.tuple [.int 0, (.tuple [])]), (.tuple [.int 1, (.tuple [.int 0])])])])]), (.tuple [(.tuple [.int 0, .int 1, .int 0]), (.tuple [.int 1, (.tuple [(.tuple [.int 0, (.tuple [])]), (.tuple [.int 0, (.tuple [])]), (.tuple [.int 1, (.tuple [.int 0])]), (.tuple [.int 2, (.tuple [])]), (.tuple [.int 2, (.tuple [])])])])])])
def wide_pair_24 : PyData := (.tuple [(.tuple [(.tuple [.int 0, .int 1, .int 0]), (.tuple [.int 1, (.tuple [(.tuple [.int 0, (.tuple [])]), (.tuple [.int 0, (.tuple [])]), (.tuple [.int 1, (.tuple [.int 0])]), (.tuple [.int 2, (.tuple [])]), (.tuple [.int 2, (.tuple [])])])])]), (.tuple [(.tuple [.int 0, .int 1]), (.tuple [.int 1, (.tuple [(.tuple [.int 0, (.tuple [])]), (.tuple [.int 0, (.tuple [])]), (.tuple [.int 1, (.tuple [.int 0])])])])])])
def wide_pair_25 : PyData := (.tuple [(.tuple [(.tuple [.int 0, .int 1]), (.tuple [.int 1, (.tuple [(.tuple [.int 0, (.tuple [])]), (.tuple [.int 0, (.tuple [])]), (.tuple [.int 1, (.tuple [.int 0])])])])]), (.tuple [(.tuple [.int 1, .int 0, .int 0]), (.tuple [.int 0, (.tuple [(.tuple [.int 0, (.tuple [.int 0])]), (.tuple [.int 1, (.tuple [])]), (.tuple [.int 2, (.tuple [])]), (.tuple [.int 1, (.tuple [])]), (.tuple [.int 2, (.tuple [])])])])])])
def wide_pair_26 : PyData := (.tuple [(.tuple [(.tuple [.int 1, .int 0, .int 0]), (.tuple [.int 0, (.tuple [(.tuple [.int 0, (.tuple [.int 0])]), (.tuple [.int 1, (.tuple [])]), (.tuple [.int 2, (.tuple [])]), (.tuple [.int 1, (.tuple [])]), (.tuple [.int 2, (.tuple [])])])])]), (.tuple [(.tuple [.int 0, .int 1]), (.tuple [.int 1, (.tuple [(.tuple [.int 0, (.tuple [])]), (.tuple [.int 0, (.tuple [])]), (.tuple [.int 1, (.tuple [.int 0])])])])])])
def wide_pair_27 : PyData := (.tuple [(.tuple [(.tuple [.int 1, .int 0]), (.tuple [.int 0, (.tuple [(.tuple [.int 0, (.tuple [.int 0])]), (.tuple [.int 1, (.tuple [])]), (.tuple [.int 1, (.tuple [])])])])]), (.tuple [(.tuple [.int 0, .int 1]), (.tuple [.int 1, (.tuple [(.tuple [.int 0, (.tuple [])]), (.tuple [.int 0, (.tuple [])]), (.tuple [.int 1, (.tuple [.int 0])])])])])])
def wide_pair_28 : PyData := (.tuple [(.tuple [(.tuple [.int 0, .int 1]), (.tuple [.int 1, (.tuple [(.tuple [.int 0, (.tuple [])]), (.tuple [.int 0, (.tuple [])]), (.tuple [.int 1, (.tuple [.int 0])])])])]), (.tuple [(.tuple [.int 1, .int 0]), (.tuple [.int 0, (.tuple [(.tuple [.int 0, (.tuple [.int 0])]), (.tuple [.int 1, (.tuple [])]), (.tuple [.int 1, (.tuple [])])])])])])
def wide_pair_29 : PyData := (.tuple [(.tuple [(.tuple [.int 1, .int 0]), (.tuple [.int 0, (.tuple [(.tuple [.int 0, (.tuple [.int 0])]), (.tuple [.int 1, (.tuple [])]), (.tuple [.int 1, (.tuple [])])])])]), (.tuple [(.tuple [.int 1, .int 0]), (.tuple [.int 0, (.tuple [(.tuple [.int 0, (.tuple [.int 0])]), (.tuple [.int 1, (.tuple [])]), (.tuple [.int 1, (.tuple [])])])])])])
def wide_pair_30 : PyData := (.tuple [(.tuple [(.tuple [.int 1, .int 0]), (.tuple [.int 0, (.tuple [(.tuple [.int 0, (.tuple [.int 0])]), (.tuple [.int 1, (.tuple [])]), (.tuple [.int 1, (.tuple [])])])])]), (.tuple [(.tuple [.int 0, .int 0, .int 1]), (.tuple [.int 2, (.tuple [(.tuple [.int 0, (.tuple [])]), (.tuple [.int 1, (.tuple [])]), (.tuple [.int 0, (.tuple [])]), (.tuple [.int 1, (.tuple [])]), (.tuple [.int 2, (.tuple [.int 0])])])])])])
def wide_pair_31 : PyData := (.tuple [(.tuple [(.tuple [.int 0, .int 0, .int 1]), (.tuple [.int 2, (.tuple [(.tuple [.int 0, (.tuple [])]), (.tuple [.int 1, (.tuple [])]), (.tuple [.int 0, (.tuple [])]), (.tuple [.int 1, (.tuple [])]), (.tuple [.int 2, (.tuple [.int 0])])])])]), (.tuple [(.tuple [.int 1, .int 0]), (.tuple [.int 0, (.tuple [(.tuple [.int 0, (.tuple [.int 0])]), (.tuple [.int 1, (.tuple [])]), (.tuple [.int 1, (.tuple [])])])])])])
def wide_pair_32 : PyData := (.tuple [(.tuple [(.tuple [.int 1, .int 0]), (.tuple [.int 0, (.tuple [(.tuple [.int 0, (.tuple [.int 0])]), (.tuple [.int 1, (.tuple [])]), (.tuple [.int 1, (.tuple [])])])])]), (.tuple [(.tuple [.int 0, .int 1, .int 0]), (.tuple [.int 1, (.tuple [(.tuple [.int 0, (.tuple [])]), (.tuple [.int 0, (.tuple [])]), (.tuple [.int 1, (.tuple [.int 0])]), (.tuple [.int 2, (.tuple [])]), (.tuple [.int 2, (.tuple [])])])])])])
def wide_pair_33 : PyData := (.tuple [(.tuple [(.tuple [.int 0, .int 1, .int 0]), (.tuple [.int 1, (.tuple [(.tuple [.int 0, (.tuple [])]), (.tuple [.int 0, (.tuple [])]), (.tuple [.int 1, (.tuple [.int 0])]), (.tuple [.int 2, (.tuple [])]), (.tuple [.int 2, (.tuple [])])])])]), (.tuple [(.tuple [.int 1, .int 0]), (.tuple [.int 0, (.tuple [(.tuple [.int 0, (.tuple [.int 0])]), (.tuple [.int 1, (.tuple [])]), (.tuple [.int 1, (.tuple [])])])])])])
def wide_pair_34 : PyData := (.tuple [(.tuple [(.tuple [.int 1, .int 0]), (.tuple [.int 0, (.tuple [(.tuple [.int 0, (.tuple [.int 0])]), (.tuple [.int 1, (.tuple [])]), (.tuple [.int 1, (.tuple [])])])])]), (.tuple [(.tuple [.int 1, .int 0, .int 0]), (.tuple [.int 0, (.tuple [(.tuple [.int 0, (.tuple [.int 0])]), (.tuple [.int 1, (.tuple [])]), (.tuple [.int 2, (.tuple [])]), (.tuple [.int 1, (.tuple [])]), (.tuple [.int 2, (.tuple [])])])])])])
def wide_pair_35 : PyData := (.tuple [(.tuple [(.tuple [.int 1, .int 0, .int 0]), (.tuple [.int 0, (.tuple [(.tuple [.int 0, (.tuple [.int 0])]), (.tuple [.int 1, (.tuple [])]), (.tuple [.int 2, (.tuple [])]), (.tuple [.int 1, (.tuple [])]), (.tuple [.int 2, (.tuple [])])])])]), (.tuple [(.tuple [.int 1, .int 0]), (.tuple [.int 0, (.tuple [(.tuple [.int 0, (.tuple [.int 0])]), (.tuple [.int 1, (.tuple [])]), (.tuple [.int 1, (.tuple [])])])])])])
def wide_pairL : List PyData := [wide_pair_0, wide_pair_1, wide_pair_2, wide_pair_3, wide_pair_4, wide_pair_5, wide_pair_6, wide_pair_7, wide_pair_8, wide_pair_9, wide_pair_10, wide_pair_11, wide_pair_12, wide_pair_13, wide_pair_14, wide_pair_15, wide_pair_16, wide_pair_17, wide_pair_18, wide_pair_19, wide_pair_20, wide_pair_21, wide_pair_22, wide_pair_23, wide_pair_24, wide_pair_25, wide_pair_26, wide_pair_27, wide_pair_28, wide_pair_29, wide_pair_30, wide_pair_31, wide_pair_32, wide_pair_33, wide_pair_34, wide_pair_35]
theorem wide_pair_sub : subN (r_n_wide_pair []) 13 wide_pairL = true := by decide +kernel
abbrev n_wide_pair := cN 13 wide_pairL
theorem len_n_wide_pair (ds : List PyData) (z : Nat × List PyData) (h : n_wide_pair ds = some z) : ds.length + 1 = 1 := len_cN ds z h

end K50

set_option Elab.async false
set_option linter.all false
set_option maxRecDepth 100000
set_option maxHeartbeats 4000000
namespace K50
open PySem PySem.Spec PyProof.Rows L2
variable {P : Program} {w : World} {K : PySem.W.Frag} {mg : Str → Option Value} {base : Heap}

/-! product_right -/
def g_n_product_right : Sl → Nm Out := (nBnd (.pr 6 7) (nCallN 0 n_pair (nP fNil)))
def h_n_product_right : Sl → Nm Out := (nSeq (nP (gSet 1 (fCall l_product_book (fCons (f2 opIdx (fVar 6) (fC (.int 0))) (fCons (f2 opIdx (fVar 6) (fC (.int 1))) (fCons (f2 opIdx (fVar 7) (fC (.int 0))) (fCons (f2 opIdx (fVar 7) (fC (.int 1))) fNil)))))))
  (nSeq (nP (gSet 2 (fCall p_product_book (fCons (f2 opIdx (fVar 6) (fC (.int 0))) (fCons (f2 opIdx (fVar 6) (fC (.int 1))) (fCons (f2 opIdx (fVar 7) (fC (.int 0))) (fCons (f2 opIdx (fVar 7) (fC (.int 1))) fNil)))))))
  (nSeq (nP (gIf (fNot (fT (fCall ql_like (fCons (fLst (fCons (fVar 2) (fCons (fCall m_need_book (fCons (f2 opIdx (fVar 1) (fC (.int 0))) (fCons (fVar 2) fNil))) fNil))) (fCons (fLst (fCons (f2 opIdx (fVar 1) (fC (.int 1))) (fCons (f2 opIdx (fVar 1) (fC (.int 1))) fNil))) fNil)))))
  (gRet (fC (.bool false)))
  gNext))
  (nSeq (nP (gSet 3 (fCall l_looks (fCons (f2 opIdx (fVar 6) (fC (.int 0))) (fCons (f2 opIdx (fVar 7) (fC (.int 0))) fNil)))))
  (nSeq (nP (gFor (.pr 8 9) (fItems (fTup (fCons (fTup (fCons (fVar 6) (fCons (f2 opIdx (fVar 3) (fC (.int 0))) fNil))) (fCons (fTup (fCons (fVar 7) (fCons (f2 opIdx (fVar 3) (fC (.int 1))) fNil))) fNil))))
  (gIf (fT (f2 opNotB (fCall p_is_book_map (fCons (f2 opIdx (fVar 1) (fC (.int 0))) (fCons (f2 opIdx (fVar 1) (fC (.int 1))) (fCons (f2 opIdx (fVar 8) (fC (.int 0))) (fCons (f2 opIdx (fVar 8) (fC (.int 1))) (fCons (fVar 9) fNil)))))) (fC (.bool true))))
  (gRet (fC (.bool false)))
  gNext)))
  (nSeq (nP (gSet 4 (fCall opTuple (fCons (fComp (.pr 13 14) [13, 14] fYes (fTup (fCons (fVar 13) (fCons (fRng .tuple fZero (fVar 14)) fNil))) (fEnum (f2 opIdx (fVar 1) (fC (.int 0))))) fNil))))
  (nSeqD [10, 11, 13, 14, 2] (nSeq (nPar 10 11 (nCons (nCallN 0 n_table (nP (fCons (f2 opIdx (fVar 1) (fC (.int 0))) (fCons (f2 opIdx (fVar 1) (fC (.int 0))) fNil)))) (nCons (nCallN 0 n_draw (nP (fCons (fCall opLen (fCons (fVar 4) fNil)) fNil))) (fun _ => nRet []))))
  (nIf (nAnd (nP (fT (f1 (fun x => some (.bool (!isNon x))) (fVar 10)))) (nBool (n2 opEq (nCallN 0 n_draw (nP (fCons (fC (.int 2)) fNil))) (nP (fC (.int 0))))))
  (nP (gSet 4 (f2 opAdd (f2 opAdd (fSlice (fVar 4) none (some (fVar 11))) (fSlice (fVar 10) (some (fVar 11)) (some (f2 opAdd (fVar 11) (fC (.int 1)))))) (fSlice (fVar 4) (some (f2 opAdd (fVar 11) (fC (.int 1)))) none))))
  nNext))
  (nP (gSeq (gSetOwn 5 fNil)
  (gSeq (gFor (.pr 8 9) (fItems (fTup (fCons (fTup (fCons (fVar 6) (fCons (f2 opIdx (fVar 3) (fC (.int 0))) fNil))) (fCons (fTup (fCons (fVar 7) (fCons (f2 opIdx (fVar 3) (fC (.int 1))) fNil))) fNil))))
  (gSeq (gSet 12 (fCall opTuple (fCons (fComp (.nm 15) [15] fYes (fCall ql_done (fCons (fVar 9) (fCons (fVar 15) fNil))) (fItems (fVar 4))) fNil)))
  (gSeq (gIf (fNot (fT (fCall l_judged (fCons (fVar 1) (fCons (fVar 8) (fCons (fVar 12) fNil))))))
  (gRet (fC (.bool false)))
  gNext)
  (gApp 5 (fCall l_is_map (fCons (f2 opIdx (fVar 1) (fC (.int 0))) (fCons (f2 opIdx (fVar 1) (fC (.int 1))) (fCons (f2 opIdx (fVar 8) (fC (.int 0))) (fCons (f2 opIdx (fVar 8) (fC (.int 1))) (fCons (fVar 12) fNil))))))))))
  (gFrz 5 (gRet (fCall ql_like (fCons (fCall p_is_book_map (fCons (f2 opIdx (fVar 1) (fC (.int 0))) (fCons (f2 opIdx (fVar 1) (fC (.int 1))) (fCons (f2 opIdx (fVar 1) (fC (.int 0))) (fCons (f2 opIdx (fVar 1) (fC (.int 1))) (fCons (fVar 4) fNil)))))) (fCons (f2 opEq (fVar 5) (fLst (fCons (fC (.bool true)) (fCons (fC (.bool true)) fNil)))) fNil)))))))))))))))
def b_n_product_right : Sl → Nm Out := (nSeq g_n_product_right h_n_product_right)
def r_n_product_right : List PyData → Nm PyData := runN 1 16 b_n_product_right
theorem sc_n_product_right : FnScope ["_law_state", "_law_both", "_law_got", "_law_looks_here", "_law_told", "_law_halves", "_law_near", "_law_far", "_law_goal_so", "_law_look", "_law_drawn", "_law_at", "_law_half", "_law_pick", "_law_wide", "_law_row"] ["_law_state"] (defScope (top 69)) := ⟨rfl, rfl, rfl, by decide +kernel, rfl, by decide +kernel, by decide +kernel⟩
theorem ok_n_product_right (T : Txt mg) (hF : Has K mg "_law_product_right" 69) (c_l_product_book : Cal P w K mg base 3 "_law_product_book" ["_law_near_so", "_law_book_so", "_law_far_so", "_law_twin_so"] (spF 4 l_product_book)) (c_p_product_book : Cal P w K mg base 9 "product_book" ["holder", "book", "goal", "other"] (spF 4 p_product_book)) (c_m_need_book : Cal P w K mg base 8 "need_book" ["holder", "book"] (spF 2 m_need_book)) (c_ql_like : Cal P w K mg base 1 "_law_like" ["_law_got", "_law_due"] (spF 2 ql_like)) (c_l_looks : Cal P w K mg base 1 "_law_looks" ["_law_near_so", "_law_far_so"] (spF 2 l_looks)) (c_p_is_book_map : Cal P w K mg base 9 "is_book_map" ["holder", "book", "goal", "other", "program"] (spF 5 p_is_book_map)) (c_ql_done : Cal P w K mg base 1 "_law_done" ["_law_table_so", "_law_filled_so"] (spF 2 ql_done)) (c_l_judged : Cal P w K mg base 10 "_law_judged" ["_law_near", "_law_far", "_law_table_so"] (spF 3 l_judged)) (c_l_is_map : Cal P w K mg base 3 "_law_is_map" ["_law_near_so", "_law_book_so", "_law_far_so", "_law_twin_so", "_law_table_so"] (spF 5 l_is_map)) (c_n_pair : Cal P w K mg base 6 "_law_pair" ["_law_state"] (spN 1 n_pair)) (c_n_draw : Cal P w K mg base 2 "_law_draw" ["_law_state", "_law_limit"] (spN 2 n_draw)) (c_n_table : Cal P w K mg base 4 "_law_table" ["_law_state", "_law_near_so", "_law_far_so"] (spN 3 n_table)) : Cal P w K mg base 11 "_law_product_right" ["_law_state"] (spN 1 r_n_product_right) :=
  calN_of (k := 10) (y := "_law_state") (N := ["_law_both", "_law_got", "_law_looks_here", "_law_told", "_law_halves", "_law_near", "_law_far", "_law_goal_so", "_law_look", "_law_drawn", "_law_at", "_law_half", "_law_pick", "_law_wide", "_law_row"]) hF sc_n_product_right rfl (fun _ _ _ _ _ _ us hl => match us, hl with | [_], _ => rfl) (body := b_n_product_right) fun f cd A outer s H F p c l L o =>
  (ns_cons (ns_bind (ds_bind (.pr 6 7) (pg_pr o.calm (pg_name (i := 6) sc_n_product_right.nd rfl (by first | exact Or.inl rfl | exact Or.inr rfl)) (pg_name (i := 7) sc_n_product_right.nd rfl (by first | exact Or.inl rfl | exact Or.inr rfl))) (de_callN c_n_pair o (by decide) len_n_pair rfl (pv 0) (na_p da_fNil))))
  (ns_cons (ns_p (s_set (ds_set 1 sc_n_product_right.nd rfl (by first | exact Or.inl rfl | exact Or.inr rfl) (ec (de_call c_l_product_book o (by decide) runF_len rfl (da_fCons (e2 (de_idx (de_var 6 (pv 6)) de_int)) (da_fCons (e2 (de_idx (de_var 6 (pv 6)) de_int)) (da_fCons (e2 (de_idx (de_var 7 (pv 7)) de_int)) (da_fCons (e2 (de_idx (de_var 7 (pv 7)) de_int)) da_fNil)))))))))
  (ns_cons (ns_p (s_set (ds_set 2 sc_n_product_right.nd rfl (by first | exact Or.inl rfl | exact Or.inr rfl) (ec (de_call c_p_product_book o (by decide) runF_len rfl (da_fCons (e2 (de_idx (de_var 6 (pv 6)) de_int)) (da_fCons (e2 (de_idx (de_var 6 (pv 6)) de_int)) (da_fCons (e2 (de_idx (de_var 7 (pv 7)) de_int)) (da_fCons (e2 (de_idx (de_var 7 (pv 7)) de_int)) da_fNil)))))))))
  (ns_cons (ns_p (s_if (ds_if (t_not (tv (ec (de_call c_ql_like o (by decide) len_ql_like rfl (da_fCons (de_fLst (da_fCons (de_var 2 (pv 2)) (da_fCons (ec (de_call c_m_need_book o (by decide) len_m_need_book rfl (da_fCons (e2 (de_idx (de_var 1 (pv 1)) de_int)) (da_fCons (de_var 2 (pv 2)) da_fNil)))) da_fNil))) (da_fCons (de_fLst (da_fCons (e2 (de_idx (de_var 1 (pv 1)) de_int)) (da_fCons (e2 (de_idx (de_var 1 (pv 1)) de_int)) da_fNil))) da_fNil))))))
  (s_one (s_ret (ds_ret de_bl)))
  s_nil)))
  (ns_cons (ns_p (s_set (ds_set 3 sc_n_product_right.nd rfl (by first | exact Or.inl rfl | exact Or.inr rfl) (ec (de_call c_l_looks o (by decide) runF_len rfl (da_fCons (e2 (de_idx (de_var 6 (pv 6)) de_int)) (da_fCons (e2 (de_idx (de_var 7 (pv 7)) de_int)) da_fNil)))))))
  (ns_cons (ns_p (s_for (ds_for (.pr 8 9) PassesOwn.never o.calm (di_seq (de_fTup (da_fCons (de_fTup (da_fCons (de_var 6 (pv 6)) (da_fCons (e2 (de_idx (de_var 3 (pv 3)) de_int)) da_fNil))) (da_fCons (de_fTup (da_fCons (de_var 7 (pv 7)) (da_fCons (e2 (de_idx (de_var 3 (pv 3)) de_int)) da_fNil))) da_fNil)))) (pg_pr o.calm (pg_name (i := 8) sc_n_product_right.nd rfl (by first | exact Or.inl rfl | exact Or.inr rfl)) (pg_name (i := 9) sc_n_product_right.nd rfl (by first | exact Or.inl rfl | exact Or.inr rfl)))
  (s_one (s_if (ds_if (t2 (dt_notB (ec (de_call c_p_is_book_map o (by decide) runF_len rfl (da_fCons (e2 (de_idx (de_var 1 (pv 1)) de_int)) (da_fCons (e2 (de_idx (de_var 1 (pv 1)) de_int)) (da_fCons (e2 (de_idx (de_var 8 (pv 8)) de_int)) (da_fCons (e2 (de_idx (de_var 8 (pv 8)) de_int)) (da_fCons (de_var 9 (pv 9)) da_fNil))))))) de_bl))
  (s_one (s_ret (ds_ret de_bl)))
  s_nil))))))
  (ns_cons (ns_p (s_set (ds_set 4 sc_n_product_right.nd rfl (by first | exact Or.inl rfl | exact Or.inr rfl) (ec (de_tuple rfl T.tuple (da_fCons (v_comp (de_comp (.pr 13 14) [("_law_pick", 13), ("_law_wide", 14)] o.calm sc_n_product_right.nd (di_enum rfl T.enumerate (e2 (de_idx (de_var 1 (pv 1)) de_int))) (blkOk_by (N := ["_law_state", "_law_both", "_law_got", "_law_looks_here", "_law_told", "_law_halves", "_law_near", "_law_far", "_law_goal_so", "_law_look", "_law_drawn", "_law_at", "_law_half", "_law_pick", "_law_wide", "_law_row"]) (sc := defScope (top 69)) (by decide +kernel)) (fun _ _ _ _ _ => (pg_pr o.blk.calm (pg_name (i := 13) sc_n_product_right.nd rfl (by first | exact Or.inl rfl | exact Or.inr rfl)) (pg_name (i := 14) sc_n_product_right.nd rfl (by first | exact Or.inl rfl | exact Or.inr rfl)))) (fun _ _ _ _ _ => ts_nil) (fun _ _ _ _ _ => (de_fTup (da_fCons (de_var 13 (pv 13)) (da_fCons (de_tupRg1 o.blk.calm rfl T.tuple rfl T.range (de_var 14 (pv 14))) da_fNil)))) (by decide))) da_fNil))))))
  (ns_consD2 [10, 11, 13, 14, 2] (ns_par (ds_par 10 11 o.calm sc_n_product_right.nd rfl rfl (by decide) rfl rfl (na_cons (de_callN c_n_table o (by decide) len_n_table rfl (pv 0) (na_p (da_fCons (e2 (de_idx (de_var 1 (pv 1)) de_int)) (da_fCons (e2 (de_idx (de_var 1 (pv 1)) de_int)) da_fNil)))) (na_cons (de_callN c_n_draw o (by decide) n_draw_len rfl (pv 0) (na_p (da_fCons (ec (de_len rfl T.len (da_fCons (de_var 4 (pv 4)) da_fNil))) da_fNil))) na_nil)) rfl))
  (ns_if (ds_if (DW.dt (nw_and (nt_p (t1 (dt_notN (de_var 10 (pv 10))))) (nw_and1 (nt2 (dt_eq o.u64 (de_callN c_n_draw o (by decide) n_draw_len rfl (pv 0) (na_p (da_fCons de_int da_fNil))) (ne_p de_int))))))
  (nss_p (s_one (s_set (ds_set 4 sc_n_product_right.nd rfl (by first | exact Or.inl rfl | exact Or.inr rfl) (e2 (de_add (e2 (de_add (de_fSlice01 (de_var 4 (pv 4)) (de_var 11 (pv 11))) (de_fSlice11 (de_var 10 (pv 10)) (de_var 11 (pv 11)) (e2 (de_add (de_var 11 (pv 11)) de_int))))) (de_fSlice10 (de_var 4 (pv 4)) (e2 (de_add (de_var 11 (pv 11)) de_int)))))))))
  ns_nil))
  (nss_p (s_cons (s_setOwn (ds_setOwn 5 sc_n_product_right.nd rfl (by first | exact Or.inl rfl | exact Or.inr rfl) da_fNil))
  (s_cons (s_for (ds_for (.pr 8 9) PassesOwn.never o.calm (di_seq (de_fTup (da_fCons (de_fTup (da_fCons (de_var 6 (pv 6)) (da_fCons (e2 (de_idx (de_var 3 (pv 3)) de_int)) da_fNil))) (da_fCons (de_fTup (da_fCons (de_var 7 (pv 7)) (da_fCons (e2 (de_idx (de_var 3 (pv 3)) de_int)) da_fNil))) da_fNil)))) (pg_pr o.calm (pg_name (i := 8) sc_n_product_right.nd rfl (by first | exact Or.inl rfl | exact Or.inr rfl)) (pg_name (i := 9) sc_n_product_right.nd rfl (by first | exact Or.inl rfl | exact Or.inr rfl)))
  (s_cons (s_set (ds_set 12 sc_n_product_right.nd rfl (by first | exact Or.inl rfl | exact Or.inr rfl) (ec (de_tuple rfl T.tuple (da_fCons (v_comp (de_comp (.nm 15) [("_law_row", 15)] o.calm sc_n_product_right.nd (di_seq (de_var 4 (pv 4))) (blkOk_by (N := ["_law_state", "_law_both", "_law_got", "_law_looks_here", "_law_told", "_law_halves", "_law_near", "_law_far", "_law_goal_so", "_law_look", "_law_drawn", "_law_at", "_law_half", "_law_pick", "_law_wide", "_law_row"]) (sc := defScope (top 69)) (by decide +kernel)) (fun _ _ _ _ _ => (pg_name (i := 15) sc_n_product_right.nd rfl (by first | exact Or.inl rfl | exact Or.inr rfl))) (fun _ _ _ _ _ => ts_nil) (fun _ _ _ _ _ => (ec (de_call c_ql_done o.blk (by decide) len_ql_done rfl (da_fCons (de_var 9 (pv 9)) (da_fCons (de_var 15 (pv 15)) da_fNil))))) (by decide))) da_fNil)))))
  (s_cons (s_if (ds_if (t_not (tv (ec (de_call c_l_judged o (by decide) runF_len rfl (da_fCons (de_var 1 (pv 1)) (da_fCons (de_var 8 (pv 8)) (da_fCons (de_var 12 (pv 12)) da_fNil)))))))
  (s_one (s_ret (ds_ret de_bl)))
  s_nil))
  (s_one (s_app (ds_app 5 (pv 5) (ec (de_call c_l_is_map o (by decide) runF_len rfl (da_fCons (e2 (de_idx (de_var 1 (pv 1)) de_int)) (da_fCons (e2 (de_idx (de_var 1 (pv 1)) de_int)) (da_fCons (e2 (de_idx (de_var 8 (pv 8)) de_int)) (da_fCons (e2 (de_idx (de_var 8 (pv 8)) de_int)) (da_fCons (de_var 12 (pv 12)) da_fNil))))))))))))))
  (s_frz 5 (s_one (s_ret (ds_ret (ec (de_call c_ql_like o (by decide) len_ql_like rfl (da_fCons (ec (de_call c_p_is_book_map o (by decide) runF_len rfl (da_fCons (e2 (de_idx (de_var 1 (pv 1)) de_int)) (da_fCons (e2 (de_idx (de_var 1 (pv 1)) de_int)) (da_fCons (e2 (de_idx (de_var 1 (pv 1)) de_int)) (da_fCons (e2 (de_idx (de_var 1 (pv 1)) de_int)) (da_fCons (de_var 4 (pv 4)) da_fNil))))))) (da_fCons (e2 (de_eq o.u64 (de_var 5 (pv 5)) (de_fLst (da_fCons de_bl (da_fCons de_bl da_fNil))))) da_fNil)))))))))))))))))))

/-! wide_right -/
def g_n_wide_right : Sl → Nm Out := (nBnd (.pr 2 3) (nCallN 0 n_wide_pair (nP fNil)))
def h_n_wide_right : Sl → Nm Out := (nP (gSeq (gSet 1 (fCall l_product_book (fCons (f2 opIdx (fVar 2) (fC (.int 0))) (fCons (f2 opIdx (fVar 2) (fC (.int 1))) (fCons (f2 opIdx (fVar 3) (fC (.int 0))) (fCons (f2 opIdx (fVar 3) (fC (.int 1))) fNil))))))
  (gSeq (gIf (fNot (fT (fCall ql_like (fCons (fCall p_product_book (fCons (f2 opIdx (fVar 2) (fC (.int 0))) (fCons (f2 opIdx (fVar 2) (fC (.int 1))) (fCons (f2 opIdx (fVar 3) (fC (.int 0))) (fCons (f2 opIdx (fVar 3) (fC (.int 1))) fNil))))) (fCons (f2 opIdx (fVar 1) (fC (.int 1))) fNil)))))
  (gRet (fC (.bool false)))
  gNext)
  (gSeq (gIf (fOr (fT (f2 opGt (fCall opLen (fCons (f2 opIdx (fVar 1) (fC (.int 0))) fNil)) (fC (.int 4)))) (fT (f2 opGt (fCall opSum2 (fCons (f2 opIdx (fVar 1) (fC (.int 0))) fNil)) (fC (.int 4)))))
  (gRet (fC (.bool true)))
  gNext)
  (gSeq (gIf (fNot (fT (fCall ql_like (fCons (fCall m_need_book (fCons (f2 opIdx (fVar 1) (fC (.int 0))) (fCons (f2 opIdx (fVar 1) (fC (.int 1))) fNil))) (fCons (f2 opIdx (fVar 1) (fC (.int 1))) fNil)))))
  (gRet (fC (.bool false)))
  gNext)
  (gSeq (gFor (.pr 4 5) (fZip (fTup (fCons (fVar 2) (fCons (fVar 3) fNil))) (fCall l_looks (fCons (f2 opIdx (fVar 2) (fC (.int 0))) (fCons (f2 opIdx (fVar 3) (fC (.int 0))) fNil))))
  (gIf (fT (f2 opNotB (fCall p_is_book_map (fCons (f2 opIdx (fVar 1) (fC (.int 0))) (fCons (f2 opIdx (fVar 1) (fC (.int 1))) (fCons (f2 opIdx (fVar 4) (fC (.int 0))) (fCons (f2 opIdx (fVar 4) (fC (.int 1))) (fCons (fVar 5) fNil)))))) (fC (.bool true))))
  (gRet (fC (.bool false)))
  gNext))
  (gRet (fC (.bool true)))))))))
def b_n_wide_right : Sl → Nm Out := (nSeq g_n_wide_right h_n_wide_right)
def r_n_wide_right : List PyData → Nm PyData := runN 1 6 b_n_wide_right
theorem sc_n_wide_right : FnScope ["_law_state", "_law_both", "_law_near", "_law_far", "_law_goal_so", "_law_look"] ["_law_state"] (defScope (top 71)) := ⟨rfl, rfl, rfl, by decide +kernel, rfl, by decide +kernel, by decide +kernel⟩
theorem ok_n_wide_right (T : Txt mg) (hF : Has K mg "_law_wide_right" 71) (c_l_product_book : Cal P w K mg base 3 "_law_product_book" ["_law_near_so", "_law_book_so", "_law_far_so", "_law_twin_so"] (spF 4 l_product_book)) (c_p_product_book : Cal P w K mg base 9 "product_book" ["holder", "book", "goal", "other"] (spF 4 p_product_book)) (c_ql_like : Cal P w K mg base 1 "_law_like" ["_law_got", "_law_due"] (spF 2 ql_like)) (c_m_need_book : Cal P w K mg base 8 "need_book" ["holder", "book"] (spF 2 m_need_book)) (c_l_looks : Cal P w K mg base 1 "_law_looks" ["_law_near_so", "_law_far_so"] (spF 2 l_looks)) (c_p_is_book_map : Cal P w K mg base 9 "is_book_map" ["holder", "book", "goal", "other", "program"] (spF 5 p_is_book_map)) (c_n_wide_pair : Cal P w K mg base 5 "_law_wide_pair" ["_law_state"] (spN 1 n_wide_pair)) : Cal P w K mg base 10 "_law_wide_right" ["_law_state"] (spN 1 r_n_wide_right) :=
  calN_of (k := 9) (y := "_law_state") (N := ["_law_both", "_law_near", "_law_far", "_law_goal_so", "_law_look"]) hF sc_n_wide_right rfl (fun _ _ _ _ _ _ us hl => match us, hl with | [_], _ => rfl) (body := b_n_wide_right) fun f cd A outer s H F p c l L o =>
  (ns_cons (ns_bind (ds_bind (.pr 2 3) (pg_pr o.calm (pg_name (i := 2) sc_n_wide_right.nd rfl (by first | exact Or.inl rfl | exact Or.inr rfl)) (pg_name (i := 3) sc_n_wide_right.nd rfl (by first | exact Or.inl rfl | exact Or.inr rfl))) (de_callN c_n_wide_pair o (by decide) len_n_wide_pair rfl (pv 0) (na_p da_fNil))))
  (nss_p (s_cons (s_set (ds_set 1 sc_n_wide_right.nd rfl (by first | exact Or.inl rfl | exact Or.inr rfl) (ec (de_call c_l_product_book o (by decide) runF_len rfl (da_fCons (e2 (de_idx (de_var 2 (pv 2)) de_int)) (da_fCons (e2 (de_idx (de_var 2 (pv 2)) de_int)) (da_fCons (e2 (de_idx (de_var 3 (pv 3)) de_int)) (da_fCons (e2 (de_idx (de_var 3 (pv 3)) de_int)) da_fNil))))))))
  (s_cons (s_if (ds_if (t_not (tv (ec (de_call c_ql_like o (by decide) len_ql_like rfl (da_fCons (ec (de_call c_p_product_book o (by decide) runF_len rfl (da_fCons (e2 (de_idx (de_var 2 (pv 2)) de_int)) (da_fCons (e2 (de_idx (de_var 2 (pv 2)) de_int)) (da_fCons (e2 (de_idx (de_var 3 (pv 3)) de_int)) (da_fCons (e2 (de_idx (de_var 3 (pv 3)) de_int)) da_fNil)))))) (da_fCons (e2 (de_idx (de_var 1 (pv 1)) de_int)) da_fNil))))))
  (s_one (s_ret (ds_ret de_bl)))
  s_nil))
  (s_cons (s_if (ds_if (DW.dt (w_or (t2 (dt_gt (ec (de_len rfl T.len (da_fCons (e2 (de_idx (de_var 1 (pv 1)) de_int)) da_fNil))) de_int)) (w_or1 (t2 (dt_gt (ec (de_sum2 o.calm rfl T.sum (da_fCons (e2 (de_idx (de_var 1 (pv 1)) de_int)) da_fNil))) de_int)))))
  (s_one (s_ret (ds_ret de_bl)))
  s_nil))
  (s_cons (s_if (ds_if (t_not (tv (ec (de_call c_ql_like o (by decide) len_ql_like rfl (da_fCons (ec (de_call c_m_need_book o (by decide) len_m_need_book rfl (da_fCons (e2 (de_idx (de_var 1 (pv 1)) de_int)) (da_fCons (e2 (de_idx (de_var 1 (pv 1)) de_int)) da_fNil)))) (da_fCons (e2 (de_idx (de_var 1 (pv 1)) de_int)) da_fNil))))))
  (s_one (s_ret (ds_ret de_bl)))
  s_nil))
  (s_cons (s_for (ds_for (.pr 4 5) PassesOwn.never o.calm (di_zip rfl T.zip (de_fTup (da_fCons (de_var 2 (pv 2)) (da_fCons (de_var 3 (pv 3)) da_fNil))) (ec (de_call c_l_looks o (by decide) runF_len rfl (da_fCons (e2 (de_idx (de_var 2 (pv 2)) de_int)) (da_fCons (e2 (de_idx (de_var 3 (pv 3)) de_int)) da_fNil))))) (pg_pr o.calm (pg_name (i := 4) sc_n_wide_right.nd rfl (by first | exact Or.inl rfl | exact Or.inr rfl)) (pg_name (i := 5) sc_n_wide_right.nd rfl (by first | exact Or.inl rfl | exact Or.inr rfl)))
  (s_one (s_if (ds_if (t2 (dt_notB (ec (de_call c_p_is_book_map o (by decide) runF_len rfl (da_fCons (e2 (de_idx (de_var 1 (pv 1)) de_int)) (da_fCons (e2 (de_idx (de_var 1 (pv 1)) de_int)) (da_fCons (e2 (de_idx (de_var 4 (pv 4)) de_int)) (da_fCons (e2 (de_idx (de_var 4 (pv 4)) de_int)) (da_fCons (de_var 5 (pv 5)) da_fNil))))))) de_bl))
  (s_one (s_ret (ds_ret de_bl)))
  s_nil)))))
  (s_one (s_ret (ds_ret de_bl))))))))))

/-! drawn_right -/
def g_n_drawn_right : Sl → Nm Out := (nPar 2 3 (nCons (nCallN 0 n_small_book (nP fNil)) (nCons (nCallN 0 n_small_book (nP fNil)) (fun _ => nRet []))))
def h_n_drawn_right : Sl → Nm Out := (nSeq (nSet 1 (nCallN 0 n_table (nP (fCons (f2 opIdx (fVar 2) (fC (.int 0))) (fCons (f2 opIdx (fVar 3) (fC (.int 0))) fNil)))))
  (nP (gSeq (gIf (fT (f1 (fun x => some (.bool (isNon x))) (fVar 1)))
  (gRet (fC (.bool true)))
  gNext)
  (gSeq (gPar 4 5 (fCons (f2 opIdx (f2 opIdx (fVar 2) (fC (.int 1))) (fC (.int 0))) (fCons (fTup (fCons (f2 opIdx (f2 opIdx (fVar 3) (fC (.int 1))) (fC (.int 0))) (fCons (f2 opMul (fTup (fCons (fC (.int 0)) fNil)) (f2 opIdx (f2 opIdx (fVar 3) (fC (.int 0))) (f2 opIdx (f2 opIdx (fVar 3) (fC (.int 1))) (fC (.int 0))))) fNil))) fNil)))
  (gSeq (gIf (fNot (fT (fCall l_judged (fCons (fVar 2) (fCons (fVar 3) (fCons (fVar 1) fNil))))))
  (gRet (fC (.bool false)))
  gNext)
  (gRet (fCall l_judged (fCons (fVar 2) (fCons (fVar 3) (fCons (f2 opAdd (f2 opAdd (fSlice (fVar 1) none (some (fVar 4))) (fTup (fCons (fVar 5) fNil))) (fSlice (fVar 1) (some (f2 opAdd (fVar 4) (fC (.int 1)))) none)) fNil))))))))))
def b_n_drawn_right : Sl → Nm Out := (nSeq g_n_drawn_right h_n_drawn_right)
def r_n_drawn_right : List PyData → Nm PyData := runN 1 6 b_n_drawn_right
theorem sc_n_drawn_right : FnScope ["_law_state", "_law_table_so", "_law_near", "_law_far", "_law_unit", "_law_row"] ["_law_state"] (defScope (top 72)) := ⟨rfl, rfl, rfl, by decide +kernel, rfl, by decide +kernel, by decide +kernel⟩
theorem ok_n_drawn_right (T : Txt mg) (hF : Has K mg "_law_drawn_right" 72) (c_l_judged : Cal P w K mg base 10 "_law_judged" ["_law_near", "_law_far", "_law_table_so"] (spF 3 l_judged)) (c_n_small_book : Cal P w K mg base 5 "_law_small_book" ["_law_state"] (spN 1 n_small_book)) (c_n_table : Cal P w K mg base 4 "_law_table" ["_law_state", "_law_near_so", "_law_far_so"] (spN 3 n_table)) : Cal P w K mg base 11 "_law_drawn_right" ["_law_state"] (spN 1 r_n_drawn_right) :=
  calN_of (k := 10) (y := "_law_state") (N := ["_law_table_so", "_law_near", "_law_far", "_law_unit", "_law_row"]) hF sc_n_drawn_right rfl (fun _ _ _ _ _ _ us hl => match us, hl with | [_], _ => rfl) (body := b_n_drawn_right) fun f cd A outer s H F p c l L o =>
  (ns_cons (ns_par (ds_par 2 3 o.calm sc_n_drawn_right.nd rfl rfl (by decide) rfl rfl (na_cons (de_callN c_n_small_book o (by decide) len_n_small_book rfl (pv 0) (na_p da_fNil)) (na_cons (de_callN c_n_small_book o (by decide) len_n_small_book rfl (pv 0) (na_p da_fNil)) na_nil)) rfl))
  (ns_cons (ns_set (ds_set 1 sc_n_drawn_right.nd rfl (by first | exact Or.inl rfl | exact Or.inr rfl) (de_callN c_n_table o (by decide) len_n_table rfl (pv 0) (na_p (da_fCons (e2 (de_idx (de_var 2 (pv 2)) de_int)) (da_fCons (e2 (de_idx (de_var 3 (pv 3)) de_int)) da_fNil))))))
  (nss_p (s_cons (s_if (ds_if (t1 (dt_isN (de_var 1 (pv 1))))
  (s_one (s_ret (ds_ret de_bl)))
  s_nil))
  (s_cons (s_par (ds_par 4 5 o.calm sc_n_drawn_right.nd rfl rfl (by decide) rfl rfl (da_fCons (e2 (de_idx (e2 (de_idx (de_var 2 (pv 2)) de_int)) de_int)) (da_fCons (de_fTup (da_fCons (e2 (de_idx (e2 (de_idx (de_var 3 (pv 3)) de_int)) de_int)) (da_fCons (e2 (de_mul (de_fTup (da_fCons de_int da_fNil)) (e2 (de_idx (e2 (de_idx (de_var 3 (pv 3)) de_int)) (e2 (de_idx (e2 (de_idx (de_var 3 (pv 3)) de_int)) de_int)))))) da_fNil))) da_fNil)) rfl))
  (s_cons (s_if (ds_if (t_not (tv (ec (de_call c_l_judged o (by decide) runF_len rfl (da_fCons (de_var 2 (pv 2)) (da_fCons (de_var 3 (pv 3)) (da_fCons (de_var 1 (pv 1)) da_fNil)))))))
  (s_one (s_ret (ds_ret de_bl)))
  s_nil))
  (s_one (s_ret (ds_ret (ec (de_call c_l_judged o (by decide) runF_len rfl (da_fCons (de_var 2 (pv 2)) (da_fCons (de_var 3 (pv 3)) (da_fCons (e2 (de_add (e2 (de_add (de_fSlice01 (de_var 1 (pv 1)) (de_var 4 (pv 4))) (de_fTup (da_fCons (de_var 5 (pv 5)) da_fNil)))) (de_fSlice10 (de_var 1 (pv 1)) (e2 (de_add (de_var 4 (pv 4)) de_int))))) da_fNil))))))))))))))

end K50

set_option Elab.async false
set_option linter.all false
set_option maxRecDepth 100000
set_option maxHeartbeats 4000000
/-! the state is made -/
namespace K50
open PySem PySem.Spec PyProof.Rows L2
variable {P : Program} {w : World} {K : PySem.W.Frag} {mg : Str → Option Value} {base : Heap}
theorem lay_ints : ∀ ns : List Int, PyData.canLayAll0 (ns.map PyData.int) = true
  | [] => by simp [PyData.canLayAll0]
  | n :: ns => by simp [PyData.canLayAll0, PyData.canLay0, lay_ints ns]
theorem deep_ints : ∀ ns : List Int, PyData.depthAll (ns.map PyData.int) ≤ 1
  | [] => by simp [PyData.depthAll]
  | n :: ns => by
    have := deep_ints ns
    simp only [List.map_cons, PyData.depthAll, PyData.depth]
    omega
theorem shaped_ints (ns : List Int) : SeqAt.shaped (.list (ns.map PyData.int)) = true := by
  have h1 := lay_ints ns
  have h2 := deep_ints ns
  unfold SeqAt.shaped
  simp only [PyData.canLay0, PyData.depth, Bool.and_eq_true, decide_eq_true_eq]
  refine ⟨h1, ?_⟩
  refine decide_eq_true (?_ : PyData.depthAll (ns.map PyData.int) + 1 ≤ 64)
  omega
theorem dp_ints {H : Hp} : ∀ ns : List Int, DpAll K H (ns.map V.int) (ns.map PyData.int)
  | [] => .nil
  | n :: ns => .cons (.int n) (dp_ints ns)
theorem fz_ints {F : Hp} : ∀ ns : List Int, FzAll F (ns.map V.int) (ns.map PyData.int)
  | [] => .nil
  | n :: ns => .cons (.int n) (fz_ints ns)
theorem fz_ints_inv {F : Hp} : ∀ {vs : List V} (ns : List Int), FzAll F vs (ns.map PyData.int) → vs = ns.map V.int
  | _, [], h => by cases h; rfl
  | _, n :: ns, h => by
    cases h with
    | cons h1 h2 => rw [h1.int_inv, fz_ints_inv ns h2]; rfl
theorem eqv_nil : ∀ ns : List Int, ns ≠ [] → PyData.eqv (.list (ns.map PyData.int)) (.list []) = false
  | [], h => absurd rfl h
  | n :: ns, _ => by simp [PyData.eqv, PyData.eqvAll]
/-- a term that holds whatever the entry -/
theorem pe_any {X : Cx} {e : Expr} {t : Bs → TE} (h : ∀ B, PE X e (t B)) : PE X e (fun σ H Q => ∃ B, t B σ H Q) := ⟨fun pins s σ H Q I ⟨B, q⟩ => (h B).run pins s σ H Q I q⟩
def spBegin (K : PySem.W.Frag) : Sp := fun vs H Q _ => ∃ (a : Addr) (ns : List Int), vs = [.ref a] ∧ SqL K H a (ns.map V.int) ∧ ns.length ≤ 63 ∧
  ∀ H' p c l L, (∀ b o, H b = some o → H' b = some o) → LInv p c l L H' 0 → Q (.ref p) H'
abbrev fLeft : Sl → Option PyData := fIfE (fT (f2 opGe (fVar 2) (fC (.int 1000000000000000000)))) (fVar 2) (fC (.int 0))
theorem left_some : ∀ (ns : List Int) (ρw : Sl), ρw.length = 3 → ∃ ls : List Int, ls.length = ns.length ∧ lcF (.nm 2) fYes fLeft ρw (ns.map PyData.int) = some (ls.map PyData.int)
  | [], _, _ => ⟨[], rfl, rfl⟩
  | n :: ns, ρw, hl => by
    obtain ⟨ls, h1, h2⟩ := left_some ns ρw hl
    match ρw, hl with
    | [x, y, z], _ =>
      by_cases h : (1000000000000000000 : Int) ≤ n
      · refine ⟨n :: ls, by simp [h1], ?_⟩
        simp [lcF, bindP, fYes, fIfE, fT, f2, fVar, fC, opCmp, boolOf, h, h2]
      · refine ⟨0 :: ls, by simp [h1], ?_⟩
        simp [lcF, bindP, fYes, fIfE, fT, f2, fVar, fC, opCmp, boolOf, h, h2]
theorem sc_begin : FnScope ["_law_script", "_law_cells_so", "_law_cell"] ["_law_script"] (defScope (top 50)) := ⟨rfl, rfl, rfl, by decide +kernel, rfl, by decide +kernel, by decide +kernel⟩
theorem de_pow {X : Cx} {B : Bs} {i j j1 j2 : _} {p1 p2 p : Pos} (h : CPow i j) : DE X B (.BinOp (.Constant (.int i) j1 p1) .Pow (.Constant (.int j) j2 p2) p) (PD (fC (.int (i ^ j.toNat)))) := by
  refine ⟨pe_wk (pe_op op_pow pe_int pe_int) fun σ H Q ⟨F, ρ, n, R, d, e, q⟩ => ?_, pd_mono⟩
  cases e
  exact ⟨_, _, rfl, rfl, h, q F H _ (Stp.refl R.step.s) R.inv (.int _)⟩
theorem sq_up {H H' : Hp} {a : Addr} {xs : List V} (e : ∀ b o, H b = some o → H' b = some o) (h : SqL K H a xs) : SqL K H' a xs := by
  rcases h with (h | ⟨o, h⟩) | h
  · exact .inl (.inl (e _ _ h))
  · exact .inl (.inr ⟨o, e _ _ h⟩)
  · exact .inr h
theorem slot3 {d : PyData} {i : Nat} {e : EV} (h : ([none, some (EV.d d), none] : Sl)[i]? = some (some e)) : i = 1 ∧ e = .d d := by
  match i, h with
  | 0, h => cases h
  | 1, h => cases h; exact ⟨rfl, rfl⟩
  | 2, h => cases h
  | i + 3, h => cases h
def tNew (K : PySem.W.Frag) : TE := fun σ H Q => ∃ (a : Addr) (ns : List Int), σ[0]? = some (some (.ref a)) ∧ SqL K H a (ns.map V.int) ∧ ns.length ≤ 63 ∧
  ∀ (H1 : Hp) (l : Addr) (cs : List Int), (∀ b o, H b = some o → H1 b = some o) → H1 l = none → 0 < cs.length → cs.length ≤ 63 → Q (.ref l) (upd H1 l (.lst (cs.map V.int)))
theorem pe_new {X : Cx} {e : Expr} (h : PE X e (tIf (tTest (tOp (rNeD X.K) (tVar 0) (tLst tNil))) (tCB (fun xs H Q => ∃ p ys, xs = [.ref p] ∧ (SqL X.K H p ys ∨ SqT X.K H p ys) ∧ ∀ l, H l = none → Q (.ref l) (upd H l (.lst ys))) (tCons (tVar 0) tNil)) (tLst (tCons (tC (.int 0)) tNil)))) : PE X e (tNew X.K) :=
  pe_wk h fun σ H Q ⟨a, ns, h0, hs, hn, q⟩ => by
    refine ⟨.ref a, h0, Nat.zero_le _, fun p0 hp => ⟨.list (ns.map PyData.int), .list [], .lst (sq_up (fun b o e => by rw [upd_ne (ne_of_none e hp)]; exact e) hs) (dp_ints ns), .lst (SqL.of upd_same) .nil, shaped_ints ns, shaped_ints [], _, rfl, ?_⟩⟩
    have up : ∀ b o, H b = some o → upd H p0 (.lst []) b = some o := fun b o e => by rw [upd_ne (ne_of_none e hp)]; exact e
    by_cases hnil : ns = []
    · subst hnil
      dsimp only
      rw [if_neg (by decide)]
      exact ⟨by decide, fun l hl => q (upd H p0 (.lst [])) l [0] up hl (by decide) (by decide)⟩
    · dsimp only
      rw [if_pos (by rw [eqv_nil ns hnil]; rfl)]
      exact ⟨.ref a, h0, a, ns.map V.int, rfl, .inl (sq_up up hs), fun l hl => q (upd H p0 (.lst [])) l ns up hl (List.length_pos_iff.mpr hnil) hn⟩
theorem begin_ok (T : Txt mg) (hF : Has K mg "_law_begin" 50) : Cal P w K mg base 1 "_law_begin" ["_law_script"] (spBegin K) := by
  obtain ⟨f, fd, F, hm⟩ := hF
  refine ⟨f, fd, fnG_of (k := 0) F sc_begin (fun vs H Q E h => ?_) (fun cd A outer s H vs Q hr hg h => ?_), hm, F.kp, FunD.bindsN F fun _ _ _ _ _ _ us hl => match us, hl with | [_], _ => rfl⟩
  · obtain ⟨a, ns, rfl, _⟩ := h
    rfl
  · obtain ⟨a, ns, rfl, hs, hn, q⟩ := h
    have o : Rm (cxK P w K mg base ["_law_script", "_law_cells_so", "_law_cell"] "_law_begin" (defScope (top 50)) f cd A outer s H).nox 0 := ⟨rfl, hr, hg⟩
    refine ⟨_, pss_cons (ps_set (i := 1) sc_begin.nd rfl (by first | exact Or.inl rfl | exact Or.inr rfl) (pe_new (pe_ifExp (pt_cmpR (op_neD o.u64) (pv 0) (pe_lst pa_nil) (nomark _)) (pe_callTy call_list_of rfl T.list (by decide +kernel) (pa_cons (pv 0) pa_nil) (by decide) (by decide) rfl rfl) (pe_lst (pa_cons pe_int pa_nil)))))
      (pss_one (ps_ret (pe_disp (pps_cons pe_str (pv 1) (pps_cons pe_str (pe_any (fun B => pe_compN (X := (cxK P w K mg base ["_law_script", "_law_cells_so", "_law_cell"] "_law_begin" (defScope (top 50)) f cd A outer s H).nox) (B := B) (.nm 2) [("_law_cell", 2)] o.calm sc_begin.nd (di_seq (de_var 1 (pv 1))) (blkOk_by (N := ["_law_script", "_law_cells_so", "_law_cell"]) (sc := defScope (top 50)) (by decide +kernel)) (fun _ _ _ _ _ => pg_name (i := 2) sc_begin.nd rfl (by first | exact Or.inl rfl | exact Or.inr rfl)) (fun _ _ _ _ _ => ts_nil) (fun _ _ _ _ _ => v_if (t2 (dt_ge (de_var 2 (pv 2)) (de_pow (i := 10) (j := 18) ⟨by decide, by decide, by decide⟩))) (de_var 2 (pv 2)) de_int) (by decide)))
        (pps_cons pe_str pe_int pps_nil))) rfl rfl (by simp) (by decide)))), ?_⟩
    refine ⟨a, ns, rfl, hs, hn, fun H1 l cs up hl hc hc2 p hp => ?_⟩
    have hne : l ≠ p := fun e => by rw [e, upd_same] at hp; cases hp
    have h1 : upd (upd H1 l (.lst (cs.map V.int))) p (.dK []) l = some (.lst (cs.map V.int)) := by rw [upd_ne hne]; exact upd_same
    have hsz : (cs.map V.int).length ≤ sizeLine := by rw [List.length_map, sizeLine_eq]; omega
    have sF : Same (upd (fun _ => none) l (.lst (cs.map V.int))) (upd (upd H1 l (.lst (cs.map V.int))) p (.dK [])) := fun b u e => by
      by_cases qq : b = l
      · rw [qq] at e ⊢; rw [upd_same] at e; cases e; exact h1
      · rw [upd_ne qq] at e; cases e
    have Fl : Fz (upd (fun _ => none) l (.lst (cs.map V.int))) (.ref l) (.list (cs.map PyData.int)) := .lst upd_same hsz (fz_ints cs)
    have R : Rp ⟨S0, upd (fun _ => none) l (.lst (cs.map V.int)), upd (upd H1 l (.lst (cs.map V.int))) p (.dK [])⟩ (upd (fun _ => none) l (.lst (cs.map V.int))) (upd (upd H1 l (.lst (cs.map V.int))) p (.dK [])) [some (.ref a), some (.ref l), none] [none, some (.d (.list (cs.map PyData.int))), none] 0 :=
      { len := rfl, step := Stp.refl sF, slot := fun i e h => (slot3 h).elim fun e1 e2 => ⟨.ref l, by rw [e1]; rfl, by rw [e2]; exact Fl⟩, sep := fun i j xs ys x h1 _ _ _ => (slot3 h1).elim fun _ e2 => by cases e2
        stf := fun b hb => absurd (show b ∈ ([] : List Addr) from hb) (by simp), inv := trivial }
    obtain ⟨ls, hl1, hl2⟩ := left_some cs [none, some (.d (.list (cs.map PyData.int))), none] rfl
    refine ⟨.ref l, rfl, _, _, _, 0, R, cs.map PyData.int, rfl, lcF_loop _ [] (ls.map PyData.int) 0 _ hl2 fun F' H' v st iv hv ⟨D, e1, e2⟩ => ?_⟩
    subst e1
    obtain ⟨b, vs, e3, hD, hz, hf⟩ := hv.lst_inv
    cases e3
    rw [List.nil_append] at hf
    have ev := fz_ints_inv ls hf
    subst ev
    have k1 := st.k p _ (by simp [S0]) upd_same
    have k2 := st.k l _ (by simp [S0]) h1
    refine ⟨k1, [(.inr ("cells" : Str), .ref l), (.inr ("lefts" : Str), .ref D), (.inr ("at" : Str), .int 0)], rfl, by simp, ?_⟩
    have kD := st.s _ _ hD
    have nDp : D ≠ p := fun e => by rw [e, upd_same] at e2; cases e2
    have nlD : l ≠ D := fun e => by rw [← e, h1] at e2; cases e2
    refine q _ p l D cs.length (fun b o e => ?_) ⟨cs, ls, ?_, ?_, ?_, rfl, hl1, hc, by omega, nlD⟩
    · have e4 := up b o e
      have e5 : b ≠ l := ne_of_none e4 hl
      have e6 : b ≠ p := fun e7 => by
        rw [e7] at e4
        rw [upd_ne (Ne.symm hne), e4] at hp
        cases hp
      rw [upd_ne e6]
      exact st.k b o (by simp [S0]) (by rw [upd_ne e6, upd_ne e5]; exact e4)
    · rw [upd_same]
      rfl
    · rw [upd_ne hne]; exact k2
    · rw [upd_ne nDp]; exact kD
end K50

set_option Elab.async false
set_option linter.all false
set_option maxRecDepth 100000
set_option maxHeartbeats 4000000
/-! the law -/
namespace K50
open PySem PySem.Spec PyProof.Rows L2
variable {P : Program} {w : World} {K : PySem.W.Frag} {mg : Str → Option Value} {base : Heap}
theorem ec0 {X : Cx} {B : Bs} {e : Expr} {f : List PyData → Option PyData} (h : DE X B e (dC f dNil)) : DE X B e (PD (fCall f fNil)) := h.imp (fun ρ n Q ⟨d, e, q⟩ => ⟨d, e, q⟩) pd_mono
def LB (B' : Addr × Addr × Addr × Nat × Hp × Hp) : Bs := ⟨LawS B'.1 B'.2.1 B'.2.2.1 B'.2.2.2.1, B'.2.2.2.2.1, B'.2.2.2.2.2⟩
theorem pss_any {X : Cx} {st : List Stmt} {α : Type} {t : α → TS} (h : ∀ B, PSs X st (t B)) : PSs X st (fun D σ H => ∃ B, t B D σ H) := ⟨fun pins s σ H D I ⟨B, q⟩ => (h B).run pins s σ H D I q⟩
def spLaw (K : PySem.W.Frag) : Sp := fun vs H Q _ => ∃ (a : Addr) (ns : List Int), vs = [.ref a] ∧ SqL K H a (ns.map V.int) ∧ ns.length ≤ 63 ∧ ∀ H', Q (.bl true) H'
def isTrueO : Out → Bool
  | .rt (.bool true) => true
  | _ => false
def chkG (x : Nm Out) : Bool := match x with
  | some y => decide (y.1 ≤ 1000000) && y.2.all isTrueO
  | none => false
theorem chkG_nd {x : Nm Out} (q : chkG x = true) (E : DEnds) (h : ∀ m, E.rt (.bool true) m) : Nd x 0 (nEnd E) := by
  unfold chkG at q
  split at q
  · next y =>
    simp only [Bool.and_eq_true, decide_eq_true_eq, List.all_eq_true] at q
    refine ⟨y, rfl, by omega, fun a ha m _ _ => ?_⟩
    have := q.2 a ha
    unfold isTrueO at this
    split at this
    · exact h m
    · cases this
  · cases q
def cT : List PyData → Option PyData
  | [] => some (.bool true)
  | _ => none
theorem cT_len (ds : List PyData) (z : PyData) (h : cT ds = some z) : ds.length = 0 := by
  unfold cT at h
  split at h
  · rfl
  · cases h
def g_law : Sl → Nm Out := nSeq (nFor (.nm 2) (fRange (fC (.int 2))) (nIf (nOr (nNot (nBool (nCallN 1 (cN 16 [.bool true]) (nP fNil)))) (nNot (nBool (nCallN 1 (cN 13 [.bool true]) (nP fNil))))) (nP (gRet (fC (.bool false)))) nNext))
  (nSeq (nFor (.nm 2) (fRange (fC (.int 3))) (nIf (nNot (nBool (nCallN 1 (cN 18 [.bool true]) (nP fNil)))) (nP (gRet (fC (.bool false)))) nNext)) (nP (gRet (fCall cT fNil))))
theorem g_law_ok : chkG (g_law [none, some .st, none]) = true := by decide +kernel
theorem slot3s {i : Nat} {e : EV} (h : ([none, some .st, none] : Sl)[i]? = some (some e)) : i = 1 ∧ e = .st := by
  match i, h with
  | 0, h => cases h
  | 1, h => cases h; exact ⟨rfl, rfl⟩
  | 2, h => cases h
  | i + 3, h => cases h
theorem sc_law : FnScope ["_law_script", "_law_state", "_law_turn"] ["_law_script"] (defScope (top 74)) := ⟨rfl, rfl, rfl, by decide +kernel, rfl, by decide +kernel, by decide +kernel⟩
theorem law_ok {f : Addr} {fd : FuncData} (T : Txt mg) (F : FunD K "law" "law" (defArgs (top 74)) (defBody (top 74)) (defScope (top 74)) [] [] f fd) (c_begin : Cal P w K mg base 1 "_law_begin" ["_law_script"] (spBegin K))
    (c_pr : Cal P w K mg base 11 "_law_product_right" ["_law_state"] (spN 1 (cN 16 [.bool true]))) (c_wr : Cal P w K mg base 10 "_law_wide_right" ["_law_state"] (spN 1 (cN 13 [.bool true]))) (c_dr : Cal P w K mg base 11 "_law_drawn_right" ["_law_state"] (spN 1 (cN 18 [.bool true])))
    (c_bh : Cal P w K mg base 10 "_law_by_hand" [] (spF 0 cT)) : FnG P w K mg base 12 f fd ["_law_script"] (spLaw K) := by
  refine fnG_of (k := 11) F sc_law (fun vs H Q E h => ?_) (fun cd A outer s H vs Q hr hg h => ?_)
  · obtain ⟨a, ns, rfl, _⟩ := h
    rfl
  · obtain ⟨a, ns, rfl, hs, hn, q⟩ := h
    have o : Rm (cxK P w K mg base ["_law_script", "_law_state", "_law_turn"] "law" (defScope (top 74)) f cd A outer s H).nox 11 := ⟨rfl, hr, hg⟩
    obtain ⟨fb, fdb, Fb, hmb, hkb, hbb⟩ := c_begin
    refine ⟨_, pss_cons (ps_set (i := 1) sc_law.nd rfl (by first | exact Or.inl rfl | exact Or.inr rfl) (pe_callG Fb (o.room.mono (by decide)) o.gd rfl hmb hkb hbb (pa_cons (pv 0) pa_nil)))
      (pss_any (fun B' => (ns_cons (ns_for (ds_for (.nm 2) PassesOwn.never o.calm (di_range rfl T.range de_int) (pg_name (i := 2) sc_law.nd rfl (by first | exact Or.inl rfl | exact Or.inr rfl))
          (ns_one (ns_if (ds_if (DW.dt (nw_or (nt_not (ntv (de_callN c_pr o (by decide) len_cN rfl (pv 1) (na_p da_fNil)))) (nw_or1 (nt_not (ntv (de_callN c_wr o (by decide) len_cN rfl (pv 1) (na_p da_fNil))))))) (nss_p (s_one (s_ret (ds_ret de_bl)))) ns_nil)))))
        (ns_cons (ns_for (ds_for (.nm 2) PassesOwn.never o.calm (di_range rfl T.range de_int) (pg_name (i := 2) sc_law.nd rfl (by first | exact Or.inl rfl | exact Or.inr rfl))
          (ns_one (ns_if (ds_if (nt_not (ntv (de_callN c_dr o (by decide) len_cN rfl (pv 1) (na_p da_fNil)))) (nss_p (s_one (s_ret (ds_ret de_bl)))) ns_nil)))))
        (nss_p (s_one (s_ret (ds_ret (ec0 (de_call0 c_bh o (by decide) cT_len rfl)))))))  : DSs _ (LB B') _ (NSD g_law)).ps)), ?_⟩
    refine ⟨.ref a, rfl, a, ns, rfl, hs, hn, fun H' p c l L up iv => ⟨(p, c, l, L, fun _ => none, H'), ⟨fun _ _ => False, fun d _ => d = .bool true⟩, fun _ => none, [none, some .st, none], 0, ?_, ⟨fun F1 H1 σ ρ m s1 R1 e => e.elim, fun F1 H1 v d m st iv1 hv e => ?_⟩, chkG_nd g_law_ok _ fun m => rfl⟩⟩
    · exact { len := rfl, step := Stp.refl fun b u e => by cases e
              slot := fun i e h => (slot3s h).elim fun e1 e2 => ⟨.ref p, by rw [e1]; rfl, by rw [e2]; rfl⟩
              sep := fun i j xs ys x h1 _ _ _ => (slot3s h1).elim fun _ e2 => by cases e2
              stf := fun b _ => rfl, inv := iv }
    · subst e
      cases hv
      exact q H1
end K50

set_option Elab.async false
set_option linter.all false
set_option maxRecDepth 100000
set_option maxHeartbeats 4000000
namespace K50
open PySem PySem.Spec PyProof.Rows L2

theorem bk_ok0 : chkB bk0 = true := by decide +kernel
theorem bk_ok1 : chkB bk1 = true := by decide +kernel
theorem bk_ok2 : chkB bk2 = true := by decide +kernel
theorem bk_ok3 : chkB bk3 = true := by decide +kernel
theorem bk_ok4 : chkB bk4 = true := by decide +kernel
theorem bk_ok5 : chkB bk5 = true := by decide +kernel
theorem bk_ok6 : chkB bk6 = true := by decide +kernel
theorem bk_ok7 : chkB bk7 = true := by decide +kernel
theorem bk_ok8 : chkB bk8 = true := by decide +kernel
theorem bk_ok9 : chkB bk9 = true := by decide +kernel
theorem bk_ok10 : chkB bk10 = true := by decide +kernel
theorem bk_ok11 : chkB bk11 = true := by decide +kernel
theorem bk_ok12 : chkB bk12 = true := by decide +kernel
theorem bk_ok13 : chkB bk13 = true := by decide +kernel
theorem bk_ok14 : chkB bk14 = true := by decide +kernel
theorem bk_ok15 : chkB bk15 = true := by decide +kernel
theorem bk_ok16 : chkB bk16 = true := by decide +kernel
theorem bk_ok17 : chkB bk17 = true := by decide +kernel
theorem bk_ok18 : chkB bk18 = true := by decide +kernel
theorem bk_ok19 : chkB bk19 = true := by decide +kernel
theorem bk_ok20 : chkB bk20 = true := by decide +kernel
theorem bk_ok21 : chkB bk21 = true := by decide +kernel
theorem bk_ok22 : chkB bk22 = true := by decide +kernel
theorem bk_ok23 : chkB bk23 = true := by decide +kernel
theorem bk_ok24 : chkB bk24 = true := by decide +kernel
theorem bk_ok25 : chkB bk25 = true := by decide +kernel
theorem bk_ok26 : chkB bk26 = true := by decide +kernel
theorem bk_ok27 : chkB bk27 = true := by decide +kernel
theorem bk_ok28 : chkB bk28 = true := by decide +kernel
theorem books_ok : ∀ b ∈ bookT, chkB b = true := List.forall_mem_cons.mpr ⟨bk_ok0, List.forall_mem_cons.mpr ⟨bk_ok1, List.forall_mem_cons.mpr ⟨bk_ok2, List.forall_mem_cons.mpr ⟨bk_ok3, List.forall_mem_cons.mpr ⟨bk_ok4, List.forall_mem_cons.mpr ⟨bk_ok5, List.forall_mem_cons.mpr ⟨bk_ok6, List.forall_mem_cons.mpr ⟨bk_ok7, List.forall_mem_cons.mpr ⟨bk_ok8, List.forall_mem_cons.mpr ⟨bk_ok9, List.forall_mem_cons.mpr ⟨bk_ok10, List.forall_mem_cons.mpr ⟨bk_ok11, List.forall_mem_cons.mpr ⟨bk_ok12, List.forall_mem_cons.mpr ⟨bk_ok13, List.forall_mem_cons.mpr ⟨bk_ok14, List.forall_mem_cons.mpr ⟨bk_ok15, List.forall_mem_cons.mpr ⟨bk_ok16, List.forall_mem_cons.mpr ⟨bk_ok17, List.forall_mem_cons.mpr ⟨bk_ok18, List.forall_mem_cons.mpr ⟨bk_ok19, List.forall_mem_cons.mpr ⟨bk_ok20, List.forall_mem_cons.mpr ⟨bk_ok21, List.forall_mem_cons.mpr ⟨bk_ok22, List.forall_mem_cons.mpr ⟨bk_ok23, List.forall_mem_cons.mpr ⟨bk_ok24, List.forall_mem_cons.mpr ⟨bk_ok25, List.forall_mem_cons.mpr ⟨bk_ok26, List.forall_mem_cons.mpr ⟨bk_ok27, List.forall_mem_cons.mpr ⟨bk_ok28, List.forall_mem_nil _⟩⟩⟩⟩⟩⟩⟩⟩⟩⟩⟩⟩⟩⟩⟩⟩⟩⟩⟩⟩⟩⟩⟩⟩⟩⟩⟩⟩⟩
end K50

set_option Elab.async false
set_option linter.all false
set_option maxRecDepth 100000
set_option maxHeartbeats 4000000
namespace K50
open PySem PySem.Spec PyProof.Rows L2

theorem hand_ok : (match l_by_hand [] with
  | some (.bool true) => true
  | _ => false) = true := by decide +kernel
theorem hand_cT (ds : List PyData) (z : PyData) (h : cT ds = some z) : l_by_hand ds = some z := by
  unfold cT at h
  split at h
  · cases h
    have q := hand_ok
    split at q
    · assumption
    · cases q
  · cases h
end K50

set_option Elab.async false
set_option linter.all false
set_option maxRecDepth 100000
set_option maxHeartbeats 4000000
namespace K50
open PySem PySem.Spec PyProof.Rows L2

def sl_pr (a : PyData) : Sl := match bindP (.pr 6 7) a (iniN 16 []) with
  | some ρ => ρ
  | none => []
theorem pr_ok0 : chkO (h_n_product_right (sl_pr pair_0)) 8 = true := by decide +kernel
theorem pr_ok1 : chkO (h_n_product_right (sl_pr pair_1)) 8 = true := by decide +kernel
theorem pr_ok2 : chkO (h_n_product_right (sl_pr pair_2)) 8 = true := by decide +kernel
theorem pr_ok3 : chkO (h_n_product_right (sl_pr pair_3)) 8 = true := by decide +kernel
theorem pr_ok4 : chkO (h_n_product_right (sl_pr pair_4)) 8 = true := by decide +kernel
theorem pr_ok5 : chkO (h_n_product_right (sl_pr pair_5)) 8 = true := by decide +kernel
theorem pr_ok6 : chkO (h_n_product_right (sl_pr pair_6)) 8 = true := by decide +kernel
theorem pr_ok7 : chkO (h_n_product_right (sl_pr pair_7)) 8 = true := by decide +kernel
theorem pr_ok8 : chkO (h_n_product_right (sl_pr pair_8)) 8 = true := by decide +kernel
theorem pr_ok9 : chkO (h_n_product_right (sl_pr pair_9)) 8 = true := by decide +kernel
theorem pr_ok10 : chkO (h_n_product_right (sl_pr pair_10)) 8 = true := by decide +kernel
theorem pr_ok11 : chkO (h_n_product_right (sl_pr pair_11)) 8 = true := by decide +kernel
theorem pr_ok12 : chkO (h_n_product_right (sl_pr pair_12)) 8 = true := by decide +kernel
theorem pr_ok13 : chkO (h_n_product_right (sl_pr pair_13)) 8 = true := by decide +kernel
theorem pr_ok14 : chkO (h_n_product_right (sl_pr pair_14)) 8 = true := by decide +kernel
theorem pr_ok15 : chkO (h_n_product_right (sl_pr pair_15)) 8 = true := by decide +kernel
theorem pr_ok16 : chkO (h_n_product_right (sl_pr pair_16)) 8 = true := by decide +kernel
theorem pr_ok17 : chkO (h_n_product_right (sl_pr pair_17)) 8 = true := by decide +kernel
theorem pr_ok18 : chkO (h_n_product_right (sl_pr pair_18)) 8 = true := by decide +kernel
theorem pr_ok19 : chkO (h_n_product_right (sl_pr pair_19)) 8 = true := by decide +kernel
theorem pr_ok20 : chkO (h_n_product_right (sl_pr pair_20)) 8 = true := by decide +kernel
theorem pr_ok21 : chkO (h_n_product_right (sl_pr pair_21)) 8 = true := by decide +kernel
theorem pr_ok22 : chkO (h_n_product_right (sl_pr pair_22)) 8 = true := by decide +kernel
theorem pr_ok23 : chkO (h_n_product_right (sl_pr pair_23)) 8 = true := by decide +kernel
theorem pr_ok24 : chkO (h_n_product_right (sl_pr pair_24)) 8 = true := by decide +kernel
theorem pr_ok25 : chkO (h_n_product_right (sl_pr pair_25)) 8 = true := by decide +kernel
theorem pr_ok26 : chkO (h_n_product_right (sl_pr pair_26)) 8 = true := by decide +kernel
theorem pr_ok27 : chkO (h_n_product_right (sl_pr pair_27)) 8 = true := by decide +kernel
theorem pr_ok28 : chkO (h_n_product_right (sl_pr pair_28)) 8 = true := by decide +kernel
theorem pr_ok29 : chkO (h_n_product_right (sl_pr pair_29)) 8 = true := by decide +kernel
theorem pr_ok30 : chkO (h_n_product_right (sl_pr pair_30)) 8 = true := by decide +kernel
theorem pr_all : ∀ a ∈ pairL, chkO (h_n_product_right (sl_pr a)) 8 = true := List.forall_mem_cons.mpr ⟨pr_ok0, List.forall_mem_cons.mpr ⟨pr_ok1, List.forall_mem_cons.mpr ⟨pr_ok2, List.forall_mem_cons.mpr ⟨pr_ok3, List.forall_mem_cons.mpr ⟨pr_ok4, List.forall_mem_cons.mpr ⟨pr_ok5, List.forall_mem_cons.mpr ⟨pr_ok6, List.forall_mem_cons.mpr ⟨pr_ok7, List.forall_mem_cons.mpr ⟨pr_ok8, List.forall_mem_cons.mpr ⟨pr_ok9, List.forall_mem_cons.mpr ⟨pr_ok10, List.forall_mem_cons.mpr ⟨pr_ok11, List.forall_mem_cons.mpr ⟨pr_ok12, List.forall_mem_cons.mpr ⟨pr_ok13, List.forall_mem_cons.mpr ⟨pr_ok14, List.forall_mem_cons.mpr ⟨pr_ok15, List.forall_mem_cons.mpr ⟨pr_ok16, List.forall_mem_cons.mpr ⟨pr_ok17, List.forall_mem_cons.mpr ⟨pr_ok18, List.forall_mem_cons.mpr ⟨pr_ok19, List.forall_mem_cons.mpr ⟨pr_ok20, List.forall_mem_cons.mpr ⟨pr_ok21, List.forall_mem_cons.mpr ⟨pr_ok22, List.forall_mem_cons.mpr ⟨pr_ok23, List.forall_mem_cons.mpr ⟨pr_ok24, List.forall_mem_cons.mpr ⟨pr_ok25, List.forall_mem_cons.mpr ⟨pr_ok26, List.forall_mem_cons.mpr ⟨pr_ok27, List.forall_mem_cons.mpr ⟨pr_ok28, List.forall_mem_cons.mpr ⟨pr_ok29, List.forall_mem_cons.mpr ⟨pr_ok30, List.forall_mem_nil _⟩⟩⟩⟩⟩⟩⟩⟩⟩⟩⟩⟩⟩⟩⟩⟩⟩⟩⟩⟩⟩⟩⟩⟩⟩⟩⟩⟩⟩⟩⟩
theorem pr_g : g_n_product_right (iniN 16 []) = some (8, pairL.map fun a => .nx (sl_pr a)) := by kernel_rfl
theorem pr_sub : subN (r_n_product_right []) 16 [.bool true] = true := sub_tr (h := h_n_product_right) (c2 := 8) pr_g fun o ho => by
  obtain ⟨a, ha, rfl⟩ := List.mem_map.mp ho
  exact ⟨_, rfl, pr_all a ha⟩
end K50

set_option Elab.async false
set_option linter.all false
set_option maxRecDepth 100000
set_option maxHeartbeats 4000000
namespace K50
open PySem PySem.Spec PyProof.Rows L2

def sl_wr (a : PyData) : Sl := match bindP (.pr 2 3) a (iniN 6 []) with
  | some ρ => ρ
  | none => []
theorem wr_ok0 : chkO (h_n_wide_right (sl_wr wide_pair_0)) 0 = true := by decide +kernel
theorem wr_ok1 : chkO (h_n_wide_right (sl_wr wide_pair_1)) 0 = true := by decide +kernel
theorem wr_ok2 : chkO (h_n_wide_right (sl_wr wide_pair_2)) 0 = true := by decide +kernel
theorem wr_ok3 : chkO (h_n_wide_right (sl_wr wide_pair_3)) 0 = true := by decide +kernel
theorem wr_ok4 : chkO (h_n_wide_right (sl_wr wide_pair_4)) 0 = true := by decide +kernel
theorem wr_ok5 : chkO (h_n_wide_right (sl_wr wide_pair_5)) 0 = true := by decide +kernel
theorem wr_ok6 : chkO (h_n_wide_right (sl_wr wide_pair_6)) 0 = true := by decide +kernel
theorem wr_ok7 : chkO (h_n_wide_right (sl_wr wide_pair_7)) 0 = true := by decide +kernel
theorem wr_ok8 : chkO (h_n_wide_right (sl_wr wide_pair_8)) 0 = true := by decide +kernel
theorem wr_ok9 : chkO (h_n_wide_right (sl_wr wide_pair_9)) 0 = true := by decide +kernel
theorem wr_ok10 : chkO (h_n_wide_right (sl_wr wide_pair_10)) 0 = true := by decide +kernel
theorem wr_ok11 : chkO (h_n_wide_right (sl_wr wide_pair_11)) 0 = true := by decide +kernel
theorem wr_ok12 : chkO (h_n_wide_right (sl_wr wide_pair_12)) 0 = true := by decide +kernel
theorem wr_ok13 : chkO (h_n_wide_right (sl_wr wide_pair_13)) 0 = true := by decide +kernel
theorem wr_ok14 : chkO (h_n_wide_right (sl_wr wide_pair_14)) 0 = true := by decide +kernel
theorem wr_ok15 : chkO (h_n_wide_right (sl_wr wide_pair_15)) 0 = true := by decide +kernel
theorem wr_ok16 : chkO (h_n_wide_right (sl_wr wide_pair_16)) 0 = true := by decide +kernel
theorem wr_ok17 : chkO (h_n_wide_right (sl_wr wide_pair_17)) 0 = true := by decide +kernel
theorem wr_ok18 : chkO (h_n_wide_right (sl_wr wide_pair_18)) 0 = true := by decide +kernel
theorem wr_ok19 : chkO (h_n_wide_right (sl_wr wide_pair_19)) 0 = true := by decide +kernel
theorem wr_ok20 : chkO (h_n_wide_right (sl_wr wide_pair_20)) 0 = true := by decide +kernel
theorem wr_ok21 : chkO (h_n_wide_right (sl_wr wide_pair_21)) 0 = true := by decide +kernel
theorem wr_ok22 : chkO (h_n_wide_right (sl_wr wide_pair_22)) 0 = true := by decide +kernel
theorem wr_ok23 : chkO (h_n_wide_right (sl_wr wide_pair_23)) 0 = true := by decide +kernel
theorem wr_ok24 : chkO (h_n_wide_right (sl_wr wide_pair_24)) 0 = true := by decide +kernel
theorem wr_ok25 : chkO (h_n_wide_right (sl_wr wide_pair_25)) 0 = true := by decide +kernel
theorem wr_ok26 : chkO (h_n_wide_right (sl_wr wide_pair_26)) 0 = true := by decide +kernel
theorem wr_ok27 : chkO (h_n_wide_right (sl_wr wide_pair_27)) 0 = true := by decide +kernel
theorem wr_ok28 : chkO (h_n_wide_right (sl_wr wide_pair_28)) 0 = true := by decide +kernel
theorem wr_ok29 : chkO (h_n_wide_right (sl_wr wide_pair_29)) 0 = true := by decide +kernel
theorem wr_ok30 : chkO (h_n_wide_right (sl_wr wide_pair_30)) 0 = true := by decide +kernel
theorem wr_ok31 : chkO (h_n_wide_right (sl_wr wide_pair_31)) 0 = true := by decide +kernel
theorem wr_ok32 : chkO (h_n_wide_right (sl_wr wide_pair_32)) 0 = true := by decide +kernel
theorem wr_ok33 : chkO (h_n_wide_right (sl_wr wide_pair_33)) 0 = true := by decide +kernel
theorem wr_ok34 : chkO (h_n_wide_right (sl_wr wide_pair_34)) 0 = true := by decide +kernel
theorem wr_ok35 : chkO (h_n_wide_right (sl_wr wide_pair_35)) 0 = true := by decide +kernel
theorem wr_all : ∀ a ∈ wide_pairL, chkO (h_n_wide_right (sl_wr a)) 0 = true := List.forall_mem_cons.mpr ⟨wr_ok0, List.forall_mem_cons.mpr ⟨wr_ok1, List.forall_mem_cons.mpr ⟨wr_ok2, List.forall_mem_cons.mpr ⟨wr_ok3, List.forall_mem_cons.mpr ⟨wr_ok4, List.forall_mem_cons.mpr ⟨wr_ok5, List.forall_mem_cons.mpr ⟨wr_ok6, List.forall_mem_cons.mpr ⟨wr_ok7, List.forall_mem_cons.mpr ⟨wr_ok8, List.forall_mem_cons.mpr ⟨wr_ok9, List.forall_mem_cons.mpr ⟨wr_ok10, List.forall_mem_cons.mpr ⟨wr_ok11, List.forall_mem_cons.mpr ⟨wr_ok12, List.forall_mem_cons.mpr ⟨wr_ok13, List.forall_mem_cons.mpr ⟨wr_ok14, List.forall_mem_cons.mpr ⟨wr_ok15, List.forall_mem_cons.mpr ⟨wr_ok16, List.forall_mem_cons.mpr ⟨wr_ok17, List.forall_mem_cons.mpr ⟨wr_ok18, List.forall_mem_cons.mpr ⟨wr_ok19, List.forall_mem_cons.mpr ⟨wr_ok20, List.forall_mem_cons.mpr ⟨wr_ok21, List.forall_mem_cons.mpr ⟨wr_ok22, List.forall_mem_cons.mpr ⟨wr_ok23, List.forall_mem_cons.mpr ⟨wr_ok24, List.forall_mem_cons.mpr ⟨wr_ok25, List.forall_mem_cons.mpr ⟨wr_ok26, List.forall_mem_cons.mpr ⟨wr_ok27, List.forall_mem_cons.mpr ⟨wr_ok28, List.forall_mem_cons.mpr ⟨wr_ok29, List.forall_mem_cons.mpr ⟨wr_ok30, List.forall_mem_cons.mpr ⟨wr_ok31, List.forall_mem_cons.mpr ⟨wr_ok32, List.forall_mem_cons.mpr ⟨wr_ok33, List.forall_mem_cons.mpr ⟨wr_ok34, List.forall_mem_cons.mpr ⟨wr_ok35, List.forall_mem_nil _⟩⟩⟩⟩⟩⟩⟩⟩⟩⟩⟩⟩⟩⟩⟩⟩⟩⟩⟩⟩⟩⟩⟩⟩⟩⟩⟩⟩⟩⟩⟩⟩⟩⟩⟩⟩
theorem wr_g : g_n_wide_right (iniN 6 []) = some (13, wide_pairL.map fun a => .nx (sl_wr a)) := by kernel_rfl
theorem wr_sub : subN (r_n_wide_right []) 13 [.bool true] = true := sub_tr (h := h_n_wide_right) (c2 := 0) wr_g fun o ho => by
  obtain ⟨a, ha, rfl⟩ := List.mem_map.mp ho
  exact ⟨_, rfl, wr_all a ha⟩
end K50

set_option Elab.async false
set_option linter.all false
set_option maxRecDepth 100000
set_option maxHeartbeats 4000000
namespace K50
open PySem PySem.Spec PyProof.Rows L2

def sl_dr (a b : PyData) : Sl := ((iniN 6 []).set 2 (some (.d a))).set 3 (some (.d b))
theorem dr_ok0_0 : chkO (h_n_drawn_right (sl_dr small_0 small_0)) 6 = true := by decide +kernel
theorem dr_ok0_1 : chkO (h_n_drawn_right (sl_dr small_0 small_1)) 6 = true := by decide +kernel
theorem dr_ok0_2 : chkO (h_n_drawn_right (sl_dr small_0 small_2)) 6 = true := by decide +kernel
theorem dr_ok0_3 : chkO (h_n_drawn_right (sl_dr small_0 small_3)) 6 = true := by decide +kernel
theorem dr_ok0_4 : chkO (h_n_drawn_right (sl_dr small_0 small_4)) 6 = true := by decide +kernel
theorem dr_ok0_5 : chkO (h_n_drawn_right (sl_dr small_0 small_5)) 6 = true := by decide +kernel
theorem dr_ok0_6 : chkO (h_n_drawn_right (sl_dr small_0 small_6)) 6 = true := by decide +kernel
theorem dr_ok0_7 : chkO (h_n_drawn_right (sl_dr small_0 small_7)) 6 = true := by decide +kernel
theorem dr_ok1_0 : chkO (h_n_drawn_right (sl_dr small_1 small_0)) 6 = true := by decide +kernel
theorem dr_ok1_1 : chkO (h_n_drawn_right (sl_dr small_1 small_1)) 6 = true := by decide +kernel
theorem dr_ok1_2 : chkO (h_n_drawn_right (sl_dr small_1 small_2)) 6 = true := by decide +kernel
theorem dr_ok1_3 : chkO (h_n_drawn_right (sl_dr small_1 small_3)) 6 = true := by decide +kernel
theorem dr_ok1_4 : chkO (h_n_drawn_right (sl_dr small_1 small_4)) 6 = true := by decide +kernel
theorem dr_ok1_5 : chkO (h_n_drawn_right (sl_dr small_1 small_5)) 6 = true := by decide +kernel
theorem dr_ok1_6 : chkO (h_n_drawn_right (sl_dr small_1 small_6)) 6 = true := by decide +kernel
theorem dr_ok1_7 : chkO (h_n_drawn_right (sl_dr small_1 small_7)) 6 = true := by decide +kernel
theorem dr_ok2_0 : chkO (h_n_drawn_right (sl_dr small_2 small_0)) 6 = true := by decide +kernel
theorem dr_ok2_1 : chkO (h_n_drawn_right (sl_dr small_2 small_1)) 6 = true := by decide +kernel
theorem dr_ok2_2 : chkO (h_n_drawn_right (sl_dr small_2 small_2)) 6 = true := by decide +kernel
theorem dr_ok2_3 : chkO (h_n_drawn_right (sl_dr small_2 small_3)) 6 = true := by decide +kernel
theorem dr_ok2_4 : chkO (h_n_drawn_right (sl_dr small_2 small_4)) 6 = true := by decide +kernel
theorem dr_ok2_5 : chkO (h_n_drawn_right (sl_dr small_2 small_5)) 6 = true := by decide +kernel
theorem dr_ok2_6 : chkO (h_n_drawn_right (sl_dr small_2 small_6)) 6 = true := by decide +kernel
theorem dr_ok2_7 : chkO (h_n_drawn_right (sl_dr small_2 small_7)) 6 = true := by decide +kernel
theorem dr_ok3_0 : chkO (h_n_drawn_right (sl_dr small_3 small_0)) 6 = true := by decide +kernel
theorem dr_ok3_1 : chkO (h_n_drawn_right (sl_dr small_3 small_1)) 6 = true := by decide +kernel
theorem dr_ok3_2 : chkO (h_n_drawn_right (sl_dr small_3 small_2)) 6 = true := by decide +kernel
theorem dr_ok3_3 : chkO (h_n_drawn_right (sl_dr small_3 small_3)) 6 = true := by decide +kernel
theorem dr_ok3_4 : chkO (h_n_drawn_right (sl_dr small_3 small_4)) 6 = true := by decide +kernel
theorem dr_ok3_5 : chkO (h_n_drawn_right (sl_dr small_3 small_5)) 6 = true := by decide +kernel
theorem dr_ok3_6 : chkO (h_n_drawn_right (sl_dr small_3 small_6)) 6 = true := by decide +kernel
theorem dr_ok3_7 : chkO (h_n_drawn_right (sl_dr small_3 small_7)) 6 = true := by decide +kernel
theorem dr_ok4_0 : chkO (h_n_drawn_right (sl_dr small_4 small_0)) 6 = true := by decide +kernel
theorem dr_ok4_1 : chkO (h_n_drawn_right (sl_dr small_4 small_1)) 6 = true := by decide +kernel
theorem dr_ok4_2 : chkO (h_n_drawn_right (sl_dr small_4 small_2)) 6 = true := by decide +kernel
theorem dr_ok4_3 : chkO (h_n_drawn_right (sl_dr small_4 small_3)) 6 = true := by decide +kernel
theorem dr_ok4_4 : chkO (h_n_drawn_right (sl_dr small_4 small_4)) 6 = true := by decide +kernel
theorem dr_ok4_5 : chkO (h_n_drawn_right (sl_dr small_4 small_5)) 6 = true := by decide +kernel
theorem dr_ok4_6 : chkO (h_n_drawn_right (sl_dr small_4 small_6)) 6 = true := by decide +kernel
theorem dr_ok4_7 : chkO (h_n_drawn_right (sl_dr small_4 small_7)) 6 = true := by decide +kernel
theorem dr_ok5_0 : chkO (h_n_drawn_right (sl_dr small_5 small_0)) 6 = true := by decide +kernel
theorem dr_ok5_1 : chkO (h_n_drawn_right (sl_dr small_5 small_1)) 6 = true := by decide +kernel
theorem dr_ok5_2 : chkO (h_n_drawn_right (sl_dr small_5 small_2)) 6 = true := by decide +kernel
theorem dr_ok5_3 : chkO (h_n_drawn_right (sl_dr small_5 small_3)) 6 = true := by decide +kernel
theorem dr_ok5_4 : chkO (h_n_drawn_right (sl_dr small_5 small_4)) 6 = true := by decide +kernel
theorem dr_ok5_5 : chkO (h_n_drawn_right (sl_dr small_5 small_5)) 6 = true := by decide +kernel
theorem dr_ok5_6 : chkO (h_n_drawn_right (sl_dr small_5 small_6)) 6 = true := by decide +kernel
theorem dr_ok5_7 : chkO (h_n_drawn_right (sl_dr small_5 small_7)) 6 = true := by decide +kernel
theorem dr_ok6_0 : chkO (h_n_drawn_right (sl_dr small_6 small_0)) 6 = true := by decide +kernel
theorem dr_ok6_1 : chkO (h_n_drawn_right (sl_dr small_6 small_1)) 6 = true := by decide +kernel
theorem dr_ok6_2 : chkO (h_n_drawn_right (sl_dr small_6 small_2)) 6 = true := by decide +kernel
theorem dr_ok6_3 : chkO (h_n_drawn_right (sl_dr small_6 small_3)) 6 = true := by decide +kernel
theorem dr_ok6_4 : chkO (h_n_drawn_right (sl_dr small_6 small_4)) 6 = true := by decide +kernel
theorem dr_ok6_5 : chkO (h_n_drawn_right (sl_dr small_6 small_5)) 6 = true := by decide +kernel
theorem dr_ok6_6 : chkO (h_n_drawn_right (sl_dr small_6 small_6)) 6 = true := by decide +kernel
theorem dr_ok6_7 : chkO (h_n_drawn_right (sl_dr small_6 small_7)) 6 = true := by decide +kernel
theorem dr_ok7_0 : chkO (h_n_drawn_right (sl_dr small_7 small_0)) 6 = true := by decide +kernel
theorem dr_ok7_1 : chkO (h_n_drawn_right (sl_dr small_7 small_1)) 6 = true := by decide +kernel
theorem dr_ok7_2 : chkO (h_n_drawn_right (sl_dr small_7 small_2)) 6 = true := by decide +kernel
theorem dr_ok7_3 : chkO (h_n_drawn_right (sl_dr small_7 small_3)) 6 = true := by decide +kernel
theorem dr_ok7_4 : chkO (h_n_drawn_right (sl_dr small_7 small_4)) 6 = true := by decide +kernel
theorem dr_ok7_5 : chkO (h_n_drawn_right (sl_dr small_7 small_5)) 6 = true := by decide +kernel
theorem dr_ok7_6 : chkO (h_n_drawn_right (sl_dr small_7 small_6)) 6 = true := by decide +kernel
theorem dr_ok7_7 : chkO (h_n_drawn_right (sl_dr small_7 small_7)) 6 = true := by decide +kernel
theorem dr_ok0 : ∀ b ∈ smallL, chkO (h_n_drawn_right (sl_dr small_0 b)) 6 = true := List.forall_mem_cons.mpr ⟨dr_ok0_0, List.forall_mem_cons.mpr ⟨dr_ok0_1, List.forall_mem_cons.mpr ⟨dr_ok0_2, List.forall_mem_cons.mpr ⟨dr_ok0_3, List.forall_mem_cons.mpr ⟨dr_ok0_4, List.forall_mem_cons.mpr ⟨dr_ok0_5, List.forall_mem_cons.mpr ⟨dr_ok0_6, List.forall_mem_cons.mpr ⟨dr_ok0_7, List.forall_mem_nil _⟩⟩⟩⟩⟩⟩⟩⟩
theorem dr_ok1 : ∀ b ∈ smallL, chkO (h_n_drawn_right (sl_dr small_1 b)) 6 = true := List.forall_mem_cons.mpr ⟨dr_ok1_0, List.forall_mem_cons.mpr ⟨dr_ok1_1, List.forall_mem_cons.mpr ⟨dr_ok1_2, List.forall_mem_cons.mpr ⟨dr_ok1_3, List.forall_mem_cons.mpr ⟨dr_ok1_4, List.forall_mem_cons.mpr ⟨dr_ok1_5, List.forall_mem_cons.mpr ⟨dr_ok1_6, List.forall_mem_cons.mpr ⟨dr_ok1_7, List.forall_mem_nil _⟩⟩⟩⟩⟩⟩⟩⟩
theorem dr_ok2 : ∀ b ∈ smallL, chkO (h_n_drawn_right (sl_dr small_2 b)) 6 = true := List.forall_mem_cons.mpr ⟨dr_ok2_0, List.forall_mem_cons.mpr ⟨dr_ok2_1, List.forall_mem_cons.mpr ⟨dr_ok2_2, List.forall_mem_cons.mpr ⟨dr_ok2_3, List.forall_mem_cons.mpr ⟨dr_ok2_4, List.forall_mem_cons.mpr ⟨dr_ok2_5, List.forall_mem_cons.mpr ⟨dr_ok2_6, List.forall_mem_cons.mpr ⟨dr_ok2_7, List.forall_mem_nil _⟩⟩⟩⟩⟩⟩⟩⟩
theorem dr_ok3 : ∀ b ∈ smallL, chkO (h_n_drawn_right (sl_dr small_3 b)) 6 = true := List.forall_mem_cons.mpr ⟨dr_ok3_0, List.forall_mem_cons.mpr ⟨dr_ok3_1, List.forall_mem_cons.mpr ⟨dr_ok3_2, List.forall_mem_cons.mpr ⟨dr_ok3_3, List.forall_mem_cons.mpr ⟨dr_ok3_4, List.forall_mem_cons.mpr ⟨dr_ok3_5, List.forall_mem_cons.mpr ⟨dr_ok3_6, List.forall_mem_cons.mpr ⟨dr_ok3_7, List.forall_mem_nil _⟩⟩⟩⟩⟩⟩⟩⟩
theorem dr_ok4 : ∀ b ∈ smallL, chkO (h_n_drawn_right (sl_dr small_4 b)) 6 = true := List.forall_mem_cons.mpr ⟨dr_ok4_0, List.forall_mem_cons.mpr ⟨dr_ok4_1, List.forall_mem_cons.mpr ⟨dr_ok4_2, List.forall_mem_cons.mpr ⟨dr_ok4_3, List.forall_mem_cons.mpr ⟨dr_ok4_4, List.forall_mem_cons.mpr ⟨dr_ok4_5, List.forall_mem_cons.mpr ⟨dr_ok4_6, List.forall_mem_cons.mpr ⟨dr_ok4_7, List.forall_mem_nil _⟩⟩⟩⟩⟩⟩⟩⟩
theorem dr_ok5 : ∀ b ∈ smallL, chkO (h_n_drawn_right (sl_dr small_5 b)) 6 = true := List.forall_mem_cons.mpr ⟨dr_ok5_0, List.forall_mem_cons.mpr ⟨dr_ok5_1, List.forall_mem_cons.mpr ⟨dr_ok5_2, List.forall_mem_cons.mpr ⟨dr_ok5_3, List.forall_mem_cons.mpr ⟨dr_ok5_4, List.forall_mem_cons.mpr ⟨dr_ok5_5, List.forall_mem_cons.mpr ⟨dr_ok5_6, List.forall_mem_cons.mpr ⟨dr_ok5_7, List.forall_mem_nil _⟩⟩⟩⟩⟩⟩⟩⟩
theorem dr_ok6 : ∀ b ∈ smallL, chkO (h_n_drawn_right (sl_dr small_6 b)) 6 = true := List.forall_mem_cons.mpr ⟨dr_ok6_0, List.forall_mem_cons.mpr ⟨dr_ok6_1, List.forall_mem_cons.mpr ⟨dr_ok6_2, List.forall_mem_cons.mpr ⟨dr_ok6_3, List.forall_mem_cons.mpr ⟨dr_ok6_4, List.forall_mem_cons.mpr ⟨dr_ok6_5, List.forall_mem_cons.mpr ⟨dr_ok6_6, List.forall_mem_cons.mpr ⟨dr_ok6_7, List.forall_mem_nil _⟩⟩⟩⟩⟩⟩⟩⟩
theorem dr_ok7 : ∀ b ∈ smallL, chkO (h_n_drawn_right (sl_dr small_7 b)) 6 = true := List.forall_mem_cons.mpr ⟨dr_ok7_0, List.forall_mem_cons.mpr ⟨dr_ok7_1, List.forall_mem_cons.mpr ⟨dr_ok7_2, List.forall_mem_cons.mpr ⟨dr_ok7_3, List.forall_mem_cons.mpr ⟨dr_ok7_4, List.forall_mem_cons.mpr ⟨dr_ok7_5, List.forall_mem_cons.mpr ⟨dr_ok7_6, List.forall_mem_cons.mpr ⟨dr_ok7_7, List.forall_mem_nil _⟩⟩⟩⟩⟩⟩⟩⟩
theorem dr_all : ∀ a ∈ smallL, ∀ b ∈ smallL, chkO (h_n_drawn_right (sl_dr a b)) 6 = true := List.forall_mem_cons.mpr ⟨dr_ok0, List.forall_mem_cons.mpr ⟨dr_ok1, List.forall_mem_cons.mpr ⟨dr_ok2, List.forall_mem_cons.mpr ⟨dr_ok3, List.forall_mem_cons.mpr ⟨dr_ok4, List.forall_mem_cons.mpr ⟨dr_ok5, List.forall_mem_cons.mpr ⟨dr_ok6, List.forall_mem_cons.mpr ⟨dr_ok7, List.forall_mem_nil _⟩⟩⟩⟩⟩⟩⟩⟩
theorem dr_g : g_n_drawn_right (iniN 6 []) = some (12, smallL.flatMap fun a => smallL.map fun b => .nx (sl_dr a b)) := by kernel_rfl
theorem dr_sub : subN (r_n_drawn_right []) 18 [.bool true] = true := sub_tr (h := h_n_drawn_right) (c2 := 6) dr_g fun o ho => by
  obtain ⟨a, ha, ho⟩ := List.mem_flatMap.mp ho
  obtain ⟨b, hb, rfl⟩ := List.mem_map.mp ho
  exact ⟨_, rfl, dr_all a ha b hb⟩
end K50

set_option Elab.async false
set_option linter.all false
set_option maxRecDepth 100000
set_option maxHeartbeats 4000000
/-! the law's promise where no repr is under way: the end of the walk -/
namespace K50
open PySem PySem.Spec PyProof.Rows L2
theorem guards0 : callerA.guards = some [] := rfl
theorem callG {P : Program} {w : World} {K : PySem.W.Frag} {mg mb : Str → Option Value} {k : Nat} {fa a : Addr} {fd : FuncData} {x : Str} {sp : Sp} {s1 : Shared} {us : List Value} {ns : List Int}
    (hK : K.In s1.heap) (hG : s1.heap.Ns mainGlobals mg) (hB : s1.heap.Ns builtinsNs mb) (hBB : ∀ x : Str, x ≠ "__name__" → mb x = bootBuiltins x) (hL : s1.heap.NoLimit) (hg : s1.gens = #[])
    (ho : s1.heap.get? a = some { cls := .type "list", data := .seq us.toArray }) (hi : IntsAre us ns) (hl : ns.length ≤ sizeLine) (hr : Room k callerA)
    (F : ∀ base : Heap, K.In base → base.Ns mainGlobals mg → FnG P w K mg base k fa fd [x] sp) (hbind : ∀ (s : Shared) (u : Value), BindsTo s fd ⟨[u], []⟩ [(x, u)])
    (hsp : ∀ H : Hp, Only H → SqL K H a (ns.map V.int) → sp [.ref a] H (fun v _ => v = .bl true) E0) :
    codeAny (model P w) callerA (.call (.ref fa) ⟨[.ref a], []⟩) (fun r s' => r = .ok (.ret (.bool true)) ∧ OldK s1.heap s'.heap ∧ s'.os = s1.os ∧ AllBare s'.gens) s1 := by
  have rel := vals_ints hi
  have len := hi.length
  have main : ∀ H : Hp, Only H → SqL K H a (ns.map V.int) → HOk P w H s1.heap → (∀ b, H b ≠ none → b = a) → (H a ≠ none → K.lookup a = none) →
      codeAny (model P w) callerA (.call (.ref fa) ⟨[.ref a], []⟩) (fun r s' => r = .ok (.ret (.bool true)) ∧ OldK s1.heap s'.heap ∧ s'.os = s1.os ∧ AllBare s'.gens) s1 := by
    intro H only seq hok isA notK
    have here : ∀ {b : Addr} {o : Obj}, s1.heap.get? b = some o → H b = none → (hidT s1.heap H).get? b = some o := fun e n => hidT_get e n
    have free : ∀ {b : Addr} {o : Obj} {es : Array DictEntry} {ep : Nat}, s1.heap.get? b = some o → o.data = .dict es ep → H b = none := by
      intro b o es ep e d
      cases q : H b with
      | none => rfl
      | some t =>
        have eb : b = a := isA b (ne_none q)
        rw [eb, ho] at e
        cases e
        exact absurd d (by simp)
    have spaces : ∀ {b : Addr} {m : Str → Option Value}, s1.heap.Ns b m → (hidT s1.heap H).Ns b m := by
      rintro b m ⟨o, es, ep, e, d, r⟩
      exact ⟨o, es, ep, here e (free e d), d, r⟩
    have inK : K.In (hidT s1.heap H) := by
      intro b o e
      refine here (hK b o e) ?_
      cases q : H b with
      | none => rfl
      | some t =>
        have eb : b = a := isA b (ne_none q)
        rw [eb] at q e
        rw [notK (ne_none q)] at e
        cases e
    have lim : (hidT s1.heap H).NoLimit := by
      obtain ⟨mc, l1, l2⟩ := hL
      exact ⟨mc, spaces l1, l2⟩
    have md : Mod K mg (hidT s1.heap H) := ⟨inK, spaces hG, ⟨mb, spaces hB, hBB⟩, lim⟩
    have env : Env0 P w K mg (hidT s1.heap H) callerA [] s1 H := by
      refine ⟨rfl, md, fun b o e => of_hidT e, Nat.le_of_eq (hidT_size _ _), trivial, fun b hb => ?_, hok, .of_eq hg⟩
      cases hb
    have fn := F (hidT s1.heap H) inK (spaces hG)
    refine codeAny_mono (fn.run callerA [] s1 H ⟨[.ref a], []⟩ [.ref a] [.ref a] _ hr guards0 env (hbind s1 (.ref a)) (.cons rfl .nil) (hsp H only seq)) fun r s' got => ?_
    match r, got with
    | .error e, z => exact z.elim
    | .ok .next, z => exact z.elim
    | .ok .brk, z => exact z.elim
    | .ok .cont, z => exact z.elim
    | .ok (.ret u), ⟨v, H', os, bare, un, hok', rv, e⟩ =>
      cases (show v = V.bl true from e)
      cases (show u = Value.bool true from rv)
      refine ⟨rfl, OldK.of_keep fun b o eb => ?_, os, bare⟩
      cases q : H b with
      | none => exact un.keep b o eb q (fun z => by cases z) (by simp)
      | some t =>
        rcases only b with z | ⟨ob, xs, z⟩
        · rw [q] at z; cases z
        · have z' := un.frzs b ob _ z
          obtain ⟨e1, _⟩ := hok b _ z
          obtain ⟨e2, _⟩ := hok' b _ z'
          rw [eb] at e1
          cases e1
          exact e2
  cases hk : K.lookup a with
  | some o =>
    have e := hK a o hk
    rw [ho] at e
    cases e
    refine main (fun _ => none) (fun _ => .inl rfl) (.inr ⟨_, us.toArray, _, hk, rfl, rfl, rfl, ?_, by simpa using rel⟩) (fun b t z => by cases z) (fun b z => absurd rfl z) (fun z => absurd rfl z)
    rw [List.size_toArray, len]
    exact hl
  | none =>
    refine main (fun b => if b = a then some (.frz { cls := .type "list", data := .seq us.toArray } (.lst (ns.map V.int))) else none) (fun b => ?_) (.inl (.inr ⟨_, if_pos rfl⟩)) (fun b t z => ?_) (fun b z => ?_) fun _ => hk
    · by_cases hb : b = a
      · exact .inr ⟨_, _, if_pos hb⟩
      · exact .inl (if_neg hb)
    · by_cases hb : b = a
      · have z' := (if_pos hb).symm.trans z
        cases z'
        rw [hb]
        exact ⟨ho, by rw [List.length_map]; exact hl, us, _, rel, ho⟩
      · have z' := (if_neg hb).symm.trans z
        cases z'
    · by_cases hb : b = a
      · exact hb
      · exact absurd (if_neg hb) z
theorem walkG {l : PySem.W.OpenLaw} {n k : Nat} {q : Program} {loose : List Str} {XP : (Str → Option Value) → Heap → Prop} {YP : World → Heap → Prop} {d : DefRec} {x : Str}
    (hn : l.most = some n) (hn2 : n ≤ sizeLine) (hdf : d.params.defaults = []) (hr : Room k callerA)
    (F : ∀ (w : World) (mg : Str → Option Value) (fa : Addr) (h : Heap), YP w h → h.Ns mainGlobals mg → mg d.name = some (.ref fa) →
      ∃ (K : PySem.W.Frag) (fd : FuncData) (sp : Sp), K.In h ∧ (∀ (s : Shared) (u : Value), BindsTo s fd ⟨[u], []⟩ [(x, u)]) ∧
        (∀ (H : Hp) (a : Addr) (ns : List Int), ns.length ≤ n → Only H → SqL K H a (ns.map V.int) → sp [.ref a] H (fun v _ => v = .bl true) E0) ∧
        ∀ base : Heap, K.In base → base.Ns mainGlobals mg → FnG l.prog w K mg base k fa fd [x] sp) : PySem.W.WalkO q loose XP YP l.row.toRowW d [] (fun f vs => PySem.call f vs) := by
  refine Att.attach_call hn hdf ?_
  intro w s0 s1 mg mb fa o pm cd doc a vs ns G Y ho hd hcd hmg hobj hints hlen hg
  obtain ⟨K, fd, sp, hK, hb, hs, hF⟩ := F w mg fa _ Y G.T.g hmg
  exact callG hK G.T.g G.T.b G.T.builtins G.T.nolimit hg hobj hints (Nat.le_trans hlen hn2) hr hF hb fun H only seq => hs H a ns hlen only seq
end K50

set_option Elab.async false
set_option linter.all false
set_option maxRecDepth 100000
set_option maxHeartbeats 0
namespace Hd
open PySem PySem.Spec PyProof.Rows L2
def top (i : Nat) : Stmt := PySem.Challenge.pw_holdfills_k50_whole_maps_of_books.main.body.getD i (.Pass ⟨0, 0, 0, 0⟩)
def dd (x : Str) (i : Nat) : He.DefD := ⟨(x, none), x, x, defArgs (top i), defBody (top i), defScope (top i), [], []⟩
def fn : List He.DefD := [dd "is_from" 9, dd "is_holder" 10, dd "need_holder" 11, dd "power_so" 12, dd "fillings_so" 13, dd "rows_of" 15, dd "own_so" 16, dd "is_row" 18, dd "check_program" 19, dd "done_so" 20, dd "check_size" 22, dd "greatest" 23, dd "multiplied_so" 24, dd "multiplied" 25, dd "into_count" 27, dd "into_so" 28, dd "into_sizes" 29, dd "number_so" 30, dd "check_twice" 33, dd "flat_so" 34, dd "leaves_of" 35, dd "unit_so" 36, dd "broken_alone" 37, dd "is_one_thrice" 38, dd "broken_thrice" 39, dd "broken_law" 40, dd "is_table" 41, dd "check_book" 42, dd "need_book" 43, dd "is_map_so" 44, dd "is_book_map" 45, dd "product_row" 46, dd "product_book" 47, dd "_law_mixed" 49, dd "_law_begin" 50, dd "_law_draw" 51, dd "_law_of" 52, dd "_law_table" 53, dd "_law_rows" 54, dd "_law_done" 55, dd "_law_like" 56, dd "_law_inside" 57, dd "_law_parts" 58, dd "_law_flat" 59, dd "_law_square" 60, dd "_law_read_book" 61, dd "_law_stop_book" 62, dd "_law_small_book" 63, dd "_law_product_book" 64, dd "_law_is_map" 65, dd "_law_pair" 66, dd "_law_looks" 67, dd "_law_judged" 68, dd "_law_product_right" 69, dd "_law_wide_pair" 70, dd "_law_wide_right" 71, dd "_law_drawn_right" 72, dd "_law_by_hand" 73, dd "law" 74]
def fa : List He.Fa := [.glo "is_from", .glo "is_holder", .glo "need_holder", .glo "power_so", .glo "fillings_so", .glo "rows_of", .glo "own_so", .glo "is_row", .glo "check_program", .glo "done_so", .glo "check_size", .glo "greatest", .glo "multiplied_so", .glo "multiplied", .glo "into_count", .glo "into_so", .glo "into_sizes", .glo "number_so", .glo "check_twice", .glo "flat_so", .glo "leaves_of", .glo "unit_so", .glo "broken_alone", .glo "is_one_thrice", .glo "broken_thrice", .glo "broken_law", .glo "is_table", .glo "check_book", .glo "need_book", .glo "is_map_so", .glo "is_book_map", .glo "product_row", .glo "product_book", .glo "_law_mixed", .glo "_law_begin", .glo "_law_draw", .glo "_law_of", .glo "_law_table", .glo "_law_rows", .glo "_law_done", .glo "_law_like", .glo "_law_inside", .glo "_law_parts", .glo "_law_flat", .glo "_law_square", .glo "_law_read_book", .glo "_law_stop_book", .glo "_law_small_book", .glo "_law_product_book", .glo "_law_is_map", .glo "_law_pair", .glo "_law_looks", .glo "_law_judged", .glo "_law_product_right", .glo "_law_wide_pair", .glo "_law_wide_right", .glo "_law_drawn_right", .glo "_law_by_hand", .glo "law", .int "MOST_SHAPES" 60, .int "MOST_PLACES" 12, .int "MOST_THRICE" 5000, .free "len", .free "isinstance", .free "int", .free "bool", .free "tuple", .free "range", .free "enumerate", .free "sum", .free "max", .free "list", .free "zip", .free "repr"]
def loose0 : List PySem.Str := ["HoldError", "BadHolder", "BadProgram", "BadBook", "TooGreat", "MOST_SHAPES", "MOST_PLACES", "is_from", "is_holder", "need_holder", "power_so", "fillings_so", "rows_of", "own_so", "is_row", "check_program", "done_so", "check_size", "greatest", "multiplied_so", "multiplied", "into_count", "into_so", "into_sizes", "number_so", "MOST_THRICE", "check_twice", "flat_so", "leaves_of", "unit_so"]
def loose1 : List PySem.Str := ["broken_alone", "is_one_thrice", "broken_thrice", "broken_law", "is_table", "check_book", "need_book", "is_map_so", "is_book_map", "product_row", "product_book", "_law_mixed", "_law_begin", "_law_draw", "_law_of", "_law_table", "_law_rows", "_law_done", "_law_like", "_law_inside", "_law_parts", "_law_flat", "_law_square", "_law_read_book", "_law_stop_book", "_law_small_book", "_law_product_book", "_law_is_map", "_law_pair", "_law_looks"]
def loose2 : List PySem.Str := ["_law_judged", "_law_product_right", "_law_wide_pair", "_law_wide_right", "_law_drawn_right", "_law_by_hand"]
def loose : List PySem.Str := loose0 ++ loose1 ++ loose2
abbrev R : PySem.W.OpenRow := PySem.W.OpenLaw.row PySem.Challenge.rw_holdfills_k50_whole_maps_of_books
abbrev hk : PySem.W.Hook := He.hookD 3 fa fn
def ob (s : PySem.W.SharedT) : He.AlD := He.obsDG 3 fa fn (HandSHeadRun.getT s)
theorem ob_eq (s : PySem.W.SharedT) : ob s = hk.obs s.abs := He.obsDG_eq (HandSHeadRun.getT_eq s)
theorem run (w : World) : HandSHeadRun.RunEq R (PySem.W.view R.prog [74]) hk ob 8000 loose w := by
  intro os
  kernel_rfl
end Hd

set_option Elab.async false
set_option linter.all false
set_option maxRecDepth 100000
set_option maxHeartbeats 4000000
namespace K50
open PySem PySem.Spec PyProof.Rows L2
open Hd (fa fn)
theorem has_of {K : PySem.W.Frag} {h : Heap} {mg : Str → Option Value} {x : Str} {i : Nat} (X : K.In h) (G : h.Ns mainGlobals mg) (c : He.SaysD fa fn K) (j j' : Nat) (h1 : fn[j]? = some (Hd.dd x i)) (h2 : fa[j']? = some (.glo x)) : Has K mg x i := by
  obtain ⟨fd, F⟩ := c.def_ j h1
  exact ⟨_, fd, F, He.glo_ok X G (c.fact j' h2)⟩
theorem txt_of {K : PySem.W.Frag} {h : Heap} {mg : Str → Option Value} (X : K.In h) (G : h.Ns mainGlobals mg) (c : He.SaysD fa fn K) : Txt mg :=
  ⟨He.int_ok X G (c.fact 59 (f := .int "MOST_SHAPES" 60) rfl), He.int_ok X G (c.fact 60 (f := .int "MOST_PLACES" 12) rfl), He.int_ok X G (c.fact 61 (f := .int "MOST_THRICE" 5000) rfl), He.free_ok X G (c.fact 62 (f := .free "len") rfl), He.free_ok X G (c.fact 63 (f := .free "isinstance") rfl), He.free_ok X G (c.fact 64 (f := .free "int") rfl), He.free_ok X G (c.fact 65 (f := .free "bool") rfl), He.free_ok X G (c.fact 66 (f := .free "tuple") rfl), He.free_ok X G (c.fact 67 (f := .free "range") rfl), He.free_ok X G (c.fact 68 (f := .free "enumerate") rfl), He.free_ok X G (c.fact 69 (f := .free "sum") rfl), He.free_ok X G (c.fact 70 (f := .free "max") rfl), He.free_ok X G (c.fact 71 (f := .free "list") rfl), He.free_ok X G (c.fact 72 (f := .free "zip") rfl), He.free_ok X G (c.fact 73 (f := .free "repr") rfl)⟩
theorem facts {P : Program} {w : World} {K : PySem.W.Frag} {h : Heap} {mg : Str → Option Value} {f : Addr} (X : K.In h) (G : h.Ns mainGlobals mg) (hfa : mg ("law" : Str) = some (.ref f)) (c : He.SaysD fa fn K) :
    ∃ fd : FuncData, (∀ (s : Shared) (v : Value), BindsTo s fd ⟨[v], []⟩ [("_law_script", v)]) ∧ ∀ base : Heap, K.In base → base.Ns mainGlobals mg → FnG P w K mg base 12 f fd ["_law_script"] (spLaw K) := by
  obtain ⟨fd, F⟩ := c.def_ 58 (d := Hd.dd "law" 74) rfl
  have e := hfa.symm.trans (He.glo_ok X G (c.fact 58 (f := .glo "law") rfl))
  cases e
  refine ⟨fd, fun s v => FunD.bindsA (ps := ["_law_script"]) F (fun _ _ _ _ _ _ us hl => match us, hl with | [_], _ => rfl) s [v] rfl, fun base _ _ => ?_⟩
  have T := txt_of X G c

  have c_p_is_from := ok_p_is_from (P := P) (w := w) (base := base) T (has_of X G c 0 0 (x := "is_from") (i := 9) rfl rfl)
  have c_p_is_holder := ok_p_is_holder (P := P) (w := w) (base := base) T (has_of X G c 1 1 (x := "is_holder") (i := 10) rfl rfl) c_p_is_from
  have c_p_need_holder := ok_p_need_holder (P := P) (w := w) (base := base) T (has_of X G c 2 2 (x := "need_holder") (i := 11) rfl rfl) c_p_is_holder
  have c_p_power_so := ok_p_power_so (P := P) (w := w) (base := base) T (has_of X G c 3 3 (x := "power_so") (i := 12) rfl rfl)
  have c_p_fillings_so := ok_p_fillings_so (P := P) (w := w) (base := base) T (has_of X G c 4 4 (x := "fillings_so") (i := 13) rfl rfl) c_p_power_so
  have c_p_rows_of := ok_p_rows_of (P := P) (w := w) (base := base) T (has_of X G c 5 5 (x := "rows_of") (i := 15) rfl rfl)
  have c_p_own_so := ok_p_own_so (P := P) (w := w) (base := base) T (has_of X G c 6 6 (x := "own_so") (i := 16) rfl rfl)
  have c_p_is_row := ok_p_is_row (P := P) (w := w) (base := base) T (has_of X G c 7 7 (x := "is_row") (i := 18) rfl rfl) c_p_is_from
  have c_p_check_program := ok_p_check_program (P := P) (w := w) (base := base) T (has_of X G c 8 8 (x := "check_program") (i := 19) rfl rfl) c_p_is_row
  have c_p_done_so := ok_p_done_so (P := P) (w := w) (base := base) T (has_of X G c 9 9 (x := "done_so") (i := 20) rfl rfl)
  have c_q_done_so := c_p_done_so.wkF q_done_ok
  have c_p_check_size := ok_p_check_size (P := P) (w := w) (base := base) T (has_of X G c 10 10 (x := "check_size") (i := 22) rfl rfl)
  have c_p_greatest := ok_p_greatest (P := P) (w := w) (base := base) T (has_of X G c 11 11 (x := "greatest") (i := 23) rfl rfl)
  have c_p_multiplied_so := ok_p_multiplied_so (P := P) (w := w) (base := base) T (has_of X G c 12 12 (x := "multiplied_so") (i := 24) rfl rfl) c_p_greatest c_p_check_size
  have c_p_multiplied := ok_p_multiplied (P := P) (w := w) (base := base) T (has_of X G c 13 13 (x := "multiplied") (i := 25) rfl rfl) c_p_need_holder c_p_multiplied_so
  have c_p_into_count := ok_p_into_count (P := P) (w := w) (base := base) T (has_of X G c 14 14 (x := "into_count") (i := 27) rfl rfl) c_p_power_so
  have c_p_into_so := ok_p_into_so (P := P) (w := w) (base := base) T (has_of X G c 15 15 (x := "into_so") (i := 28) rfl rfl) c_p_rows_of
  have c_p_into_sizes := ok_p_into_sizes (P := P) (w := w) (base := base) T (has_of X G c 16 16 (x := "into_sizes") (i := 29) rfl rfl) c_p_into_so
  have c_p_number_so := ok_p_number_so (P := P) (w := w) (base := base) T (has_of X G c 17 17 (x := "number_so") (i := 30) rfl rfl) c_p_power_so
  have c_p_check_twice := ok_p_check_twice (P := P) (w := w) (base := base) T (has_of X G c 18 18 (x := "check_twice") (i := 33) rfl rfl) c_p_into_count c_p_greatest c_p_check_size c_p_fillings_so
  have c_p_flat_so := ok_p_flat_so (P := P) (w := w) (base := base) T (has_of X G c 19 19 (x := "flat_so") (i := 34) rfl rfl) c_p_number_so c_p_done_so
  have c_q_flat_so := c_p_flat_so.wkF q_flat_ok
  have c_p_leaves_of := ok_p_leaves_of (P := P) (w := w) (base := base) T (has_of X G c 20 20 (x := "leaves_of") (i := 35) rfl rfl)
  have c_q_leaves_of := c_p_leaves_of.wkF q_leaves_ok
  have c_l_done := ok_l_done (P := P) (w := w) (base := base) T (has_of X G c 39 39 (x := "_law_done") (i := 55) rfl rfl)
  have c_ql_done := c_l_done.wkF ql_done_ok
  have c_l_like := ok_l_like (P := P) (w := w) (base := base) T (has_of X G c 40 40 (x := "_law_like") (i := 56) rfl rfl)
  have c_ql_like := c_l_like.wkF ql_like_ok
  have c_p_unit_so := ok_p_unit_so (P := P) (w := w) (base := base) T (has_of X G c 21 21 (x := "unit_so") (i := 36) rfl rfl)
  have c_p_broken_alone := ok_p_broken_alone (P := P) (w := w) (base := base) T (has_of X G c 22 22 (x := "broken_alone") (i := 37) rfl rfl) c_p_own_so c_p_unit_so c_q_flat_so
  have c_p_is_one_thrice := ok_p_is_one_thrice (P := P) (w := w) (base := base) T (has_of X G c 23 23 (x := "is_one_thrice") (i := 38) rfl rfl) c_q_leaves_of c_q_done_so c_q_flat_so
  have c_q_is_one_thrice := c_p_is_one_thrice.wkF q_thrice_ok
  have c_p_broken_thrice := ok_p_broken_thrice (P := P) (w := w) (base := base) T (has_of X G c 24 24 (x := "broken_thrice") (i := 39) rfl rfl) c_p_into_so c_p_rows_of c_q_is_one_thrice
  have c_p_broken_law := ok_p_broken_law (P := P) (w := w) (base := base) T (has_of X G c 25 25 (x := "broken_law") (i := 40) rfl rfl) c_p_broken_alone c_p_broken_thrice
  have c_p_is_table := ok_p_is_table (P := P) (w := w) (base := base) T (has_of X G c 26 26 (x := "is_table") (i := 41) rfl rfl) c_p_is_row
  have c_p_check_book := ok_p_check_book (P := P) (w := w) (base := base) T (has_of X G c 27 27 (x := "check_book") (i := 42) rfl rfl) c_p_is_from c_p_into_sizes c_p_is_table c_p_broken_law
  have c_p_need_book := ok_p_need_book (P := P) (w := w) (base := base) T (has_of X G c 28 28 (x := "need_book") (i := 43) rfl rfl) c_p_need_holder c_p_check_twice c_p_check_book
  have c_m_need_book := c_p_need_book.wkF (m_need_ok books_ok)
  have c_l_mixed := ok_l_mixed (P := P) (w := w) (base := base) T (has_of X G c 33 33 (x := "_law_mixed") (i := 49) rfl rfl)
  have c_l_rows := ok_l_rows (P := P) (w := w) (base := base) T (has_of X G c 38 38 (x := "_law_rows") (i := 54) rfl rfl)
  have c_l_inside := ok_l_inside (P := P) (w := w) (base := base) T (has_of X G c 41 41 (x := "_law_inside") (i := 57) rfl rfl) c_l_rows
  have c_l_parts := ok_l_parts (P := P) (w := w) (base := base) T (has_of X G c 42 42 (x := "_law_parts") (i := 58) rfl rfl)
  have c_ql_parts := c_l_parts.wkF ql_parts_ok
  have c_l_flat := ok_l_flat (P := P) (w := w) (base := base) T (has_of X G c 43 43 (x := "_law_flat") (i := 59) rfl rfl) c_ql_done
  have c_ql_flat := c_l_flat.wkF ql_flat_ok
  have c_p_is_map_so := ok_p_is_map_so (P := P) (w := w) (base := base) T (has_of X G c 29 29 (x := "is_map_so") (i := 44) rfl rfl) c_p_into_so c_q_leaves_of c_q_flat_so c_q_done_so
  have c_p_is_book_map := ok_p_is_book_map (P := P) (w := w) (base := base) T (has_of X G c 30 30 (x := "is_book_map") (i := 45) rfl rfl) c_m_need_book c_p_check_program c_p_is_map_so
  have c_p_product_row := ok_p_product_row (P := P) (w := w) (base := base) T (has_of X G c 31 31 (x := "product_row") (i := 46) rfl rfl) c_q_flat_so
  have c_p_product_book := ok_p_product_book (P := P) (w := w) (base := base) T (has_of X G c 32 32 (x := "product_book") (i := 47) rfl rfl) c_m_need_book c_p_multiplied c_p_check_twice c_p_into_so c_q_leaves_of c_p_product_row
  have c_l_read_book := ok_l_read_book (P := P) (w := w) (base := base) T (has_of X G c 45 45 (x := "_law_read_book") (i := 61) rfl rfl) c_l_inside
  have c_l_product_book := ok_l_product_book (P := P) (w := w) (base := base) T (has_of X G c 48 48 (x := "_law_product_book") (i := 64) rfl rfl) c_l_inside c_ql_parts c_ql_flat
  have c_l_is_map := ok_l_is_map (P := P) (w := w) (base := base) T (has_of X G c 49 49 (x := "_law_is_map") (i := 65) rfl rfl) c_l_inside c_ql_parts c_ql_flat c_ql_done
  have c_l_looks := ok_l_looks (P := P) (w := w) (base := base) T (has_of X G c 51 51 (x := "_law_looks") (i := 67) rfl rfl)
  have c_l_judged := ok_l_judged (P := P) (w := w) (base := base) T (has_of X G c 52 52 (x := "_law_judged") (i := 68) rfl rfl) c_l_is_map c_p_is_book_map c_ql_like
  have k_p_is_book_map := okK_p_is_book_map (P := P) (w := w) (base := base) T (has_of X G c 30 30 (x := "is_book_map") (i := 45) rfl rfl) c_m_need_book c_p_check_program c_p_is_map_so
  have k_p_product_book := okK_p_product_book (P := P) (w := w) (base := base) T (has_of X G c 32 32 (x := "product_book") (i := 47) rfl rfl) c_m_need_book c_p_multiplied c_p_check_twice c_p_into_so c_q_leaves_of c_p_product_row
  have c_l_by_hand := ok_l_by_hand (P := P) (w := w) (base := base) T (has_of X G c 57 57 (x := "_law_by_hand") (i := 73) rfl rfl) c_p_is_book_map c_ql_like k_p_is_book_map k_p_product_book
  have c_cT := c_l_by_hand.wkF hand_cT
  have c_n_draw := ok_n_draw (P := P) (w := w) (base := base) T (has_of X G c 35 35 (x := "_law_draw") (i := 51) rfl rfl) c_l_mixed
  have c_n_of := ok_n_of (P := P) (w := w) (base := base) T (has_of X G c 36 36 (x := "_law_of") (i := 52) rfl rfl) c_n_draw
  have c_n_table := ok_n_table (P := P) (w := w) (base := base) T (has_of X G c 37 37 (x := "_law_table") (i := 53) rfl rfl) c_n_of c_n_draw
  have c_n_square := ok_n_square (P := P) (w := w) (base := base) T (has_of X G c 44 44 (x := "_law_square") (i := 60) rfl rfl) c_n_draw c_n_of
  have c_n_stop_book := ok_n_stop_book (P := P) (w := w) (base := base) T (has_of X G c 46 46 (x := "_law_stop_book") (i := 62) rfl rfl) c_l_inside c_n_draw
  have c_n_small_book := (ok_n_small_book (P := P) (w := w) (base := base) T (has_of X G c 47 47 (x := "_law_small_book") (i := 63) rfl rfl) c_l_read_book c_n_draw c_n_square c_n_stop_book).wkN small_sub
  have c_n_pair := (ok_n_pair (P := P) (w := w) (base := base) T (has_of X G c 50 50 (x := "_law_pair") (i := 66) rfl rfl) c_n_small_book c_n_draw).wkN pair_sub
  have c_n_wide_pair := (ok_n_wide_pair (P := P) (w := w) (base := base) T (has_of X G c 54 54 (x := "_law_wide_pair") (i := 70) rfl rfl) c_l_read_book c_n_stop_book c_n_square c_n_draw c_n_of).wkN wide_pair_sub
  have c_n_product_right := (ok_n_product_right (P := P) (w := w) (base := base) T (has_of X G c 53 53 (x := "_law_product_right") (i := 69) rfl rfl) c_l_product_book c_p_product_book c_m_need_book c_ql_like c_l_looks c_p_is_book_map c_ql_done c_l_judged c_l_is_map c_n_pair c_n_draw c_n_table).wkN pr_sub
  have c_n_wide_right := (ok_n_wide_right (P := P) (w := w) (base := base) T (has_of X G c 55 55 (x := "_law_wide_right") (i := 71) rfl rfl) c_l_product_book c_p_product_book c_ql_like c_m_need_book c_l_looks c_p_is_book_map c_n_wide_pair).wkN wr_sub
  have c_n_drawn_right := (ok_n_drawn_right (P := P) (w := w) (base := base) T (has_of X G c 56 56 (x := "_law_drawn_right") (i := 72) rfl rfl) c_l_judged c_n_small_book c_n_table).wkN dr_sub
  have c_begin := begin_ok (P := P) (w := w) (base := base) T (has_of X G c 34 34 (x := "_law_begin") (i := 50) rfl rfl)
  exact law_ok T F c_begin c_n_product_right c_n_wide_right c_n_drawn_right c_cT
end K50
open PySem PySem.W PySem.Calls PyProof.Rows
theorem PySem.Challenge.cw_holdfills_k50_whole_maps_of_books_holds : PySem.Challenge.rw_holdfills_k50_whole_maps_of_books.Holds := by
  w_on; o_law
  refine HandSHeadRun.head_any (r := OpenLaw.row PySem.Challenge.rw_holdfills_k50_whole_maps_of_books) (q := view (OpenLaw.row PySem.Challenge.rw_holdfills_k50_whole_maps_of_books).prog [74]) (H := Hd.hk) (ob := Hd.ob) (M := 8000) (loose := Hd.loose) (d := HandSHeadRun.topDef (OpenLaw.row PySem.Challenge.rw_holdfills_k50_whole_maps_of_books).prog 74) (kwd := []) Hd.ob_eq
    (by kernel_rfl) (fun s => by kernel_rfl) Hd.run (by kernel_rfl) (by kernel_rfl) (by kernel_rfl) (by rfl) (by first | assumption | decide +kernel) (by decide +kernel) ⟨rfl, rfl, rfl, rfl, rfl, by decide +kernel⟩ ?hw ?hc
  case hw => w_witness2
  case hc =>
    refine K50.walkG (l := PySem.Challenge.rw_holdfills_k50_whole_maps_of_books) (n := 63) (k := 12) (x := "_law_script") rfl (by decide) (by kernel_rfl) ⟨rfl, by decide, by decide⟩ ?F
    intro w mg fa h Y G hmg0
    obtain ⟨K, KX, c⟩ := Y
    have hmg : mg ("law" : PySem.Str) = some (.ref fa) := by
      have e : (HandSHeadRun.topDef (OpenLaw.row PySem.Challenge.rw_holdfills_k50_whole_maps_of_books).prog 74).name = ("law" : PySem.Str) := by kernel_rfl
      rw [← e]
      exact hmg0
    obtain ⟨fd, hb, hF⟩ := K50.facts (P := (PySem.Challenge.rw_holdfills_k50_whole_maps_of_books).prog) (w := w) KX G hmg c
    exact ⟨K, fd, K50.spLaw K, KX, hb, fun H a ns hl _ hS => ⟨a, ns, rfl, hS, hl, fun _ => rfl⟩, hF⟩
