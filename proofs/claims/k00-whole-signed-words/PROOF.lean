import PyProof.Rows.All
import Wide.All
import OpenK.AllK
import Wide.FinOn
import HandS.ForMost
import HandS.Evl
import HandS.Walk
import HandS.ExcCtx
import HandS.Lambda
import PyProof.P3In
import HandS.TupMul
import HandS.TupAny
import HandS.Deep
import HandS.IsInst
import HandS.Flow
import HandS.Text
import HandS.WideBits
import HandS.Zip
import KE.GoesMore
import KE.GoesZip
import KE.GoesEnum
import KE.KItemsList
import PyProof.ZipIter
import PyProof.ListNew
import HandS.Style
import HandS.Defaults
import HandS.SortRule
import HandS.NamedTupSort
import KE.KEqNest
import HandS.SetFor
import HandS.Hot
import HandS.HotCalls
import HandS.Comp
import HandS.ExcIs
import HandS.HeadHook4
import PyProof.ExcBaseAll.ValueError
import HandS.HeadWalk
import HandS.Head2
import HandS.Head0
import HandS.Head1
import HandS.HeadEnd
import HandS.HeadHook1
import PySem.Challenge.RW_halfturns_k00_whole_signed_words
set_option Elab.async false
set_option linter.all false
set_option maxRecDepth 100000
set_option maxHeartbeats 4000000
namespace RX
open PySem L2

/-! ### values, ends -/
inductive PV where
  | non | bl (b : Bool) | int (i : Int) | str (x : Str) | ty (k : Nat)
  | tup (xs : List PV) | lst (xs : List PV) | xt (xs : List PV) | box | gl (x : Str)
abbrev Cup := List PV
inductive R where
  | ok (v : PV) (c : Cup) | exc (k : Str) (c : Cup) | stuck
inductive Sl where
  | no | va (v : PV) | own (xs : List PV)
abbrev En := List Sl
abbrev E := En → Cup → R
abbrev Fn := List PV → Cup → R

/-- the built-in types that are names of values here -/
def tyN : Nat → String
  | 0 => "int"
  | 1 => "bool"
  | 2 => "str"
  | 3 => "tuple"
  | 4 => "list"
  | _ => "dict"
/-! ### what is global -/
structure GC where
  K : PySem.W.Frag
  mg : Str → Option Value

section
variable (G : GC) (B : Option Addr) (O : Addr → Prop) (H : Hp)
mutual
inductive Rep : V → PV → Prop
  | non : Rep .non .non
  | bl (b : Bool) : Rep (.bl b) (.bl b)
  | int (i : Int) : Rep (.int i) (.int i)
  | str (x : Str) : Rep (.str x) (.str x)
  | ty (k : Nat) : Rep (.ty (tyN k)) (.ty k)
  | tup {a : Addr} {vs : List V} {xs : List PV} : SqT G.K H a vs → (O a → SqT G.K (fun _ => none) a vs) → Reps vs xs → Rep (.ref a) (.tup xs)
  | lst {a : Addr} {vs : List V} {xs : List PV} : H a = some (.lst vs) → ¬ O a → Reps vs xs → Rep (.ref a) (.lst xs)
  | xt {a : Addr} {its : Array Value} {n : Nat} {vs : List V} {xs : List PV} : H a = some (.frz { cls := .type "tuple", dict := none, data := .seq its n, slots := #[] } (.tup vs)) → ¬ O a → Reps vs xs → Rep (.ref a) (.xt xs)
  | box {a : Addr} : B = some a → Rep (.ref a) .box
  | gl {a : Addr} {x : Str} : G.mg x = some (.ref a) → Rep (.ref a) (.gl x)
inductive Reps : List V → List PV → Prop
  | nil : Reps [] []
  | cons {v : V} {vs : List V} {x : PV} {xs : List PV} : Rep v x → Reps vs xs → Reps (v :: vs) (x :: xs)
end
end
variable {G : GC} {B : Option Addr} {O O' : Addr → Prop} {H H' H1 : Hp}

/-- no table of code objects -/
def NT (o : HO) : Prop := ∀ ps, o ≠ .tbl ps
theorem nt_lst {vs : List V} : NT (.lst vs) := fun _ h => by cases h
theorem nt_tup {vs : List V} : NT (.tup vs) := fun _ h => by cases h
theorem nt_frz {o : Obj} {u : HO} : NT (.frz o u) := fun _ h => by cases h
/-- nothing there, or a table -/
def NN (H : Hp) (a : Addr) : Prop := ∀ o, H a = some o → ¬ NT o
theorem NN.of {a : Addr} (h : H a = none) : NN H a := fun o e => by rw [h] at e; cases e
/-- what is not among O stands as it stood -/
def Kp (O : Addr → Prop) (H H' : Hp) : Prop := ∀ a o, H a = some o → ¬ O a → NT o → H' a = some o
theorem Kp.of_ex {O : Addr → Prop} (e : Evl.Ex H H') : Kp O H H' := fun a o h _ _ => e a o h
theorem Kp.trans (a : Kp O H H') (b : Kp O H' H1) : Kp O H H1 := fun x o h n t => b x o (a x o h n t) n t
theorem sqT_kp {K : PySem.W.Frag} {a : Addr} {vs : List V} (h : SqT K H a vs) (n : O a → SqT K (fun _ => none) a vs) (e : Kp O H H') : SqT K H' a vs := by
  by_cases ho : O a
  · rcases n ho with z | z
    · rcases z with z | ⟨_, z⟩ <;> cases z
    · exact .inr z
  · rcases h with h | h
    · rcases h with h | ⟨o, h⟩
      · exact .inl (.inl (e a _ h ho nt_tup))
      · exact .inl (.inr ⟨o, e a _ h ho nt_frz⟩)
    · exact .inr h
theorem rep_kp (e : Kp O H H') : ∀ {v x}, Rep G B O H v x → Rep G B O H' v x := by
  intro v x h
  refine Rep.rec (motive_1 := fun v x _ => Rep G B O H' v x) (motive_2 := fun v x _ => Reps G B O H' v x) ?_ ?_ ?_ ?_ ?_ ?_ ?_ ?_ ?_ ?_ ?_ ?_ h
  · exact .non
  · exact .bl
  · exact .int
  · exact .str
  · exact .ty
  · exact fun h n _ ih => .tup (sqT_kp h n e) n ih
  · exact fun h n _ ih => .lst (e _ _ h n nt_lst) n ih
  · exact fun h n _ ih => .xt (e _ _ h n nt_frz) n ih
  · exact fun h => .box h
  · exact fun h => .gl h
  · exact .nil
  · exact fun _ _ a b => .cons a b
theorem reps_kp (e : Kp O H H') : ∀ {v x}, Reps G B O H v x → Reps G B O H' v x := by
  intro v x h
  induction v generalizing x with
  | nil => cases h; exact .nil
  | cons v vs ih => cases h with | cons a b => exact .cons (rep_kp e a) (ih b)
/-- fewer are barred -/
theorem rep_less (n : ∀ a, O' a → O a) : ∀ {v x}, Rep G B O H v x → Rep G B O' H v x := by
  intro v x h
  refine Rep.rec (motive_1 := fun v x _ => Rep G B O' H v x) (motive_2 := fun v x _ => Reps G B O' H v x) ?_ ?_ ?_ ?_ ?_ ?_ ?_ ?_ ?_ ?_ ?_ ?_ h
  · exact .non
  · exact .bl
  · exact .int
  · exact .str
  · exact .ty
  · exact fun h m _ ih => .tup h (fun z => m (n _ z)) ih
  · exact fun h m _ ih => .lst h (fun z => m (n _ z)) ih
  · exact fun h m _ ih => .xt h (fun z => m (n _ z)) ih
  · exact fun h => .box h
  · exact fun h => .gl h
  · exact .nil
  · exact fun _ _ a b => .cons a b
theorem reps_less (n : ∀ a, O' a → O a) : ∀ {v x}, Reps G B O H v x → Reps G B O' H v x := by
  intro v x h
  induction v generalizing x with
  | nil => cases h; exact .nil
  | cons v vs ih => cases h with | cons a b => exact .cons (rep_less n a) (ih b)
/-- barred: what is not tracked (a new address is barred by nobody) -/
theorem rep_bar (n : ∀ a, O' a → O a ∨ NN H a) : ∀ {v x}, Rep G B O H v x → Rep G B O' H v x := by
  intro v x h
  refine Rep.rec (motive_1 := fun v x _ => Rep G B O' H v x) (motive_2 := fun v x _ => Reps G B O' H v x) ?_ ?_ ?_ ?_ ?_ ?_ ?_ ?_ ?_ ?_ ?_ ?_ h
  · exact .non
  · exact .bl
  · exact .int
  · exact .str
  · exact .ty
  · refine fun {a vs xs} h m _ ih => .tup h (fun z => ?_) ih
    rcases n _ z with q | q
    · exact m q
    · rcases h with h | h
      · rcases h with h | ⟨o, h⟩
        · exact absurd nt_tup (q _ h)
        · exact absurd nt_frz (q _ h)
      · exact .inr h
  · refine fun {a vs xs} h m _ ih => .lst h (fun z => ?_) ih
    rcases n _ z with q | q
    · exact m q
    · exact absurd nt_lst (q _ h)
  · refine fun {a its n' vs xs} h m _ ih => .xt h (fun z => ?_) ih
    rcases n _ z with q | q
    · exact m q
    · exact absurd nt_frz (q _ h)
  · exact fun h => .box h
  · exact fun h => .gl h
  · exact .nil
  · exact fun _ _ a b => .cons a b
theorem reps_bar (n : ∀ a, O' a → O a ∨ NN H a) : ∀ {v x}, Reps G B O H v x → Reps G B O' H v x := by
  intro v x h
  induction v generalizing x with
  | nil => cases h; exact .nil
  | cons v vs ih => cases h with | cons a b => exact .cons (rep_bar n a) (ih b)
theorem Reps.length {vs : List V} {xs : List PV} (h : Reps G B O H vs xs) : vs.length = xs.length := by
  induction vs generalizing xs with
  | nil => cases h; rfl
  | cons v vs ih => cases h with | cons a b => simp [ih b]
theorem Reps.get {vs : List V} {xs : List PV} (h : Reps G B O H vs xs) {i : Nat} {x : PV} (e : xs[i]? = some x) : ∃ v, vs[i]? = some v ∧ Rep G B O H v x := by
  induction vs generalizing xs i with
  | nil => cases h; simp at e
  | cons v vs ih =>
    cases h with
    | cons a b =>
      cases i with
      | zero => simp at e; subst e; exact ⟨v, rfl, a⟩
      | succ i => simpa using ih b (by simpa using e)
theorem Reps.getV {vs : List V} {xs : List PV} (h : Reps G B O H vs xs) {i : Nat} {v : V} (e : vs[i]? = some v) : ∃ x, xs[i]? = some x ∧ Rep G B O H v x := by
  induction vs generalizing xs i with
  | nil => simp at e
  | cons v' vs ih =>
    cases h with
    | cons a b =>
      cases i with
      | zero => simp at e; subst e; exact ⟨_, rfl, a⟩
      | succ i => simpa using ih b (by simpa using e)
theorem Reps.append {vs ws : List V} {xs ys : List PV} (h : Reps G B O H vs xs) (k : Reps G B O H ws ys) : Reps G B O H (vs ++ ws) (xs ++ ys) := by
  induction vs generalizing xs with
  | nil => cases h; exact k
  | cons v vs ih => cases h with | cons a b => exact .cons a (ih b)
theorem Reps.take {vs : List V} {xs : List PV} (h : Reps G B O H vs xs) (n : Nat) : Reps G B O H (vs.take n) (xs.take n) := by
  induction vs generalizing xs n with
  | nil => cases h; simp; exact .nil
  | cons v vs ih =>
    cases h with
    | cons a b =>
      cases n with
      | zero => exact .nil
      | succ n => exact .cons a (ih b n)
theorem Reps.drop {vs : List V} {xs : List PV} (h : Reps G B O H vs xs) (n : Nat) : Reps G B O H (vs.drop n) (xs.drop n) := by
  induction vs generalizing xs n with
  | nil => cases h; simp; exact .nil
  | cons v vs ih =>
    cases h with
    | cons a b =>
      cases n with
      | zero => exact .cons a b
      | succ n => exact ih b n
theorem Reps.set {vs : List V} {xs : List PV} (h : Reps G B O H vs xs) (n : Nat) {v : V} {x : PV} (k : Rep G B O H v x) : Reps G B O H (vs.set n v) (xs.set n x) := by
  induction vs generalizing xs n with
  | nil => cases h; exact .nil
  | cons v vs ih =>
    cases h with
    | cons a b =>
      cases n with
      | zero => exact .cons k b
      | succ n => exact .cons a (ih b n)
theorem Reps.dropLast {vs : List V} {xs : List PV} (h : Reps G B O H vs xs) : Reps G B O H vs.dropLast xs.dropLast := by
  rw [List.dropLast_eq_take, List.dropLast_eq_take, h.length]
  exact h.take _
theorem Reps.rep {vs : List V} {xs : List PV} (h : Reps G B O H vs xs) (n : Nat) : Reps G B O H (List.replicate n vs).flatten (List.replicate n xs).flatten := by
  induction n with
  | zero => exact .nil
  | succ n ih => simp only [List.replicate_succ, List.flatten_cons]; exact h.append ih
theorem Reps.reverse {vs : List V} {xs : List PV} (h : Reps G B O H vs xs) : Reps G B O H vs.reverse xs.reverse := by
  induction vs generalizing xs with
  | nil => cases h; exact .nil
  | cons v vs ih => cases h with | cons a b => simp only [List.reverse_cons]; exact (ih b).append (.cons a .nil)

/-! ### the state of a def's names -/
/-- what a running def bars: what its callers own, what it owns itself -/
structure FC where
  B : Option Addr
  Oc : Addr → Prop
  H0 : Hp
  tl : List (Addr × Str)
def Own (env : En) (σ : L2.St) (a : Addr) : Prop := ∃ (i : Nat) (xs : List PV), env[i]? = some (.own xs) ∧ σ[i]? = some (some (.ref a))
def OO (F : FC) (env : En) (σ : L2.St) (a : Addr) : Prop := F.Oc a ∨ Own env σ a
def BoxOk (G : GC) (F : FC) (O : Addr → Prop) (H : Hp) (cup : Cup) : Prop := ∀ a, F.B = some a → ∃ vs, H a = some (.lst vs) ∧ Reps G F.B O H vs cup
/-- all but the box stands -/
def ExE (F : FC) (H H' : Hp) : Prop := ∀ a o, H a = some o → F.B ≠ some a → NT o → H' a = some o
theorem ExE.refl {F : FC} : ExE F H H := fun _ _ h _ _ => h
theorem ExE.trans {F : FC} (a : ExE F H H') (b : ExE F H' H1) : ExE F H H1 := fun x o h n t => b x o (a x o h n t) n t
theorem ExE.of_ex {F : FC} (e : Evl.Ex H H') : ExE F H H' := fun a o h _ _ => e a o h
/-- a list (or nothing) written anew: no table is touched -/
theorem tabs_upd {T : List (Addr × Str)} {D : Addr} {o : HO} (t : LamX.Tabs T H) (h : ∀ u, H D = some u → ∃ vs, u = .lst vs) : LamX.Tabs T (upd H D o) := fun p hp => by
  obtain ⟨ps, h1, h2, h3⟩ := t p hp
  have n1 : p.1 ≠ D := fun e => by
    rw [e] at h1
    obtain ⟨vs, z⟩ := h _ h1
    cases z
  refine ⟨ps, by rw [upd_ne n1]; exact h1, h2, fun pos cv hc => ?_⟩
  obtain ⟨c, e1, e2⟩ := h3 pos cv hc
  refine ⟨c, e1, ?_⟩
  have n2 : c ≠ D := fun e => by
    rw [e] at e2
    obtain ⟨vs, z⟩ := h _ e2
    cases z
  rw [upd_ne n2]
  exact e2
structure Ss (G : GC) (F : FC) (env : En) (cup : Cup) (σ : L2.St) (H : Hp) : Prop where
  len : env.length = σ.length
  va : ∀ (i : Nat) (x : PV), env[i]? = some (.va x) → ∃ v, σ[i]? = some (some v) ∧ Rep G F.B (OO F env σ) H v x
  own : ∀ (i : Nat) (xs : List PV), env[i]? = some (.own xs) → ∃ p vs, σ[i]? = some (some (.ref p)) ∧ H p = some (.lst vs) ∧ Reps G F.B (OO F env σ) H vs xs ∧ ¬ F.Oc p ∧ NN F.H0 p
  apart : ∀ (i j : Nat) (xs ys : List PV) (p : Addr), env[i]? = some (.own xs) → env[j]? = some (.own ys) → σ[i]? = some (some (.ref p)) → σ[j]? = some (some (.ref p)) → i = j
  box : BoxOk G F (OO F env σ) H cup
  trk : ∀ a, F.Oc a → ∃ o, H a = some o ∧ NT o
  bOc : ∀ a, F.B = some a → F.Oc a
  ent : ExE F F.H0 H
  tab : LamX.Tabs F.tl H
variable {F : FC} {env : En} {cup cup' : Cup} {σ : L2.St}
theorem Ss.oo_trk (S : Ss G F env cup σ H) {a : Addr} (h : OO F env σ a) : ∃ o, H a = some o ∧ NT o := by
  rcases h with h | ⟨i, xs, h, k⟩
  · exact S.trk a h
  · obtain ⟨p, vs, e1, e2, _⟩ := S.own i xs h
    rw [k] at e1; cases e1
    exact ⟨_, e2, nt_lst⟩
theorem Ss.freshN (S : Ss G F env cup σ H) {p : Addr} (h : NN H p) : ¬ OO F env σ p := fun z => by
  obtain ⟨o, e, t⟩ := S.oo_trk z
  exact h _ e t
theorem Ss.fresh (S : Ss G F env cup σ H) {p : Addr} (h : H p = none) : ¬ OO F env σ p := S.freshN (.of h)
theorem kp_oo (S : Ss G F env cup σ H) (e : ExE F H H') : Kp (OO F env σ) H H' := fun a o h n t => e a o h (fun z => n (.inl (S.bOc a z))) t
/-- the heap grows, the box may have changed -/
theorem Ss.ext (S : Ss G F env cup σ H) (e : ExE F H H') (b : BoxOk G F (OO F env σ) H' cup') (t : LamX.Tabs F.tl H') : Ss G F env cup' σ H' := by
  have k := kp_oo S e
  refine ⟨S.len, fun i x h => ?_, fun i xs h => ?_, S.apart, b, fun a h => ?_, S.bOc, S.ent.trans e, t⟩
  · obtain ⟨v, h1, h2⟩ := S.va i x h
    exact ⟨v, h1, rep_kp k h2⟩
  · obtain ⟨p, vs, h1, h2, h3, h4, h5⟩ := S.own i xs h
    exact ⟨p, vs, h1, e p _ h2 (fun z => h4 (S.bOc p z)) nt_lst, reps_kp k h3, h4, h5⟩
  · by_cases hb : F.B = some a
    · obtain ⟨vs, h1, _⟩ := b a hb
      exact ⟨_, h1, nt_lst⟩
    · obtain ⟨o, ho, t⟩ := S.trk a h
      exact ⟨o, e a o ho hb t, t⟩
theorem Ss.ex (S : Ss G F env cup σ H) (e : Evl.Ex H H') : Ss G F env cup σ H' := by
  refine S.ext (ExE.of_ex e) (fun a h => ?_) (S.tab.ext e)
  obtain ⟨vs, h1, h2⟩ := S.box a h
  exact ⟨vs, e a _ h1, reps_kp (Kp.of_ex e) h2⟩

/-! ### readings -/
/-- the class that bears the name c -/
def wx (G : GC) (W : WX) (c : Str) (σ : L2.St) (H : Hp) : Prop := ∀ a, G.mg c = some (.ref a) → W (.ref a) none σ H
/-- borrowed: the list of a name of one's own, too -/
def RepB (G : GC) (F : FC) (env : En) (σ : L2.St) (H : Hp) (v : V) (x : PV) : Prop :=
  Rep G F.B (OO F env σ) H v x ∨ ∃ p vs xs, v = .ref p ∧ x = .lst xs ∧ H p = some (.lst vs) ∧ F.B ≠ some p ∧ Reps G F.B (OO F env σ) H vs xs
def Post (G : GC) (F : FC) (W : WX) (P : PV → V → Hp → Prop) (env : En) (σ : L2.St) (H : Hp) (Q : VK) : R → Prop
  | .ok x cup' => ∀ v H', Ss G F env cup' σ H' → ExE F H H' → P x v H' → Q v H'
  | .exc c cup' => ∀ H', Ss G F env cup' σ H' → ExE F H H' → wx G W c σ H'
  | .stuck => False
def tE (G : GC) (F : FC) (W : WX) (d : E) : TE := fun σ H Q => ∃ env cup, Ss G F env cup σ H ∧ Post G F W (fun x v H' => Rep G F.B (OO F env σ) H' v x) env σ H Q (d env cup)
def tEB (G : GC) (F : FC) (W : WX) (d : E) : TE := fun σ H Q => ∃ env cup, Ss G F env cup σ H ∧ Post G F W (fun x v H' => RepB G F env σ H' v x) env σ H Q (d env cup)
theorem RepB.ex (S : Ss G F env cup σ H) {v : V} {x : PV} (h : RepB G F env σ H v x) (e : ExE F H H') : RepB G F env σ H' v x := by
  rcases h with h | ⟨p, vs, xs, rfl, rfl, h1, h2, h3⟩
  · exact .inl (rep_kp (kp_oo S e) h)
  · exact .inr ⟨p, vs, xs, rfl, rfl, e p _ h1 h2 nt_lst, h2, reps_kp (kp_oo S e) h3⟩
theorem PE.imp {X : Cx} {e : Expr} {t t' : TE} (h : PE X e t) (i : ∀ σ H Q, t' σ H Q → t σ H Q) : PE X e t' := ⟨fun pins s σ H Q I hq => h.run pins s σ H Q I (i σ H Q hq)⟩
theorem PA.imp {X : Cx} {e : List Expr} {t t' : TA} (h : PA X e t) (i : ∀ σ H Q, t' σ H Q → t σ H Q) : PA X e t' := ⟨fun pos pins s σ H Q I hq => h.run pos pins s σ H Q I (i σ H Q hq)⟩
theorem PT.imp {X : Cx} {e : Expr} {t t' : TT} (h : PT X e t) (i : ∀ σ H Q, t' σ H Q → t σ H Q) : PT X e t' := ⟨fun pins s σ H Q I hq => h.run pins s σ H Q I (i σ H Q hq)⟩
theorem PS.imp {X : Cx} {e : Stmt} {t t' : TS} (h : PS X e t) (i : ∀ D σ H, t' D σ H → t D σ H) : PS X e t' := ⟨fun pins s σ H D I hq => h.run pins s σ H D I (i D σ H hq)⟩
theorem PSs.imp {X : Cx} {e : List Stmt} {t t' : TS} (h : PSs X e t) (i : ∀ D σ H, t' D σ H → t D σ H) : PSs X e t' := ⟨fun pins s σ H D I hq => h.run pins s σ H D I (i D σ H hq)⟩
theorem PE.weakB {X : Cx} {e : Expr} {W : WX} {d : E} (h : PE X e (tE G F W d)) : PE X e (tEB G F W d) := PE.imp h fun σ H Q ⟨env, cup, S, q⟩ => ⟨env, cup, S, by
  revert q
  cases d env cup with
  | ok x c => exact fun q v H' S' e' r => q v H' S' e' (.inl r)
  | exc c k => exact fun q => q
  | stuck => exact fun q => q⟩
end RX
set_option maxHeartbeats 4000000
namespace RX
open PySem L2
variable {G : GC} {B : Option Addr} {O O' : Addr → Prop} {H H' H1 : Hp}
variable {F : FC} {env : En} {cup cup' : Cup} {σ : L2.St} {X : Cx} {W : WX}

/-! ### posts -/
def PostA {α : Type} (G : GC) (F : FC) (W : WX) (P : PV → α → Hp → Prop) (env : En) (σ : L2.St) (H : Hp) (Q : α → Hp → Prop) : R → Prop
  | .ok x cup' => ∀ v H', Ss G F env cup' σ H' → ExE F H H' → P x v H' → Q v H'
  | .exc c cup' => ∀ H', Ss G F env cup' σ H' → ExE F H H' → wx G W c σ H'
  | .stuck => False
theorem PostA.mono {α : Type} {P : PV → α → Hp → Prop} {Q : α → Hp → Prop} {r : R} (h : PostA G F W P env σ H Q r) (e : ExE F H H1) : PostA G F W P env σ H1 Q r := by
  cases r with
  | ok x c => exact fun v H' S e' p => h v H' S (e.trans e') p
  | exc c k => exact fun H' S e' => h H' S (e.trans e')
  | stuck => exact h
/-- a, then k of it -/
def bindE (a : E) (k : PV → E) : E := fun env c => match a env c with
  | .ok x c => k x env c
  | .exc k c => .exc k c
  | .stuck => .stuck
theorem post_bind {α β : Type} {P : PV → β → Hp → Prop} {Pa : PV → α → Hp → Prop} {Q : β → Hp → Prop} {Q1 : α → Hp → Prop} {a : E} {k : PV → E} (h : PostA G F W P env σ H Q (bindE a k env cup))
    (hk : ∀ x cup1 v H1, Ss G F env cup1 σ H1 → ExE F H H1 → Pa x v H1 → PostA G F W P env σ H1 Q (k x env cup1) → Q1 v H1) : PostA G F W Pa env σ H Q1 (a env cup) := by
  unfold bindE at h
  cases e : a env cup with
  | ok x c => rw [e] at h; exact fun v H' S e' p => hk x c v H' S e' p (PostA.mono h e')
  | exc c k => rw [e] at h; exact h
  | stuck => rw [e] at h; exact h
abbrev RB (G : GC) (B : Option Addr) (O : Addr → Prop) (H : Hp) (v : V) (x : PV) : Prop :=
  Rep G B O H v x ∨ ∃ p vs xs, v = .ref p ∧ x = .lst xs ∧ H p = some (.lst vs) ∧ B ≠ some p ∧ Reps G B O H vs xs
abbrev tD (G : GC) (F : FC) (W : WX) (d : E) : TE := fun σ H Q => ∃ env cup, Ss G F env cup σ H ∧ PostA G F W (fun x v H' => Rep G F.B (OO F env σ) H' v x) env σ H Q (d env cup)
abbrev tDB (G : GC) (F : FC) (W : WX) (d : E) : TE := fun σ H Q => ∃ env cup, Ss G F env cup σ H ∧ PostA G F W (fun x v H' => RB G F.B (OO F env σ) H' v x) env σ H Q (d env cup)
/-- a list of arguments: their values as a tuple -/
abbrev tDA (G : GC) (F : FC) (W : WX) (d : E) : TA := fun σ H Q => ∃ env cup, Ss G F env cup σ H ∧ PostA G F W (fun x vs H' => ∃ xs, x = .tup xs ∧ Reps G F.B (OO F env σ) H' vs xs) env σ H Q (d env cup)
theorem PostA.imp {α : Type} {P P' : PV → α → Hp → Prop} {Q : α → Hp → Prop} {r : R} (h : PostA G F W P env σ H Q r) (i : ∀ x v H', P' x v H' → P x v H') : PostA G F W P' env σ H Q r := by
  cases r with
  | ok x c => exact fun v H' S e' p => h v H' S e' (i _ _ _ p)
  | exc c k => exact h
  | stuck => exact h
theorem PostA.impQ {α : Type} {P : PV → α → Hp → Prop} {Q Q' : α → Hp → Prop} {r : R} (h : PostA G F W P env σ H Q r) (i : ∀ v H', Q v H' → Q' v H') : PostA G F W P env σ H Q' r := by
  cases r with
  | ok x c => exact fun v H' S e' p => i _ _ (h v H' S e' p)
  | exc c k => exact h
  | stuck => exact h
theorem weakB {e : Expr} {d : E} (h : PE X e (tD G F W d)) : PE X e (tDB G F W d) := PE.imp h fun σ H Q ⟨env, cup, S, q⟩ => ⟨env, cup, S, q.imp fun _ _ _ r => .inl r⟩
theorem RB.kp {v : V} {x : PV} (h : RB G B O H v x) (e : Kp O H H') (e2 : ∀ a o, H a = some o → B ≠ some a → NT o → H' a = some o) : RB G B O H' v x := by
  rcases h with h | ⟨p, vs, xs, rfl, rfl, h1, h2, h3⟩
  · exact .inl (rep_kp e h)
  · exact .inr ⟨p, vs, xs, rfl, rfl, e2 p _ h1 h2 nt_lst, h2, reps_kp e h3⟩
theorem RB.keep (S : Ss G F env cup σ H) {v : V} {x : PV} (h : RB G F.B (OO F env σ) H v x) (e : ExE F H H') : RB G F.B (OO F env σ) H' v x := h.kp (kp_oo S e) e

/-! ### what a value-level operation gives -/
/-- the barred are tracked -/
abbrev Trk (O : Addr → Prop) (H : Hp) : Prop := ∀ a, O a → ∃ o, H a = some o ∧ NT o
abbrev rOp (G : GC) (B : Option Addr) (f : PV → PV → Option PV) : R2 := fun x y H Q => ∃ O px py z, RB G B O H x px ∧ RB G B O H y py ∧ f px py = some z ∧ Trk O H ∧ ∀ v H', Evl.Ex H H' → Rep G B O H' v z → Q v H'
def Op2 (X : Cx) (G : GC) (g : Value → Value → Sem Value) (f : PV → PV → Option PV) : Prop := ∀ B, OpR X g (rOp G B f)
abbrev rUn (G : GC) (B : Option Addr) (f : PV → Option PV) : V → Hp → VK → Prop := fun x H Q => ∃ O px z, RB G B O H x px ∧ f px = some z ∧ Trk O H ∧ ∀ v H', Evl.Ex H H' → Rep G B O H' v z → Q v H'
def ofO (o : Option PV) : E := fun _ c => match o with
  | some z => .ok z c
  | none => .stuck
def dBin (f : PV → PV → Option PV) (a b : E) : E := bindE a fun x => bindE b fun y => ofO (f x y)
theorem post_ofO {P : PV → V → Hp → Prop} {Q : VK} {o : Option PV} (h : PostA G F W P env σ H Q (ofO o env cup)) (S : Ss G F env cup σ H) : ∃ z, o = some z ∧ ∀ v H', Evl.Ex H H' → P z v H' → Q v H' := by
  unfold ofO at h
  cases o with
  | none => exact False.elim h
  | some z => exact ⟨z, rfl, fun v H' e p => h v H' (S.ex e) (ExE.of_ex e) p⟩
/-- two operands, an operation -/
theorem pe_bin2 {f : PV → PV → Option PV} {e : Expr} {da db : E} (k : PE X e (tOp (rOp G F.B f) (tDB G F W da) (tDB G F W db))) : PE X e (tD G F W (dBin f da db)) :=
  PE.imp k fun σ H Q ⟨env, cup, S, q⟩ => ⟨env, cup, S, post_bind q fun x cup1 v H1 S1 e1 p1 q1 => ⟨env, cup1, S1, post_bind q1 fun y cup2 w H2 S2 e2 p2 q2 => by
    obtain ⟨z, hz, kk⟩ := post_ofO q2 S2
    exact ⟨OO F env σ, x, y, z, RB.keep S1 p1 e2, p2, hz, fun a h => S2.oo_trk h, kk⟩⟩⟩
def dUn (f : PV → Option PV) (a : E) : E := bindE a fun x => ofO (f x)
theorem pe_un2 {f : PV → Option PV} {e : Expr} {da : E} (k : PE X e (tUn (rUn G F.B f) (tDB G F W da))) : PE X e (tD G F W (dUn f da)) :=
  PE.imp k fun σ H Q ⟨env, cup, S, q⟩ => ⟨env, cup, S, post_bind q fun x cup1 v H1 S1 e1 p1 q1 => by
    obtain ⟨z, hz, kk⟩ := post_ofO q1 S1
    exact ⟨OO F env σ, x, z, p1, hz, fun a h => S1.oo_trk h, kk⟩⟩

/-! ### names, constants -/
def getS : En → Nat → Sl
  | [], _ => .no
  | s :: _, 0 => s
  | _ :: r, n + 1 => getS r n
theorem getS_va : ∀ {env : En} {i : Nat} {x : PV}, getS env i = .va x → env[i]? = some (.va x)
  | [], _, _, h => by cases h
  | s :: _, 0, _, h => by simpa [getS] using h
  | _ :: r, n + 1, _, h => by simpa using getS_va (env := r) h
theorem getS_own : ∀ {env : En} {i : Nat} {x : List PV}, getS env i = .own x → env[i]? = some (.own x)
  | [], _, _, h => by cases h
  | s :: _, 0, _, h => by simpa [getS] using h
  | _ :: r, n + 1, _, h => by simpa using getS_own (env := r) h
def slV : Sl → Cup → R
  | .va v, c => .ok v c
  | _, _ => .stuck
def slB : Sl → Cup → R
  | .va v, c => .ok v c
  | .own xs, c => .ok (.lst xs) c
  | .no, _ => .stuck
def dVar (i : Nat) : E := fun env c => slV (getS env i) c
def dVarB (i : Nat) : E := fun env c => slB (getS env i) c
def dC (x : PV) : E := fun _ c => .ok x c
theorem pd_var {i : Nat} {e : Expr} (h : PE X e (tVar i)) : PE X e (tD G F W (dVar i)) := PE.imp h fun σ H Q ⟨env, cup, S, q⟩ => by
  unfold dVar at q
  cases e : getS env i with
  | no => rw [e] at q; exact False.elim q
  | own xs => rw [e] at q; exact False.elim q
  | va x =>
    rw [e] at q
    obtain ⟨v, h1, h2⟩ := S.va i x (getS_va e)
    exact ⟨v, h1, q v H S ExE.refl h2⟩
theorem pd_varB {i : Nat} {e : Expr} (h : PE X e (tVar i)) : PE X e (tDB G F W (dVarB i)) := PE.imp h fun σ H Q ⟨env, cup, S, q⟩ => by
  unfold dVarB at q
  cases e : getS env i with
  | no => rw [e] at q; exact False.elim q
  | own xs =>
    rw [e] at q
    obtain ⟨p, vs, h1, h2, h3, h4, h5⟩ := S.own i xs (getS_own e)
    exact ⟨_, h1, q (.ref p) H S ExE.refl (.inr ⟨p, vs, xs, rfl, rfl, h2, fun z => h4 (S.bOc p z), h3⟩)⟩
  | va x =>
    rw [e] at q
    obtain ⟨v, h1, h2⟩ := S.va i x (getS_va e)
    exact ⟨v, h1, q v H S ExE.refl (.inl h2)⟩
theorem pd_c {x : PV} {v : V} {e : Expr} (h : PE X e (tC v)) (r : ∀ B O H, Rep G B O H v x) : PE X e (tD G F W (dC x)) := PE.imp h fun σ H Q ⟨env, cup, S, q⟩ => q v H S ExE.refl (r _ _ _)

/-! ### argument lists, displays -/
def dNil : E := dC (.tup [])
def consT (x : PV) : PV → Option PV
  | .tup xs => some (.tup (x :: xs))
  | _ => none
def dCons (a r : E) : E := bindE a fun x => bindE r fun y => ofO (consT x y)
theorem pda_nil : PA X [] (tDA G F W dNil) := PA.imp pa_nil fun σ H Q ⟨env, cup, S, q⟩ => q [] H S ExE.refl ⟨[], rfl, .nil⟩
theorem post_ofOA {α : Type} {P : PV → α → Hp → Prop} {Q : α → Hp → Prop} {o : Option PV} (h : PostA G F W P env σ H Q (ofO o env cup)) (S : Ss G F env cup σ H) : ∃ z, o = some z ∧ ∀ v H', Evl.Ex H H' → P z v H' → Q v H' := by
  unfold ofO at h
  cases o with
  | none => exact False.elim h
  | some z => exact ⟨z, rfl, fun v H' e p => h v H' (S.ex e) (ExE.of_ex e) p⟩
theorem pda_cons {e : Expr} {es : List Expr} {d ds : E} (h : PE X e (tD G F W d)) (hs : PA X es (tDA G F W ds)) (st : starEach (e :: es) X.env = (false, eval e X.env) :: starEach es X.env) : PA X (e :: es) (tDA G F W (dCons d ds)) :=
  PA.imp (pa_cons h hs st) fun σ H Q ⟨env, cup, S, q⟩ => ⟨env, cup, S, post_bind q fun x cup1 v H1 S1 e1 p1 q1 => ⟨env, cup1, S1, post_bind q1 fun y cup2 ws H2 S2 e2 p2 q2 => by
    obtain ⟨z, hz, kk⟩ := post_ofOA q2 S2
    obtain ⟨xs, rfl, rs⟩ := p2
    cases hz
    exact kk _ H2 (Evl.Ex.refl _) ⟨_, rfl, .cons (rep_kp (kp_oo S1 e2) p1) rs⟩⟩⟩
def lenOk (xs : List PV) : Bool := Nat.ble xs.length 1000000
theorem lenOk_le {xs : List PV} (h : lenOk xs = true) : xs.length ≤ 1000000 := Nat.le_of_ble_eq_true h
theorem le_line {n : Nat} (h : n ≤ 1000000) : n ≤ sizeLine := by rw [sizeLine_eq]; omega
theorem lt_line {n : Nat} (h : n ≤ 1000000) : n < sizeLine := by rw [sizeLine_eq]; omega
def mkT : PV → Option PV
  | .tup xs => bif lenOk xs then some (.tup xs) else none
  | _ => none
def mkL : PV → Option PV
  | .tup xs => bif lenOk xs then some (.lst xs) else none
  | _ => none
def dTup (ds : E) : E := bindE ds fun x => ofO (mkT x)
def dLst (ds : E) : E := bindE ds fun x => ofO (mkL x)
theorem mkT_some {x z : PV} (h : mkT x = some z) : ∃ xs, x = .tup xs ∧ z = .tup xs ∧ xs.length ≤ 1000000 := by
  cases x with
  | tup xs =>
    simp only [mkT] at h
    cases e : lenOk xs with
    | true => rw [e] at h; cases h; exact ⟨xs, rfl, rfl, lenOk_le e⟩
    | false => rw [e] at h; cases h
  | _ => cases h
theorem mkL_some {x z : PV} (h : mkL x = some z) : ∃ xs, x = .tup xs ∧ z = .lst xs ∧ xs.length ≤ 1000000 := by
  cases x with
  | tup xs =>
    simp only [mkL] at h
    cases e : lenOk xs with
    | true => rw [e] at h; cases h; exact ⟨xs, rfl, rfl, lenOk_le e⟩
    | false => rw [e] at h; cases h
  | _ => cases h
theorem rep_newT {p : Addr} {vs : List V} {xs : List PV} (t : Trk O H) (hp : H p = none) (r : Reps G B O H vs xs) : Rep G B O (upd H p (.tup vs)) (.ref p) (.tup xs) :=
  .tup (.inl (.inl upd_same)) (fun z => by obtain ⟨o, e, _⟩ := t p z; rw [hp] at e; cases e) (reps_kp (Kp.of_ex (Evl.Ex.new hp)) r)
theorem rep_newL {p : Addr} {vs : List V} {xs : List PV} (t : Trk O H) (hp : H p = none) (r : Reps G B O H vs xs) : Rep G B O (upd H p (.lst vs)) (.ref p) (.lst xs) :=
  .lst upd_same (fun z => by obtain ⟨o, e, _⟩ := t p z; rw [hp] at e; cases e) (reps_kp (Kp.of_ex (Evl.Ex.new hp)) r)
theorem pd_tup {es : List Expr} {ds : E} {k : Nat} {pos : Pos} (h : PA X es (tDA G F W ds)) : PE X (.Tuple es k pos) (tD G F W (dTup ds)) :=
  PE.imp (pe_tup h) fun σ H Q ⟨env, cup, S, q⟩ => ⟨env, cup, S, post_bind q fun x cup1 vs H1 S1 e1 p1 q1 => by
    obtain ⟨z, hz, kk⟩ := post_ofO q1 S1
    obtain ⟨xs, rfl, rs⟩ := p1
    obtain ⟨_, e, rfl, hl⟩ := mkT_some hz
    cases e
    exact ⟨by rw [rs.length]; exact le_line hl, fun p hp => kk _ _ (Evl.Ex.new hp) (rep_newT (fun a h => S1.oo_trk h) hp rs)⟩⟩
theorem pd_lst {es : List Expr} {ds : E} {pos : Pos} (h : PA X es (tDA G F W ds)) : PE X (.List es pos) (tD G F W (dLst ds)) :=
  PE.imp (pe_lst h) fun σ H Q ⟨env, cup, S, q⟩ => ⟨env, cup, S, post_bind q fun x cup1 vs H1 S1 e1 p1 q1 => by
    obtain ⟨z, hz, kk⟩ := post_ofO q1 S1
    obtain ⟨xs, rfl, rs⟩ := p1
    obtain ⟨_, e, rfl, hl⟩ := mkL_some hz
    cases e
    exact ⟨by rw [rs.length]; exact le_line hl, fun p hp => kk _ _ (Evl.Ex.new hp) (rep_newL (fun a h => S1.oo_trk h) hp rs)⟩⟩

/-! ### tests -/
def truthy : PV → Option Bool
  | .bl b => some b
  | .int i => some (!decide (i = 0))
  | .lst xs => some (!xs.isEmpty)
  | .tup xs => some (!xs.isEmpty)
  | .non => some false
  | .str x => bif Nat.ble x.length 1000000 then some (!decide (x.length = 0)) else none
  | _ => none
/-- a test: its outcome as a bool -/
abbrev tDT (G : GC) (F : FC) (W : WX) (d : E) : TT := fun σ H Q => ∃ env cup, Ss G F env cup σ H ∧ PostA G F W (fun x b H' => x = .bl b) env σ H Q (d env cup)
end RX
set_option maxHeartbeats 4000000
namespace RX
open PySem L2
variable {G : GC} {B : Option Addr} {O O' : Addr → Prop} {H H' H1 : Hp} {X : Cx}
abbrev gOf (X : Cx) : GC := ⟨X.K, X.mg⟩

/-! ### what is borrowed, read -/
theorem RB.int_of {v : V} {i : Int} (h : RB G B O H v (.int i)) : v = .int i := by
  rcases h with h | ⟨_, _, _, _, h, _⟩
  · cases h; rfl
  · cases h
theorem RB.bl_of {v : V} {i : Bool} (h : RB G B O H v (.bl i)) : v = .bl i := by
  rcases h with h | ⟨_, _, _, _, h, _⟩
  · cases h; rfl
  · cases h
theorem RB.str_of {v : V} {i : Str} (h : RB G B O H v (.str i)) : v = .str i := by
  rcases h with h | ⟨_, _, _, _, h, _⟩
  · cases h; rfl
  · cases h
theorem RB.non_of {v : V} (h : RB G B O H v .non) : v = .non := by
  rcases h with h | ⟨_, _, _, _, h, _⟩
  · cases h; rfl
  · cases h
theorem RB.tup_of {v : V} {xs : List PV} (h : RB G B O H v (.tup xs)) : ∃ a vs, v = .ref a ∧ SqT G.K H a vs ∧ Reps G B O H vs xs := by
  rcases h with h | ⟨_, _, _, _, h, _⟩
  · cases h with
    | tup h1 h2 h3 => exact ⟨_, _, rfl, h1, h3⟩
  · cases h
theorem RB.lst_of {v : V} {xs : List PV} (h : RB G B O H v (.lst xs)) : ∃ a vs, v = .ref a ∧ H a = some (.lst vs) ∧ Reps G B O H vs xs := by
  rcases h with h | ⟨p, vs, xs', e, h, h1, h2, h3⟩
  · cases h with
    | lst h1 h2 h3 => exact ⟨_, _, rfl, h1, h3⟩
  · cases h; exact ⟨p, vs, e, h1, h3⟩
theorem RB.rep_tup {v : V} {xs : List PV} (h : RB G B O H v (.tup xs)) : Rep G B O H v (.tup xs) := by
  rcases h with h | ⟨_, _, _, _, h, _⟩
  · exact h
  · cases h

/-! ### arithmetic -/
def small64 (i : Int) : Bool := decide (-18446744073709551616 < i) && decide (i < 18446744073709551616)
def small63 (i : Int) : Bool := decide (-9223372036854775808 ≤ i) && decide (i < 9223372036854775808)
theorem small64_ok {i : Int} (h : small64 i = true) : -(2 ^ 64) < i ∧ i < 2 ^ 64 := by
  unfold small64 at h
  rw [Bool.and_eq_true, decide_eq_true_eq, decide_eq_true_eq] at h
  omega
theorem small63_ok {i : Int} (h : small63 i = true) : -(2 ^ 63) ≤ i ∧ i < 2 ^ 63 := by
  unfold small63 at h
  rw [Bool.and_eq_true, decide_eq_true_eq, decide_eq_true_eq] at h
  omega
def okLen (n : Nat) (x : PV) : Option PV := bif Nat.ble n 1000000 then some x else none
theorem okLen_some {n : Nat} {x z : PV} (h : okLen n x = some z) : z = x ∧ n ≤ 1000000 := by
  unfold okLen at h
  cases e : Nat.ble n 1000000 with
  | true => rw [e] at h; cases h; exact ⟨rfl, Nat.le_of_ble_eq_true e⟩
  | false => rw [e] at h; cases h
def oAdd : PV → PV → Option PV
  | .int i, .int j => some (.int (i + j))
  | .lst xs, .lst ys => okLen (xs.length + ys.length) (.lst (xs ++ ys))
  | .tup xs, .tup ys => okLen (xs.length + ys.length) (.tup (xs ++ ys))
  | .str x, .str y => okLen (x.length + y.length) (.str (x ++ y))
  | _, _ => none
theorem op_add2 : Op2 X (gOf X) (binaryOp .Add) oAdd := by
  intro B pins s σ H x y v u Q I rx ry ⟨O, px, py, z, h1, h2, hf, t, k⟩
  cases px with
  | int i =>
    cases py with
    | int j =>
      cases hf
      cases h1.int_of; cases h2.int_of
      exact op_add pins s σ H _ _ v u Q I rx ry ⟨i, j, rfl, rfl, k _ H (Evl.Ex.refl _) (.int _)⟩
    | _ => cases hf
  | str a =>
    cases py with
    | str b =>
      obtain ⟨rfl, hl⟩ := okLen_some hf
      cases h1.str_of; cases h2.str_of
      exact op_add_str pins s σ H _ _ v u Q I rx ry ⟨a, b, rfl, rfl, le_line hl, k _ H (Evl.Ex.refl _) (.str _)⟩
    | _ => cases hf
  | lst xs =>
    cases py with
    | lst ys =>
      obtain ⟨rfl, hl⟩ := okLen_some hf
      obtain ⟨a, vs, rfl, ha, ra⟩ := h1.lst_of
      obtain ⟨b, ws, rfl, hb, rb⟩ := h2.lst_of
      exact op_cat pins s σ H _ _ v u Q I rx ry ⟨a, b, vs, ws, rfl, rfl, ha, hb, by rw [ra.length, rb.length]; exact le_line hl, fun p hp => k _ _ (Evl.Ex.new hp) (rep_newL t hp (ra.append rb))⟩
    | _ => cases hf
  | tup xs =>
    cases py with
    | tup ys =>
      obtain ⟨rfl, hl⟩ := okLen_some hf
      obtain ⟨a, vs, rfl, ha, ra⟩ := h1.tup_of
      obtain ⟨b, ws, rfl, hb, rb⟩ := h2.tup_of
      refine op_catA pins s σ H _ _ v u Q I rx ry ⟨a, b, vs, ws, rfl, rfl, ha, hb, by rw [ra.length, rb.length]; exact le_line hl, fun e => ?_, fun _ e => ?_, fun _ _ p hp => k _ _ (Evl.Ex.new hp) (rep_newT t hp (ra.append rb))⟩
      · subst e
        cases ra
        exact k _ H (Evl.Ex.refl _) h2.rep_tup
      · subst e
        cases rb
        refine k _ H (Evl.Ex.refl _) ?_
        rw [List.append_nil]
        exact h1.rep_tup
    | _ => cases hf
  | _ => cases hf
/-- ints alone, where C holds -/
def oI (C : Int → Int → Bool) (g : Int → Int → PV) : PV → PV → Option PV
  | .int i, .int j => bif C i j then some (g i j) else none
  | _, _ => none
theorem oI_some {C : Int → Int → Bool} {g : Int → Int → PV} {x y z : PV} (h : oI C g x y = some z) : ∃ i j, x = .int i ∧ y = .int j ∧ C i j = true ∧ z = g i j := by
  cases x with
  | int i =>
    cases y with
    | int j =>
      simp only [oI] at h
      cases e : C i j with
      | true => rw [e] at h; cases h; exact ⟨i, j, rfl, rfl, e, rfl⟩
      | false => rw [e] at h; cases h
    | _ => cases h
  | _ => cases h
theorem op_I {g : Value → Value → Sem Value} {C : Int → Int → Bool} {f : Int → Int → PV} {CP : Int → Int → Prop} {fv : Int → Int → V} (ho : OpR X g (rI CP fv)) (hC : ∀ i j, C i j = true → CP i j) (hr : ∀ B O H i j, Rep (gOf X) B O H (fv i j) (f i j)) : Op2 X (gOf X) g (oI C f) := by
  intro B pins s σ H x y v u Q I rx ry ⟨O, px, py, z, h1, h2, hf, t, k⟩
  obtain ⟨i, j, rfl, rfl, c, rfl⟩ := oI_some hf
  cases h1.int_of; cases h2.int_of
  exact ho pins s σ H _ _ v u Q I rx ry ⟨i, j, rfl, rfl, hC i j c, k _ H (Evl.Ex.refl _) (hr _ _ _ i j)⟩
theorem op_I0 {g : Value → Value → Sem Value} {f : Int → Int → PV} {fv : Int → Int → V} (ho : OpR X g (rI0 fv)) (hr : ∀ B O H i j, Rep (gOf X) B O H (fv i j) (f i j)) : Op2 X (gOf X) g (oI (fun _ _ => true) f) := by
  intro B pins s σ H x y v u Q I rx ry ⟨O, px, py, z, h1, h2, hf, t, k⟩
  obtain ⟨i, j, rfl, rfl, c, rfl⟩ := oI_some hf
  cases h1.int_of; cases h2.int_of
  exact ho pins s σ H _ _ v u Q I rx ry ⟨i, j, rfl, rfl, k _ H (Evl.Ex.refl _) (hr _ _ _ i j)⟩
def oSub := oI (fun _ _ => true) fun i j => .int (i - j)
theorem op_sub2 : Op2 X (gOf X) (binaryOp .Sub) oSub := op_I0 op_sub fun _ _ _ _ _ => .int _
def cDiv (i j : Int) : Bool := decide (0 < j) && decide (j < 1073741824)
def oFdiv := oI cDiv fun i j => .int (i / j)
theorem op_fdiv2 : Op2 X (gOf X) (binaryOp .FloorDiv) oFdiv := op_I op_fdiv (fun i j h => by
  unfold cDiv at h
  rw [Bool.and_eq_true, decide_eq_true_eq, decide_eq_true_eq] at h
  exact h) fun _ _ _ _ _ => .int _
def oMod := oI (fun _ j => decide (0 < j)) fun i j => .int (i % j)
theorem op_mod2 : Op2 X (gOf X) (binaryOp .Mod) oMod := op_I op_mod (fun i j h => of_decide_eq_true h) fun _ _ _ _ _ => .int _
def cPow (i j : Int) : Bool := decide (0 ≤ j) && decide (j ≤ 1000000) && Nat.blt i.natAbs 18446744073709551616
theorem cPow_ok {i j : Int} (h : cPow i j = true) : CPow i j := by
  unfold cPow at h
  rw [Bool.and_eq_true, Bool.and_eq_true, decide_eq_true_eq, decide_eq_true_eq] at h
  have h3 : i.natAbs < 18446744073709551616 := by
    have := h.2
    unfold Nat.blt at this
    exact Nat.le_of_ble_eq_true this
  exact ⟨h.1.1, h.1.2, by omega⟩
def oShl := oI cPow fun i j => .int (i * 2 ^ j.toNat)
theorem op_shl2 : Op2 X (gOf X) (binaryOp .LShift) oShl := op_I op_shl (fun _ _ => cPow_ok) fun _ _ _ _ _ => .int _
def oPow := oI cPow fun i j => .int (i ^ j.toNat)
theorem op_pow2 : Op2 X (gOf X) (binaryOp .Pow) oPow := op_I op_pow (fun _ _ => cPow_ok) fun _ _ _ _ _ => .int _
def oShr := oI (fun _ j => decide (0 ≤ j)) fun i j => .int (i / 2 ^ j.toNat)
theorem op_shr2 : Op2 X (gOf X) (binaryOp .RShift) oShr := op_I op_shr (fun _ _ h => of_decide_eq_true h) fun _ _ _ _ _ => .int _
def oAnd := oI (fun _ _ => true) fun i j => .int (Builtin.bitAnd i j)
theorem op_and2 : Op2 X (gOf X) (binaryOp .BitAnd) oAnd := op_I0 op_and fun _ _ _ _ _ => .int _
def oOr := oI (fun _ _ => true) fun i j => .int (Builtin.bitOr i j)
theorem op_or2 : Op2 X (gOf X) (binaryOp .BitOr) oOr := op_I0 op_or fun _ _ _ _ _ => .int _
def oXor := oI (fun _ _ => true) fun i j => .int (Builtin.bitXor i j)
theorem op_xor2 : Op2 X (gOf X) (binaryOp .BitXor) oXor := op_I0 op_xor fun _ _ _ _ _ => .int _
def oLt := oI (fun _ _ => true) fun i j => .bl (decide (i < j))
theorem op_lt2 : Op2 X (gOf X) (compareOp .Lt) oLt := op_I0 op_lt fun _ _ _ _ _ => .bl _
def oLe := oI (fun _ _ => true) fun i j => .bl (decide (i ≤ j))
theorem op_le2 : Op2 X (gOf X) (compareOp .LtE) oLe := op_I0 op_le fun _ _ _ _ _ => .bl _
def oGt := oI (fun _ _ => true) fun i j => .bl (decide (j < i))
theorem op_gt2 : Op2 X (gOf X) (compareOp .Gt) oGt := op_I0 op_gt fun _ _ _ _ _ => .bl _
def oGe := oI (fun _ _ => true) fun i j => .bl (decide (j ≤ i))
theorem op_ge2 : Op2 X (gOf X) (compareOp .GtE) oGe := op_I0 op_ge fun _ _ _ _ _ => .bl _
/-- times: ints, a list or a tuple times an int -/
def repL (n : Nat) (xs : List PV) : List PV := (List.replicate n xs).flatten
def oMul : PV → PV → Option PV
  | .int i, .int j => bif small64 i || small64 j then some (.int (i * j)) else none
  | .lst xs, .int k => bif small63 k then okLen (xs.length * k.toNat) (.lst (repL k.toNat xs)) else none
  | .tup xs, .int k => bif decide (2 ≤ k) && decide (k ≤ 1000) && Nat.ble 1 xs.length && Nat.ble xs.length 1000 then some (.tup (repL k.toNat xs)) else bif decide (k = 1) then some (.tup xs) else bif decide (k = 0) then some (.tup []) else none
  | _, _ => none

section tuples
variable {prog : Program} {w : World}
theorem tuple_mulS (l : Addr) (items : Array Value) (n : Nat) (sl : Array (Option Value)) (x : Int) (u : Tok) (dd : Option Addr) (c0 : (decide (x < -(2 ^ 63)) || decide (x ≥ 2 ^ 63)) = false) (c1 : (items.isEmpty || x == 1) = true) :
    Meets (Builtin.«tuple.__mul__» ⟨[.ref l, .int x u], []⟩) (fun _ R s => s.heap.get? l = some { cls := .type "tuple", dict := dd, data := .seq items n, slots := sl } ∧
      R (.ok (.ret (Value.ref l))) s) :=
  .of_wp fun prog w A R s h => by
    obtain ⟨hp, g, d, tk, os⟩ := s
    obtain ⟨hl, h⟩ := h
    have f1 := AutoSeq1.idx_int
    wp_walk using wpAny_loadPart' hl
    repeat (first
      | (refine wpAny_ite_false (decide_eq_false (by rw [c0]; exact Bool.false_ne_true)) ?_; wp_walk using wpAny_loadPart' hl)
      | (refine wpAny_ite_true (decide_eq_true (by rw [c1])) ?_; wp_walk using wpAny_loadPart' hl))
    exact ⟨_, rfl, h⟩
theorem tuple_mul0 (l : Addr) (items : Array Value) (n : Nat) (sl : Array (Option Value)) (x : Int) (u : Tok) (dd : Option Addr) (c0 : (decide (x < -(2 ^ 63)) || decide (x ≥ 2 ^ 63)) = false) (c1 : (items.isEmpty || x == 1) = false) (c2 : (decide (x ≤ 0) || items.isEmpty) = true) :
    Meets (Builtin.«tuple.__mul__» ⟨[.ref l, .int x u], []⟩) (fun _ R s => s.heap.get? l = some { cls := .type "tuple", dict := dd, data := .seq items n, slots := sl } ∧
      R (.ok (.ret (Value.ref s.heap.objs.size))) { s with heap := s.heap.push { cls := Value.type "tuple", data := Data.seq #[] }, toks := s.toks }) :=
  .of_wp fun prog w A R s h => by
    obtain ⟨hp, g, d, tk, os⟩ := s
    obtain ⟨hl, h⟩ := h
    have f1 := AutoSeq1.idx_int
    wp_walk using wpAny_loadPart' hl
    repeat (first
      | (refine wpAny_ite_false (decide_eq_false (by rw [c0]; exact Bool.false_ne_true)) ?_; wp_walk using wpAny_loadPart' hl)
      | (refine wpAny_ite_false (decide_eq_false (by rw [c1]; exact Bool.false_ne_true)) ?_; wp_walk using wpAny_loadPart' hl)
      | (refine wpAny_ite_true (decide_eq_true (by rw [c2])) ?_; wp_walk using wpAny_loadPart' hl))
    exact ⟨_, rfl, h⟩
end tuples
end RX
set_option maxHeartbeats 4000000
namespace RX
open PySem L2 PyProof.Rows
variable {G : GC} {B : Option Addr} {O O' : Addr → Prop} {H H' H1 : Hp} {X : Cx}

theorem repT_gen (pins : List (Addr × Obj)) (s : Shared) (σ : L2.St) (H : Hp) (l : Addr) (k : Int) (t : Tok) (vs : List V) (Q : VK) (I : Inv X pins σ H s) (hT : SqT X.K H l vs) (h0 : 0 ≤ k) (h1 : k ≤ 1)
    (q : if vs = [] ∨ k = 1 then Q (.ref l) H else ∀ p, H p = none → Q (.ref p) (upd H p (.tup []))) :
    wpAny (model X.prog X.w) X.A (binaryOp .Mult (.ref l) (.int k t)) (EP X pins σ Q) X.xe s := by
  obtain ⟨its, r, ⟨⟨cls, dd, data, sl⟩, ho, hc, n, hd⟩, hs⟩ := I.tuple hT
  simp only at hc hd
  subst hc hd
  have c0 : (decide (k < -(2 ^ 63)) || decide (k ≥ 2 ^ 63)) = false := by
    rw [decide_eq_false (by omega), decide_eq_false (by omega)] <;> rfl
  by_cases hb : vs = [] ∨ k = 1
  · rw [if_pos hb] at q
    have c1 : (its.toArray.isEmpty || k == 1) = true := by
      rcases hb with hb | hb
      · subst hb; cases r; rfl
      · subst hb; simp
    exact wpAny_binaryOp_repeat_ref (T := "tuple") (U := "int") (by decide) ⟨_, ho, rfl⟩ (fun s' => typeIs_int s' k t) noFill_tuple_mul F.fills_int_mul F.slot_int_rmul repeat_tuple F.slot_int_index.lookup
      (call_meets F.slot_int_rmul (typeIs_int s k t) F.entry_int_rmul (F.args_int_rmul_2 _ _) (int_rmul_tuple k t l its.toArray n dd sl)
        ⟨ho, rfl, ⟨_, ho, rfl⟩, call_meets F.slot_tuple_mul ⟨_, ho, rfl⟩ F.entry_tuple_mul (F.args_tuple_mul_2 _ _) (tuple_mulS l its.toArray n sl k t dd c0 c1) ⟨ho, .ref l, H, I, rfl, q⟩⟩)
  · rw [if_neg hb] at q
    have hk : k = 0 := by omega
    have hv : its ≠ [] := fun e => hb (.inl (by subst e; cases r; rfl))
    have hi : its.toArray.isEmpty = false := by
      cases its with
      | nil => exact absurd rfl hv
      | cons a b => rfl
    have c1 : (its.toArray.isEmpty || k == 1) = false := by rw [hi, hk]; rfl
    have c2 : (decide (k ≤ 0) || its.toArray.isEmpty) = true := by rw [hk]; rfl
    refine wpAny_binaryOp_repeat_ref (T := "tuple") (U := "int") (by decide) ⟨_, ho, rfl⟩ (fun s' => typeIs_int s' k t) noFill_tuple_mul F.fills_int_mul F.slot_int_rmul repeat_tuple F.slot_int_index.lookup
      (call_meets F.slot_int_rmul (typeIs_int s k t) F.entry_int_rmul (F.args_int_rmul_2 _ _) (int_rmul_tuple k t l its.toArray n dd sl)
        ⟨ho, rfl, ⟨_, ho, rfl⟩, call_meets F.slot_tuple_mul ⟨_, ho, rfl⟩ F.entry_tuple_mul (F.args_tuple_mul_2 _ _) (tuple_mul0 l its.toArray n sl k t dd c0 c1 c2) ⟨ho, ?_⟩⟩)
    refine ⟨.ref s.heap.objs.size, _, I.laid (t' := s.toks) (o := .tup []) (fun b ob q => Heap.get?_push_of_some _ q) (Nat.le_refl _) ?_, rfl, q _ (I.hok.fresh (Nat.le_refl _))⟩
    exact ⟨Nat.zero_le _, [], .nil, IsTup.new _ _⟩
theorem op_mul2 : Op2 X (gOf X) (binaryOp .Mult) oMul := by
  intro B pins s σ H x y v u Q I rx ry ⟨O, px, py, z, h1, h2, hf, t, k⟩
  cases px with
  | int i =>
    cases py with
    | int j =>
      simp only [oMul] at hf
      cases e : (small64 i || small64 j) with
      | false => rw [e] at hf; cases hf
      | true =>
        rw [e] at hf
        cases hf
        cases h1.int_of; cases h2.int_of
        refine op_mul pins s σ H _ _ v u Q I rx ry ⟨i, j, rfl, rfl, ?_, k _ H (Evl.Ex.refl _) (.int _)⟩
        rw [Bool.or_eq_true] at e
        rcases e with e | e
        · exact .inl (small64_ok e)
        · exact .inr (small64_ok e)
    | _ => cases hf
  | lst xs =>
    cases py with
    | int j =>
      simp only [oMul] at hf
      cases e : small63 j with
      | false => rw [e] at hf; cases hf
      | true =>
        rw [e] at hf
        obtain ⟨rfl, hl⟩ := okLen_some hf
        obtain ⟨a, vs, rfl, ha, ra⟩ := h1.lst_of
        cases h2.int_of
        have q := small63_ok e
        exact op_rep pins s σ H _ _ v u Q I rx ry ⟨a, j, vs, rfl, rfl, ha, q.1, q.2, by rw [ra.length]; exact le_line hl, fun p hp => k _ _ (Evl.Ex.new hp) (rep_newL t hp (ra.rep _))⟩
    | _ => cases hf
  | tup xs =>
    cases py with
    | int j =>
      simp only [oMul] at hf
      obtain ⟨a, vs, rfl, ha, ra⟩ := h1.tup_of
      cases h2.int_of
      cases e : (decide (2 ≤ j) && decide (j ≤ 1000) && Nat.ble 1 xs.length && Nat.ble xs.length 1000) with
      | true =>
        rw [e] at hf
        cases hf
        rw [Bool.and_eq_true, Bool.and_eq_true, Bool.and_eq_true, decide_eq_true_eq, decide_eq_true_eq] at e
        obtain ⟨⟨⟨e1, e2⟩, e3⟩, e4⟩ := e
        have e3 := Nat.le_of_ble_eq_true e3
        have e4 := Nat.le_of_ble_eq_true e4
        refine op_repT pins s σ H _ _ v u Q I rx ry ⟨a, j, vs, rfl, rfl, ha, ?_, e1, e2, by rw [ra.length]; exact e4, fun p hp => k _ _ (Evl.Ex.new hp) (rep_newT t hp (ra.rep _))⟩
        intro e
        subst e
        have := ra.length
        simp only [List.length_nil] at this
        omega
      | false =>
        rw [e] at hf
        simp only [cond_false] at hf
        cases rx
        obtain ⟨tt, rfl⟩ := ry
        cases e1 : decide (j = 1) with
        | true =>
          rw [e1] at hf
          cases hf
          have := of_decide_eq_true e1
          exact repT_gen pins s σ H a j tt vs Q I ha (by omega) (by omega) (by rw [if_pos (.inr this)]; exact k _ H (Evl.Ex.refl _) h1.rep_tup)
        | false =>
          rw [e1] at hf
          simp only [cond_false] at hf
          cases e2 : decide (j = 0) with
          | true =>
            rw [e2] at hf
            cases hf
            have := of_decide_eq_true e2
            refine repT_gen pins s σ H a j tt vs Q I ha (by omega) (by omega) ?_
            split
            · rename_i hh
              refine k _ H (Evl.Ex.refl _) ?_
              rcases hh with hh | hh
              · subst hh
                cases ra
                exact h1.rep_tup
              · omega
            · exact fun p hp => k _ _ (Evl.Ex.new hp) (rep_newT t hp .nil)
          | false => rw [e2] at hf; cases hf
    | _ => cases hf
  | _ => cases hf

/-! ### equality of data -/
def toD : Nat → PV → PyData
  | _, .bl b => .bool b
  | _, .int i => .int i
  | _, .str x => .str x
  | n + 1, .lst xs => .list (xs.map (toD n))
  | n + 1, .tup xs => .tuple (xs.map (toD n))
  | _, _ => .none
def dOk : Nat → PV → Bool
  | _, .int _ => true
  | n + 1, .tup xs => xs.all (dOk n)
  | n + 1, .lst xs => xs.all (dOk n)
  | _, .bl _ => true
  | _, .str x => x.cps.toList.all fun c => decide (c < 1114112)
  | _, .non => true
  | _, _ => false
theorem dOk_lay : ∀ (n : Nat) (x : PV), dOk n x = true → (toD n x).canLay0 = true ∧ (toD n x).depth ≤ n := by
  intro n
  induction n with
  | zero =>
    intro x h
    cases x <;> first | (cases h; done) | (simp [toD, PyData.canLay0, PyData.depth]; done) | (simpa [toD, PyData.canLay0, PyData.depth, dOk, PyData.strOk] using h)
  | succ n ih =>
    have all : ∀ xs : List PV, xs.all (dOk n) = true → PyData.canLayAll0 (xs.map (toD n)) = true ∧ PyData.depthAll (xs.map (toD n)) ≤ n := by
      intro xs
      induction xs with
      | nil => intro _; simp [PyData.canLayAll0, PyData.depthAll]
      | cons a r ihr =>
        intro h
        rw [List.all_cons, Bool.and_eq_true] at h
        obtain ⟨a1, a2⟩ := ih a h.1
        obtain ⟨b1, b2⟩ := ihr h.2
        simp only [List.map_cons, PyData.canLayAll0, PyData.depthAll, a1, b1, Bool.and_self, true_and]
        exact Nat.max_le.mpr ⟨a2, b2⟩
    intro x h
    cases x with
    | tup xs =>
      obtain ⟨a, b⟩ := all xs h
      simp only [toD, PyData.canLay0, PyData.depth]
      exact ⟨a, by omega⟩
    | lst xs =>
      obtain ⟨a, b⟩ := all xs h
      simp only [toD, PyData.canLay0, PyData.depth]
      exact ⟨a, by omega⟩
    | str x => exact ⟨by simpa [toD, PyData.canLay0, dOk, PyData.strOk] using h, by simp [toD, PyData.depth]⟩
    | _ => first | (cases h; done) | simp [toD, PyData.canLay0, PyData.depth]
theorem dOk_shaped {n : Nat} (hn : n ≤ 60) {x : PV} (h : dOk n x = true) : SeqAt.shaped (toD n x) = true := by
  obtain ⟨a, b⟩ := dOk_lay n x h
  unfold SeqAt.shaped
  rw [a, Bool.true_and]
  exact decide_eq_true (by omega)
theorem dp_of : ∀ (n : Nat) {v : V} {x : PV}, Rep G B O H v x → dOk n x = true → Dp G.K H v (toD n x) := by
  intro n
  induction n with
  | zero =>
    intro v x r h
    cases r <;> first | (cases h; done) | constructor
  | succ n ih =>
    have all : ∀ {vs : List V} {xs : List PV}, Reps G B O H vs xs → xs.all (dOk n) = true → DpAll G.K H vs (xs.map (toD n)) := by
      intro vs
      induction vs with
      | nil => intro xs r _; cases r; exact .nil
      | cons v vs ihv =>
        intro xs r h
        cases r with
        | cons a b =>
          rw [List.all_cons, Bool.and_eq_true] at h
          exact .cons (ih a h.1) (ihv b h.2)
    intro v x r h
    cases r with
    | tup h1 h2 h3 => exact .tup h1 (all h3 h)
    | lst h1 h2 h3 => exact .lst (SqL.of h1) (all h3 h)
    | _ => first | (cases h; done) | constructor
theorem dp_ofB {n : Nat} {v : V} {x : PV} (r : RB G B O H v x) (h : dOk n x = true) : Dp G.K H v (toD n x) := by
  rcases r with r | ⟨p, vs, xs, rfl, rfl, h1, h2, h3⟩
  · exact dp_of n r h
  · cases n with
    | zero => cases h
    | succ n =>
      have all : ∀ {vs : List V} {xs : List PV}, Reps G B O H vs xs → xs.all (dOk n) = true → DpAll G.K H vs (xs.map (toD n)) := by
        intro vs
        induction vs with
        | nil => intro xs r _; cases r; exact .nil
        | cons v vs ihv =>
          intro xs r h
          cases r with
          | cons a b =>
            rw [List.all_cons, Bool.and_eq_true] at h
            exact .cons (dp_of n a h.1) (ihv b h.2)
      exact .lst (SqL.of h1) (all h3 h)
/-- equality as Python has it -/
def eqP : Nat → PV → PV → Bool
  | _, .int i, .int j => decide (i = j)
  | n + 1, .tup xs, .tup ys => go n xs ys
  | n + 1, .lst xs, .lst ys => go n xs ys
  | _, .bl a, .bl b => a == b
  | _, .str x, .str y => decide (x = y)
  | _, .non, .non => true
  | _, .bl a, .int j => decide ((if a then 1 else 0) = j)
  | _, .int i, .bl b => decide (i = if b then 1 else 0)
  | _, _, _ => false
where go (n : Nat) : List PV → List PV → Bool
  | [], [] => true
  | x :: xs, y :: ys => bif eqP n x y then go n xs ys else false
  | _, _ => false
theorem eqP_d : ∀ (n : Nat) (x y : PV), dOk n x = true → dOk n y = true → PyData.eqv (toD n x) (toD n y) = eqP n x y := by
  intro n
  induction n with
  | zero => intro x y hx hy; cases x <;> cases y <;> first | (cases hx; done) | (cases hy; done) | (simp [toD, PyData.eqv, eqP]; done) | (simp [toD, PyData.eqv, eqP]; rfl)
  | succ n ih =>
    have all : ∀ xs ys : List PV, xs.all (dOk n) = true → ys.all (dOk n) = true → PyData.eqvAll (xs.map (toD n)) (ys.map (toD n)) = eqP.go n xs ys := by
      intro xs
      induction xs with
      | nil => intro ys _ _; cases ys <;> simp [PyData.eqvAll, eqP.go]
      | cons a r ihr =>
        intro ys hx hy
        cases ys with
        | nil => simp [PyData.eqvAll, eqP.go]
        | cons b t =>
          rw [List.all_cons, Bool.and_eq_true] at hx hy
          simp only [List.map_cons, PyData.eqvAll, eqP.go, ih a b hx.1 hy.1, ihr t hx.2 hy.2]
          cases eqP n a b <;> rfl
    intro x y hx hy
    cases x <;> cases y <;> first | (cases hx; done) | (cases hy; done) | (simp only [toD, PyData.eqv, eqP]; exact all _ _ hx hy) | (simp [toD, PyData.eqv, eqP]; done) | (simp [toD, PyData.eqv, eqP]; rfl)
def oEq (x y : PV) : Option PV := match x, y with
  | .int i, .int j => some (.bl (decide (i = j)))
  | x, y => bif dOk 50 x && dOk 50 y then some (.bl (eqP 50 x y)) else none
def oNe (x y : PV) : Option PV := match x, y with
  | .int i, .int j => some (.bl (!decide (i = j)))
  | x, y => bif dOk 50 x && dOk 50 y then some (.bl (!eqP 50 x y)) else none
theorem oEq_some {x y z : PV} (h : oEq x y = some z) : dOk 50 x = true ∧ dOk 50 y = true ∧ z = .bl (eqP 50 x y) := by
  unfold oEq at h
  split at h
  · cases h; exact ⟨rfl, rfl, rfl⟩
  · cases e : (dOk 50 x && dOk 50 y) with
    | true => rw [e] at h; cases h; rw [Bool.and_eq_true] at e; exact ⟨e.1, e.2, rfl⟩
    | false => rw [e] at h; cases h
theorem oNe_some {x y z : PV} (h : oNe x y = some z) : dOk 50 x = true ∧ dOk 50 y = true ∧ z = .bl (!eqP 50 x y) := by
  unfold oNe at h
  split at h
  · cases h; exact ⟨rfl, rfl, rfl⟩
  · cases e : (dOk 50 x && dOk 50 y) with
    | true => rw [e] at h; cases h; rw [Bool.and_eq_true] at e; exact ⟨e.1, e.2, rfl⟩
    | false => rw [e] at h; cases h
theorem op_eq2 (hu : X.A.units + 66 < cLine) : Op2 X (gOf X) (compareOp .Eq) oEq := by
  intro B pins s σ H x y v u Q I rx ry ⟨O, px, py, z, h1, h2, hf, t, k⟩
  obtain ⟨d1, d2, rfl⟩ := oEq_some hf
  exact op_eqD (by omega) pins s σ H x y v u Q I rx ry ⟨_, _, dp_ofB h1 d1, dp_ofB h2 d2, dOk_shaped (by omega) d1, dOk_shaped (by omega) d2, by rw [eqP_d 50 px py d1 d2]; exact k _ H (Evl.Ex.refl _) (.bl _)⟩
theorem op_ne2 (hu : X.A.units + 66 < cLine) : Op2 X (gOf X) (compareOp .NotEq) oNe := by
  intro B pins s σ H x y v u Q I rx ry ⟨O, px, py, z, h1, h2, hf, t, k⟩
  obtain ⟨d1, d2, rfl⟩ := oNe_some hf
  exact op_neD (by omega) pins s σ H x y v u Q I rx ry ⟨_, _, dp_ofB h1 d1, dp_ofB h2 d2, dOk_shaped (by omega) d1, dOk_shaped (by omega) d2, by rw [eqP_d 50 px py d1 d2]; exact k _ H (Evl.Ex.refl _) (.bl _)⟩
/-- in a list, in a tuple -/
def anyEq (x : PV) : List PV → Bool
  | [] => false
  | y :: ys => bif eqP 50 y x then true else anyEq x ys
def inOf (neg : Bool) (x : PV) (ys : List PV) : Option PV := bif dOk 50 x && ys.all (dOk 50) then some (.bl (bif neg then !anyEq x ys else anyEq x ys)) else none
def oIn (neg : Bool) (x y : PV) : Option PV := match y with
  | .lst ys => inOf neg x ys
  | .tup ys => inOf neg x ys
  | _ => none
theorem inOf_some {neg : Bool} {x z : PV} {ys : List PV} (h : inOf neg x ys = some z) : dOk 50 x = true ∧ ys.all (dOk 50) = true ∧ z = .bl (bif neg then !anyEq x ys else anyEq x ys) := by
  unfold inOf at h
  cases e : (dOk 50 x && ys.all (dOk 50)) with
  | true => rw [e] at h; cases h; rw [Bool.and_eq_true] at e; exact ⟨e.1, e.2, rfl⟩
  | false => rw [e] at h; cases h
theorem any_d {x : PV} (hx : dOk 50 x = true) : ∀ ys : List PV, ys.all (dOk 50) = true → ((ys.map (toD 50)).any fun z => PyData.eqv z (toD 50 x)) = anyEq x ys
  | [], _ => rfl
  | y :: ys, h => by
    rw [List.all_cons, Bool.and_eq_true] at h
    simp only [List.map_cons, List.any_cons, anyEq, any_d hx ys h.2, eqP_d 50 y x h.1 hx]
    cases eqP 50 y x <;> rfl
theorem op_in2 (hu : X.A.units + 66 < cLine) (neg : Bool) : Op2 X (gOf X) (compareOp (if neg then .NotIn else .In)) (oIn neg) := by
  intro B pins s σ H x y v u Q I rx ry ⟨O, px, py, z, h1, h2, hf, t, k⟩
  have go : ∀ ys, inOf neg px ys = some z → dOk 51 (.tup ys) = true ∧ dOk 51 (.lst ys) = true ∧ dOk 50 px = true ∧ SeqAt.shaped (toD 50 px) = true ∧ PyData.canLayAll0 (ys.map (toD 50)) = true ∧ Q (.bl (bif neg then !((ys.map (toD 50)).any fun z => PyData.eqv z (toD 50 px)) else ((ys.map (toD 50)).any fun z => PyData.eqv z (toD 50 px)))) H := fun ys h => by
    obtain ⟨d1, d2, rfl⟩ := inOf_some h
    refine ⟨d2, d2, d1, dOk_shaped (by omega) d1, ?_, ?_⟩
    · have := (dOk_lay 51 (.tup ys) d2).1
      simpa [toD, PyData.canLay0] using this
    · rw [any_d d1 ys d2]
      exact k _ H (Evl.Ex.refl _) (.bl _)
  have room : ∀ (n : Nat), X.A.units + 1 + min n (toD 50 px).depth < cLine ∨ dOk 50 px = false := fun n => by
    cases e : dOk 50 px with
    | false => exact .inr rfl
    | true =>
      have := (dOk_lay 50 px e).2
      left
      omega
  cases py with
  | lst ys =>
    obtain ⟨a1, a2, a3, a4, a5, a6⟩ := go ys hf
    have hd := dp_ofB (n := 51) h2 a2
    obtain ⟨as, r1⟩ := Dp.reads I _ x v (dp_ofB h1 a3) rx
    obtain ⟨bs, r2⟩ := Dp.reads I _ y u hd ry
    have hr := (room (PyData.depthAll (ys.map (toD 50)))).resolve_right (by rw [a3]; decide)
    cases neg with
    | true => exact SeqAt.notIn_list_reads r2 r1 a5 (SeqAt.canLay_of_shaped a4) hr ⟨.bl _, H, I, rfl, a6⟩
    | false => exact SeqAt.in_list_reads r2 r1 a5 (SeqAt.canLay_of_shaped a4) hr ⟨.bl _, H, I, rfl, a6⟩
  | tup ys =>
    obtain ⟨a1, a2, a3, a4, a5, a6⟩ := go ys hf
    have hd := dp_ofB (n := 51) h2 a1
    obtain ⟨as, r1⟩ := Dp.reads I _ x v (dp_ofB h1 a3) rx
    obtain ⟨bs, r2⟩ := Dp.reads I _ y u hd ry
    have hr := (room (PyData.depthAll (ys.map (toD 50)))).resolve_right (by rw [a3]; decide)
    cases neg with
    | true => exact SeqAt.notIn_tuple_reads r2 r1 a5 (SeqAt.canLay_of_shaped a4) hr ⟨.bl _, H, I, rfl, a6⟩
    | false => exact SeqAt.in_tuple_reads r2 r1 a5 (SeqAt.canLay_of_shaped a4) hr ⟨.bl _, H, I, rfl, a6⟩
  | _ => cases hf
/-- is None, is True, is False -/
def oIs (neg : Bool) (x y : PV) : Option PV := match x, y with
  | .bl a, .bl b => some (.bl (xor neg (a == b)))
  | .non, .non => some (.bl (!neg))
  | .non, .bl _ => some (.bl neg)
  | .bl _, .non => some (.bl neg)
  | .int _, .non => some (.bl neg)
  | .str _, .non => some (.bl neg)
  | .tup _, .non => some (.bl neg)
  | .lst _, .non => some (.bl neg)
  | _, _ => none
end RX
set_option maxHeartbeats 4000000
namespace RX
open PySem L2
variable {G : GC} {B : Option Addr} {O O' : Addr → Prop} {H H' H1 : Hp} {X : Cx}
variable {F : FC} {env : En} {cup cup' : Cup} {σ : L2.St} {W : WX}

/-! ### is -/
def raw0 : PV → Option V
  | .non => some .non
  | .bl b => some (.bl b)
  | _ => none
theorem op_is2 (neg : Bool) : Op2 X (gOf X) (compareOp (if neg then .IsNot else .Is)) (oIs neg) := by
  intro B pins s σ H x y v u Q I rx ry ⟨O, px, py, z, h1, h2, hf, t, k⟩
  have kk : ∀ b : Bool, z = .bl b → Q (.bl b) H := fun b e => by subst e; exact k _ H (Evl.Ex.refl _) (.bl _)
  have nonY : py = .non → (x = .non → z = .bl (!neg)) → (x ≠ .non → z = .bl neg) → wpAny (model X.prog X.w) X.A (compareOp (if neg then .IsNot else .Is) v u) (EP X pins σ Q) X.xe s := fun e e1 e2 => by
    subst e
    have ey := h2.non_of
    subst ey
    cases neg with
    | true =>
      refine op_notN pins s σ H x _ v u Q I rx ry ⟨rfl, ?_⟩
      by_cases hx : x = .non
      · rw [decide_eq_true hx]; exact kk _ (e1 hx)
      · rw [decide_eq_false hx]; exact kk _ (e2 hx)
    | false =>
      refine op_isN pins s σ H x _ v u Q I rx ry ⟨rfl, ?_⟩
      by_cases hx : x = .non
      · rw [decide_eq_true hx]; exact kk _ (e1 hx)
      · rw [decide_eq_false hx]; exact kk _ (e2 hx)
  have blY : ∀ b : Bool, py = .bl b → (∀ w : Value, RelV x w → z = .bl (xor neg (w == .bool b)) ∧ w ≠ .bool (!b) ∨ True) → True := fun _ _ _ => trivial
  cases px with
  | non =>
    cases py with
    | non => cases hf; exact nonY rfl (fun _ => rfl) (fun h => absurd h1.non_of h)
    | bl b =>
      cases hf
      cases h1.non_of; cases h2.bl_of
      cases rx; cases ry
      cases neg with
      | true => exact wpAny_pure ⟨.bl _, H, I, rfl, kk _ rfl⟩
      | false => exact wpAny_pure ⟨.bl _, H, I, rfl, kk _ rfl⟩
    | _ => cases hf
  | bl a =>
    cases py with
    | non => cases hf; exact nonY rfl (fun h => by cases h1.bl_of; cases h) (fun _ => rfl)
    | bl b =>
      cases hf
      cases h1.bl_of; cases h2.bl_of
      cases rx; cases ry
      cases neg with
      | true => exact wpAny_pure ⟨.bl _, H, I, by cases a <;> cases b <;> rfl, kk _ rfl⟩
      | false => exact wpAny_pure ⟨.bl _, H, I, by cases a <;> cases b <;> rfl, kk _ rfl⟩
    | _ => cases hf
  | int i =>
    cases py with
    | non => cases hf; exact nonY rfl (fun h => by cases h1.int_of; cases h) (fun _ => rfl)
    | _ => cases hf
  | str i =>
    cases py with
    | non => cases hf; exact nonY rfl (fun h => by cases h1.str_of; cases h) (fun _ => rfl)
    | _ => cases hf
  | tup i =>
    cases py with
    | non => cases hf; exact nonY rfl (fun h => by obtain ⟨_, _, e, _⟩ := h1.tup_of; rw [e] at h; cases h) (fun _ => rfl)
    | _ => cases hf
  | lst i =>
    cases py with
    | non => cases hf; exact nonY rfl (fun h => by obtain ⟨_, _, e, _⟩ := h1.lst_of; rw [e] at h; cases h) (fun _ => rfl)
    | _ => cases hf
  | _ => cases py <;> cases hf

/-! ### operators by name -/
def binF : Operator → Option (PV → PV → Option PV)
  | .Add => some oAdd
  | .Sub => some oSub
  | .Mult => some oMul
  | .FloorDiv => some oFdiv
  | .Mod => some oMod
  | .LShift => some oShl
  | .RShift => some oShr
  | .BitAnd => some oAnd
  | .BitOr => some oOr
  | .BitXor => some oXor
  | .Pow => some oPow
  | _ => none
theorem binF_ok {op : Operator} {f : PV → PV → Option PV} (h : binF op = some f) : Op2 X (gOf X) (binaryOp op) f := by
  cases op <;> first | (cases h; done) | (cases h; first | exact op_add2 | exact op_sub2 | exact op_mul2 | exact op_fdiv2 | exact op_mod2 | exact op_shl2 | exact op_shr2 | exact op_and2 | exact op_or2 | exact op_xor2 | exact op_pow2)
def cmpF : CmpOp → Option (PV → PV → Option PV)
  | .Eq => some oEq
  | .NotEq => some oNe
  | .Lt => some oLt
  | .LtE => some oLe
  | .Gt => some oGt
  | .GtE => some oGe
  | .Is => some (oIs false)
  | .IsNot => some (oIs true)
  | .In => some (oIn false)
  | .NotIn => some (oIn true)
theorem cmpF_ok (hu : X.A.units + 66 < cLine) {op : CmpOp} {f : PV → PV → Option PV} (h : cmpF op = some f) : Op2 X (gOf X) (compareOp op) f := by
  cases op <;> (cases h; first | exact op_eq2 hu | exact op_ne2 hu | exact op_lt2 | exact op_le2 | exact op_gt2 | exact op_ge2 | exact op_is2 false | exact op_is2 true | exact op_in2 hu false | exact op_in2 hu true)
def isSet : Expr → Bool
  | .Set .. => true
  | _ => false
theorem noMark {b : Expr} (h : isSet b = false) (op : CmpOp) : behindInMarks op b = false := by
  cases b <;> first | rfl | (cases h)
theorem pd_bin {op : Operator} {f : PV → PV → Option PV} {a b : Expr} {da db : E} {pos : Pos} (hf : binF op = some f) (ha : PE X a (tDB (gOf X) F W da)) (hb : PE X b (tDB (gOf X) F W db)) : PE X (.BinOp a op b pos) (tD (gOf X) F W (dBin f da db)) :=
  pe_bin2 (pe_op (binF_ok hf F.B) ha hb)
theorem pd_cmp (hu : X.A.units + 66 < cLine) {op : CmpOp} {f : PV → PV → Option PV} {a b : Expr} {da db : E} {pos : Pos} (hf : cmpF op = some f) (ha : PE X a (tDB (gOf X) F W da)) (hb : PE X b (tDB (gOf X) F W db)) (hs : isSet b = false) :
    PE X (.Compare a [op] [b] pos) (tD (gOf X) F W (dBin f da db)) := pe_bin2 (pe_cmpR (cmpF_ok hu hf F.B) ha hb (noMark hs op))

/-! ### tests -/
def blOf : PV → E
  | .bl b => dC (.bl b)
  | _ => fun _ _ => .stuck
theorem cmpF_bl {op : CmpOp} {f : PV → PV → Option PV} (h : cmpF op = some f) {x y z : PV} (e : f x y = some z) : ∃ b, z = .bl b := by
  cases op <;> cases h
  · obtain ⟨_, _, e⟩ := oEq_some e; exact ⟨_, e⟩
  · obtain ⟨_, _, e⟩ := oNe_some e; exact ⟨_, e⟩
  · obtain ⟨_, _, _, _, _, e⟩ := oI_some e; exact ⟨_, e⟩
  · obtain ⟨_, _, _, _, _, e⟩ := oI_some e; exact ⟨_, e⟩
  · obtain ⟨_, _, _, _, _, e⟩ := oI_some e; exact ⟨_, e⟩
  · obtain ⟨_, _, _, _, _, e⟩ := oI_some e; exact ⟨_, e⟩
  · cases x <;> cases y <;> first | (cases e; done) | (cases e; exact ⟨_, rfl⟩)
  · cases x <;> cases y <;> first | (cases e; done) | (cases e; exact ⟨_, rfl⟩)
  · cases y <;> first | (cases e; done) | (obtain ⟨_, _, e⟩ := inOf_some e; exact ⟨_, e⟩)
  · cases y <;> first | (cases e; done) | (obtain ⟨_, _, e⟩ := inOf_some e; exact ⟨_, e⟩)
theorem rep_bl {v : V} {b : Bool} (h : Rep G B O H v (.bl b)) : v = .bl b := by cases h; rfl
theorem pt_cmp2 (hu : X.A.units + 66 < cLine) {op : CmpOp} {f : PV → PV → Option PV} {a b : Expr} {da db : E} {pos : Pos} (hf : cmpF op = some f) (ha : PE X a (tDB (gOf X) F W da)) (hb : PE X b (tDB (gOf X) F W db)) (hs : isSet b = false) :
    PT X (.Compare a [op] [b] pos) (tDT (gOf X) F W (dBin f da db)) :=
  PT.imp (pt_cmpR (cmpF_ok hu hf F.B) ha hb (noMark hs op)) fun σ H Q ⟨env, cup, S, q⟩ => ⟨env, cup, S, post_bind q fun x cup1 v H1 S1 e1 p1 q1 => ⟨env, cup1, S1, post_bind q1 fun y cup2 w H2 S2 e2 p2 q2 => by
    obtain ⟨z, hz, kk⟩ := post_ofOA q2 S2
    obtain ⟨bb, rfl⟩ := cmpF_bl hf hz
    exact ⟨OO F env σ, x, y, _, RB.keep S1 p1 e2, p2, hz, fun a h => S2.oo_trk h, fun v H' e r => ⟨bb, rep_bl r, kk bb H' e rfl⟩⟩⟩⟩
/-- a < b < c -/
def dChain (f g : PV → PV → Option PV) (a b c : E) : E := bindE a fun x => bindE b fun y => bindE (ofO (f x y)) fun z => match z with
  | .bl true => bindE c fun w => ofO (g y w)
  | .bl false => dC (.bl false)
  | _ => fun _ _ => .stuck
theorem chain_imp {op op' : CmpOp} {f g : PV → PV → Option PV} {da db dc : E} (hf : cmpF op = some f) (hg : cmpF op' = some g) {P : PV → V → Hp → Prop} (hP : ∀ (b : Bool) H', P (.bl b) (.bl b) H') (σ : L2.St) (H : Hp) (Q : VK)
    (h : ∃ env cup, Ss G F env cup σ H ∧ PostA G F W P env σ H Q (dChain f g da db dc env cup)) : tChain (rOp G F.B f) (rOp G F.B g) (tDB G F W da) (tDB G F W db) (tDB G F W dc) σ H Q := by
  obtain ⟨env, cup, S, q⟩ := h
  refine ⟨env, cup, S, post_bind q fun x cup1 v H1 S1 e1 p1 q1 => ⟨env, cup1, S1, post_bind q1 fun y cup2 w H2 S2 e2 p2 q2 => ?_⟩⟩
  unfold bindE ofO at q2
  cases hz : f x y with
  | none => rw [hz] at q2; exact False.elim q2
  | some z =>
    rw [hz] at q2
    obtain ⟨bb, rfl⟩ := cmpF_bl hf hz
    refine ⟨OO F env σ, x, y, _, RB.keep S1 p1 e2, p2, hz, fun a h => S2.oo_trk h, fun v H3 e3 r => ⟨bb, rep_bl r, ?_⟩⟩
    cases bb with
    | false => exact q2 (.bl false) H3 (S2.ex e3) (ExE.of_ex e3) (hP false H3)
    | true =>
      show tDB G F W dc σ H3 _
      have q2 : PostA G F W P env σ H2 Q (bindE dc (fun w => ofO (g y w)) env cup2) := q2
      refine ⟨env, cup2, S2.ex e3, post_bind (PostA.mono q2 (ExE.of_ex e3)) fun w' cup4 u H4 S4 e4 p4 q4 => ?_⟩
      obtain ⟨z', hz', kk⟩ := post_ofOA q4 S4
      obtain ⟨b2, rfl⟩ := cmpF_bl hg hz'
      exact ⟨OO F env σ, y, w', _, RB.keep (S2.ex e3) (RB.keep S2 p2 (ExE.of_ex e3)) e4, p4, hz', fun a h => S4.oo_trk h, fun v H' e r => by
        have := rep_bl r
        subst this
        exact kk _ H' e (hP b2 H')⟩
theorem lastM {op op' : CmpOp} {b c : Expr} (h : isSet c = false) : lastMarks [op, op'] [b, c] = false := by
  show behindInMarks op' c = false
  exact noMark h op'
theorem pd_chain (hu : X.A.units + 66 < cLine) {op op' : CmpOp} {f g : PV → PV → Option PV} {a b c : Expr} {da db dc : E} {pos : Pos} (hf : cmpF op = some f) (hg : cmpF op' = some g) (ha : PE X a (tDB (gOf X) F W da)) (hb : PE X b (tDB (gOf X) F W db))
    (hc : PE X c (tDB (gOf X) F W dc)) (hs : isSet c = false) : PE X (.Compare a [op, op'] [b, c] pos) (tD (gOf X) F W (dChain f g da db dc)) :=
  PE.imp (pe_chain (cmpF_ok hu hf F.B) (cmpF_ok hu hg F.B) ha hb hc (lastM hs)) fun σ H Q ⟨env, cup, S, q⟩ => chain_imp hf hg (P := fun x v H' => Rep (gOf X) F.B (OO F env σ) H' v x) (fun b H' => .bl b) σ H Q ⟨env, cup, S, q⟩
theorem pt_chain2 (hu : X.A.units + 66 < cLine) {op op' : CmpOp} {f g : PV → PV → Option PV} {a b c : Expr} {da db dc : E} {pos : Pos} (hf : cmpF op = some f) (hg : cmpF op' = some g) (ha : PE X a (tDB (gOf X) F W da)) (hb : PE X b (tDB (gOf X) F W db))
    (hc : PE X c (tDB (gOf X) F W dc)) (hs : isSet c = false) : PT X (.Compare a [op, op'] [b, c] pos) (tDT (gOf X) F W (dChain f g da db dc)) :=
  PT.imp (pt_chain (cmpF_ok hu hf F.B) (cmpF_ok hu hg F.B) ha hb hc (lastM hs)) fun σ H Q ⟨env, cup, S, q⟩ => by
    show tChain _ _ _ _ _ σ H _
    refine chain_imp hf hg (P := fun x v H' => ∃ b, x = .bl b ∧ v = .bl b) (fun b H' => ⟨b, rfl, rfl⟩) σ H _ ⟨env, cup, S, ?_⟩
    revert q
    cases dChain f g da db dc env cup with
    | ok x c => exact fun q v H' S' e' ⟨b, e1, e2⟩ => ⟨b, e2, q b H' S' e' e1⟩
    | exc c k => exact fun q => q
    | stuck => exact fun q => q
/-- a value's truth -/
theorem tru_of {v : V} {x : PV} {b : Bool} (h : RB (gOf X) B O H v x) (e : truthy x = some b) : TruV X.K v H b := by
  cases x with
  | non => cases e; cases h.non_of; rfl
  | bl a => cases e; cases h.bl_of; rfl
  | int i =>
    cases e
    cases h.int_of
    show (!decide (i = 0)) = (i != 0)
    rw [bne, ← Bool.beq_eq_decide_eq]
  | tup xs =>
    cases e
    obtain ⟨a, vs, rfl, h1, h2⟩ := h.tup_of
    refine .inr (.inl ⟨vs, h1, ?_⟩)
    cases h2 <;> rfl
  | lst xs =>
    cases e
    obtain ⟨a, vs, rfl, h1, h2⟩ := h.lst_of
    refine .inl ⟨vs, SqL.of h1, ?_⟩
    cases h2 <;> rfl
  | str x =>
    simp only [truthy] at e
    cases hl : Nat.ble x.length 1000000 with
    | false => rw [hl] at e; cases e
    | true =>
      rw [hl] at e
      cases e
      cases h.str_of
      refine ⟨le_line (Nat.le_of_ble_eq_true hl), ?_⟩
      show (!decide (x.length = 0)) = ((x.length : Int) != 0)
      rw [bne, Bool.beq_eq_decide_eq]
      congr 1
      exact decide_eq_decide.mpr (by omega)
  | _ => cases e
end RX
set_option maxHeartbeats 4000000
namespace RX
open PySem L2
variable {G : GC} {B : Option Addr} {O O' : Addr → Prop} {H H' H1 : Hp} {X : Cx}
variable {F : FC} {env : En} {cup cup' : Cup} {σ : L2.St} {W : WX}

/-! ### not, and, or in a test -/
def stk : E := fun _ _ => .stuck
def kNot : PV → E
  | .bl b => dC (.bl (!b))
  | _ => stk
def dNotT (a : E) : E := bindE a kNot
def kAnd (b : E) : PV → E
  | .bl true => b
  | .bl false => dC (.bl false)
  | _ => stk
def dAndT (a b : E) : E := bindE a (kAnd b)
def kOr (b : E) : PV → E
  | .bl true => dC (.bl true)
  | .bl false => b
  | _ => stk
def dOrT (a b : E) : E := bindE a (kOr b)
theorem pt_notT {a : Expr} {d : E} {pos : Pos} (h : PT X a (tDT G F W d)) : PT X (.UnaryOp .Not a pos) (tDT G F W (dNotT d)) :=
  PT.imp (pt_not h) fun σ H Q ⟨env, cup, S, q⟩ => ⟨env, cup, S, post_bind q fun x cup1 b H1 S1 e1 p1 q1 => by
    subst p1
    exact q1 (!b) H1 S1 ExE.refl rfl⟩
theorem pw_andT {a b : Expr} {rest : List Expr} {da db : E} {pos : Pos} (ha : PT X a (tDT G F W da)) (hb : PW X (.BoolOp .And (b :: rest) pos) (tDT G F W db)) : PW X (.BoolOp .And (a :: b :: rest) pos) (tDT G F W (dAndT da db)) := by
  have k := pw_and ha hb
  refine ⟨fun wh pins s σ H Q I h => k.run wh pins s σ H Q I ?_⟩
  obtain ⟨env, cup, S, q⟩ := h
  refine ⟨env, cup, S, post_bind q fun x cup1 c H1 S1 e1 p1 q1 => ?_⟩
  subst p1
  cases c with
  | true => exact ⟨env, cup1, S1, q1⟩
  | false => exact q1 false H1 S1 ExE.refl rfl
theorem pw_orT {a b : Expr} {rest : List Expr} {da db : E} {pos : Pos} (ha : PT X a (tDT G F W da)) (hb : PW X (.BoolOp .Or (b :: rest) pos) (tDT G F W db)) : PW X (.BoolOp .Or (a :: b :: rest) pos) (tDT G F W (dOrT da db)) := by
  have k := pw_or ha hb
  refine ⟨fun wh pins s σ H Q I h => k.run wh pins s σ H Q I ?_⟩
  obtain ⟨env, cup, S, q⟩ := h
  refine ⟨env, cup, S, post_bind q fun x cup1 c H1 S1 e1 p1 q1 => ?_⟩
  subst p1
  cases c with
  | false => exact ⟨env, cup1, S1, q1⟩
  | true => exact q1 true H1 S1 ExE.refl rfl
def kTru (x : PV) : E := match truthy x with
  | some b => dC (.bl b)
  | none => stk
def dTru (a : E) : E := bindE a kTru
/-- plain tests: no not, and, or, comparison, conditional -/
def plainTest : Expr → Bool
  | .UnaryOp .Not _ _ => false
  | .BoolOp .. => false
  | .IfExp .. => false
  | .Compare .. => false
  | _ => true
theorem plain_is {e : Expr} (h : plainTest e = true) (env : Env) (whole : Sem Value) : isTrue e env whole = (do let v ← whole; standAt e.pos; holding [v] (PySem.truthy v)) := by
  cases e with
  | UnaryOp op x pos => cases op <;> first | rfl | (cases h)
  | BoolOp => cases h
  | IfExp => cases h
  | Compare => cases h
  | _ => rfl
theorem pt_tru {a : Expr} {d : E} (h : PE X a (tDB (gOf X) F W d)) (hp : plainTest a = true) : PT X a (tDT (gOf X) F W (dTru d)) :=
  PT.imp (pt_truth h (plain_is hp _)) fun σ H Q ⟨env, cup, S, q⟩ => ⟨env, cup, S, post_bind q fun x cup1 v H1 S1 e1 p1 q1 => by
    unfold kTru at q1
    cases e : truthy x with
    | none => rw [e] at q1; exact False.elim q1
    | some b => rw [e] at q1; exact ⟨b, tru_of p1 e, q1 b H1 S1 ExE.refl rfl⟩⟩
/-! ### the same as values -/
def kAndV (b : E) (x : PV) : E := match truthy x with
  | some true => b
  | some false => dC x
  | none => stk
def dAndV (a b : E) : E := bindE a (kAndV b)
def kOrV (b : E) (x : PV) : E := match truthy x with
  | some true => dC x
  | some false => b
  | none => stk
def dOrV (a b : E) : E := bindE a (kOrV b)
def kNotV (x : PV) : E := match truthy x with
  | some b => dC (.bl (!b))
  | none => stk
def dNotV (a : E) : E := bindE a kNotV
theorem pd_andV {a b : Expr} {rest : List Expr} {da db : E} {pos : Pos} (ha : PE X a (tD (gOf X) F W da)) (hb : PE X (.BoolOp .And (b :: rest) pos) (tD (gOf X) F W db)) : PE X (.BoolOp .And (a :: b :: rest) pos) (tD (gOf X) F W (dAndV da db)) :=
  PE.imp (pe_andT ha hb) fun σ H Q ⟨env, cup, S, q⟩ => ⟨env, cup, S, post_bind q fun x cup1 v H1 S1 e1 p1 q1 => by
    unfold kAndV at q1
    cases e : truthy x with
    | none => rw [e] at q1; exact False.elim q1
    | some b =>
      rw [e] at q1
      refine ⟨b, tru_of (.inl p1) e, ?_⟩
      cases b with
      | true => exact ⟨env, cup1, S1, q1⟩
      | false => exact q1 v H1 S1 ExE.refl p1⟩
theorem pd_orV {a b : Expr} {rest : List Expr} {da db : E} {pos : Pos} (ha : PE X a (tD (gOf X) F W da)) (hb : PE X (.BoolOp .Or (b :: rest) pos) (tD (gOf X) F W db)) : PE X (.BoolOp .Or (a :: b :: rest) pos) (tD (gOf X) F W (dOrV da db)) :=
  PE.imp (pe_orT ha hb) fun σ H Q ⟨env, cup, S, q⟩ => ⟨env, cup, S, post_bind q fun x cup1 v H1 S1 e1 p1 q1 => by
    unfold kOrV at q1
    cases e : truthy x with
    | none => rw [e] at q1; exact False.elim q1
    | some b =>
      rw [e] at q1
      refine ⟨b, tru_of (.inl p1) e, ?_⟩
      cases b with
      | false => exact ⟨env, cup1, S1, q1⟩
      | true => exact q1 v H1 S1 ExE.refl p1⟩
theorem pd_notV {a : Expr} {d : E} {pos : Pos} (h : PE X a (tDB (gOf X) F W d)) : PE X (.UnaryOp .Not a pos) (tD (gOf X) F W (dNotV d)) :=
  PE.imp (pe_notT h) fun σ H Q ⟨env, cup, S, q⟩ => ⟨env, cup, S, post_bind q fun x cup1 v H1 S1 e1 p1 q1 => by
    unfold kNotV at q1
    cases e : truthy x with
    | none => rw [e] at q1; exact False.elim q1
    | some b => rw [e] at q1; exact ⟨b, tru_of p1 e, q1 (.bl (!b)) H1 S1 ExE.refl (.bl _)⟩⟩
def kIf (a b : E) : PV → E
  | .bl true => a
  | .bl false => b
  | _ => stk
def dIf (c a b : E) : E := bindE c (kIf a b)
theorem pd_if {c a b : Expr} {dc da db : E} {pos : Pos} (hc : PT X c (tDT G F W dc)) (ha : PE X a (tD G F W da)) (hb : PE X b (tD G F W db)) : PE X (.IfExp c a b pos) (tD G F W (dIf dc da db)) :=
  PE.imp (pe_ifExp hc ha hb) fun σ H Q ⟨env, cup, S, q⟩ => ⟨env, cup, S, post_bind q fun x cup1 k H1 S1 e1 p1 q1 => by
    subst p1
    cases k with
    | true => exact ⟨env, cup1, S1, q1⟩
    | false => exact ⟨env, cup1, S1, q1⟩⟩
/-! ### minus -/
def oNeg : PV → Option PV
  | .int i => some (.int (-i))
  | _ => none
theorem pd_neg {a : Expr} {d : E} {pos : Pos} (h : PE X a (tDB (gOf X) F W d)) : PE X (.UnaryOp .USub a pos) (tD (gOf X) F W (dUn oNeg d)) :=
  pe_un2 (PE.imp (pe_un un_neg h) fun σ H Q ⟨env, cup, S, q⟩ => ⟨env, cup, S, q.impQ fun v H' ⟨O, px, z, p, hz, t, k⟩ => by
    cases px with
    | int i => cases hz; cases p.int_of; exact ⟨i, rfl, k _ _ (Evl.Ex.refl _) (.int _)⟩
    | _ => cases hz⟩)

/-! ### items -/
def getL : List PV → Nat → Option PV
  | [], _ => none
  | x :: _, 0 => some x
  | _ :: r, n + 1 => getL r n
theorem getL_eq : ∀ (xs : List PV) (n : Nat), getL xs n = xs[n]?
  | [], _ => rfl
  | x :: _, 0 => rfl
  | _ :: r, n + 1 => by simpa [getL] using getL_eq r n
def ixF (xs : List PV) : Int → Option PV
  | .ofNat n => getL xs n
  | .negSucc n => bif Nat.blt n xs.length then getL xs (xs.length - (n + 1)) else none
theorem ixF_at {xs : List PV} {vs : List V} {i : Int} {x : PV} (r : Reps G B O H vs xs) (h : ixF xs i = some x) : ∃ v, atI vs i = some v ∧ Rep G B O H v x := by
  cases i with
  | ofNat n =>
    have h : getL xs n = some x := h
    rw [getL_eq] at h
    obtain ⟨v, h1, h2⟩ := r.get h
    exact ⟨v, atI_nat h1, h2⟩
  | negSucc n =>
    simp only [ixF] at h
    cases e : Nat.blt n xs.length with
    | false => rw [e] at h; cases h
    | true =>
      rw [e] at h
      have hn : n < xs.length := by unfold Nat.blt at e; exact Nat.le_of_ble_eq_true e
      have h : getL xs (xs.length - (n + 1)) = some x := h
      rw [getL_eq] at h
      obtain ⟨v, h1, h2⟩ := r.get h
      refine ⟨v, ?_, h2⟩
      have hl := r.length
      unfold atI ixN
      rw [if_neg (by omega), if_pos (by omega)]
      simp only [Option.bind_some]
      rw [← h1]
      congr 1
      omega
def oIx (x y : PV) : Option PV := match y with
  | .int i => (match x with
    | .tup xs => ixF xs i
    | .lst xs => ixF xs i
    | _ => none)
  | _ => none
def isSlice : Expr → Bool
  | .Slice .. => true
  | _ => false
theorem plainIx {b : Expr} (h : isSlice b = false) : PlainIx b := by
  intro o i
  cases b <;> first | rfl | (cases h)
theorem pd_ix {a b : Expr} {da db : E} {pos : Pos} (ha : PE X a (tDB (gOf X) F W da)) (hb : PE X b (tDB (gOf X) F W db)) (hs : isSlice b = false) : PE X (.Subscript a b pos) (tD (gOf X) F W (dBin oIx da db)) :=
  pe_bin2 (PE.imp (pe_ix ix_seq ha hb (plainIx hs)) fun σ H Q ⟨env, cup, S, q⟩ => ⟨env, cup, S, q.impQ fun v H' q => by
    obtain ⟨env, cup, S, q⟩ := q
    refine ⟨env, cup, S, q.impQ fun w H2 ⟨O, px, py, z, p1, p2, hz, t, k⟩ => ?_⟩
    cases py with
    | int i =>
      cases p2.int_of
      cases px with
      | tup xs =>
        obtain ⟨a, vs, rfl, h1, h2⟩ := p1.tup_of
        obtain ⟨x, h3, h4⟩ := ixF_at h2 hz
        exact .inr (.inl ⟨a, vs, i, x, rfl, rfl, h1, h3, k x H2 (Evl.Ex.refl _) h4⟩)
      | lst xs =>
        obtain ⟨a, vs, rfl, h1, h2⟩ := p1.lst_of
        obtain ⟨x, h3, h4⟩ := ixF_at h2 hz
        exact .inl ⟨a, vs, i, x, rfl, rfl, SqL.of h1, h3, k x H2 (Evl.Ex.refl _) h4⟩
      | _ => cases hz
    | _ => cases hz⟩)
/-- the box's item -/
def dBoxIx (a b : E) : E := bindE a fun x => bindE b fun y => fun env c => match x, y with
  | .box, .int i => (match ixF c i with | some z => .ok z c | none => .stuck)
  | _, _ => .stuck
/-! ### slices -/
def cutL (xs : List PV) (lo hi : Option Int) : List PV := (xs.drop (HT.sIx xs.length 0 lo)).take (HT.sIx xs.length xs.length hi - HT.sIx xs.length 0 lo)
theorem cut_rep {vs : List V} {xs : List PV} (r : Reps G B O H vs xs) (lo hi : Option Int) : Reps G B O H (cutV vs lo hi) (cutL xs lo hi) := by
  unfold cutV cutL
  rw [r.length]
  exact (r.drop _).take _
def intO : PV → Option (Option Int)
  | .int i => some (some i)
  | .non => some none
  | _ => none
def oCut (x l h : PV) : Option PV := match intO l, intO h with
  | some lo, some hi => (match x with
    | .tup xs => some (.tup (cutL xs lo hi))
    | .lst xs => some (.lst (cutL xs lo hi))
    | _ => none)
  | _, _ => none
def dCut (x l h : E) : E := bindE x fun a => bindE l fun b => bindE h fun c => ofO (oCut a b c)
/-- a slice's end: an int, or none (written by its absence) -/
def kPart : PV → E
  | .int i => dC (.int i)
  | _ => stk
def dPart (d : E) : E := bindE d kPart
abbrev tDP (G : GC) (F : FC) (W : WX) (d : E) : TO := fun σ H Q => ∃ env cup, Ss G F env cup σ H ∧ PostA G F W (fun x o H' => intO x = some o) env σ H Q (d env cup)
theorem po_n : PO X none (tDP G F W (dC .non)) := by
  have k := @po_none X
  refine ⟨fun pins s σ H Q I h => k.run pins s σ H Q I ?_⟩
  obtain ⟨env, cup, S, q⟩ := h
  exact q none H S ExE.refl rfl
theorem po_s {e : Expr} {d : E} (h : PE X e (tDB G F W d)) : PO X (some e) (tDP G F W (dPart d)) := by
  have k := po_some h
  refine ⟨fun pins s σ H Q I h => k.run pins s σ H Q I ?_⟩
  obtain ⟨env, cup, S, q⟩ := h
  refine ⟨env, cup, S, post_bind q fun x cup1 v H1 S1 e1 p1 q1 => ?_⟩
  cases x with
  | int i => exact ⟨i, p1.int_of, q1 (some i) H1 S1 ExE.refl rfl⟩
  | _ => exact False.elim q1
theorem cut_whole {vs : List V} {lo hi : Option Int} (h : HT.sIx vs.length 0 lo = 0 ∧ HT.sIx vs.length vs.length hi = vs.length) : cutV vs lo hi = vs := by
  unfold cutV
  rw [h.1, h.2]
  simp
theorem reps_inj_len {vs : List V} {xs : List PV} (r : Reps G B O H vs xs) : vs.length = xs.length := r.length
theorem pd_cut {e : Expr} {lo hi : Option Expr} {d l h : E} {p2 pos : Pos} (he : PE X e (tDB (gOf X) F W d)) (hl : PO X lo (tDP (gOf X) F W l)) (hh : PO X hi (tDP (gOf X) F W h)) : PE X (.Subscript e (.Slice lo hi none p2) pos) (tD (gOf X) F W (dCut d l h)) :=
  PE.imp (pe_slice (sl_list.or sl_tupA) he hl hh) fun σ H Q ⟨env, cup, S, q⟩ => ⟨env, cup, S, post_bind q fun x cup1 v H1 S1 e1 p1 q1 => ⟨env, cup1, S1, post_bind q1 fun y cup2 o H2 S2 e2 p2 q2 => ⟨env, cup2, S2, post_bind q2 fun z cup3 o2 H3 S3 e3 p3 q3 => by
    obtain ⟨r, hr, kk⟩ := post_ofO q3 S3
    have p1 := (RB.keep S2 (RB.keep S1 p1 e2) e3)
    unfold oCut at hr
    rw [p2, p3] at hr
    have t : Trk (OO F env σ) H3 := fun a h => S3.oo_trk h
    cases x with
    | tup xs =>
      cases hr
      obtain ⟨a, vs, rfl, h1, h2⟩ := p1.tup_of
      refine .inr ⟨a, vs, rfl, h1, fun hw => ?_, fun _ p hp => kk _ _ (Evl.Ex.new hp) (rep_newT t hp (cut_rep h2 _ _))⟩
      have e1 := cut_whole hw
      have e2 : cutL xs o o2 = xs := by
        unfold cutL
        rw [← h2.length, hw.1, hw.2, h2.length]
        simp
      rw [e2] at kk
      exact kk _ _ (Evl.Ex.refl _) p1.rep_tup
    | lst xs =>
      cases hr
      obtain ⟨a, vs, rfl, h1, h2⟩ := p1.lst_of
      exact .inl ⟨a, vs, rfl, SqL.of h1, fun p hp => kk _ _ (Evl.Ex.new hp) (rep_newL t hp (cut_rep h2 _ _))⟩
    | _ => cases hr⟩⟩⟩
end RX
set_option maxHeartbeats 4000000
namespace RX
open PySem L2
variable {G : GC} {B : Option Addr} {O O' : Addr → Prop} {H H' H1 : Hp} {X : Cx}
variable {F : FC} {env : En} {cup cup' : Cup} {σ : L2.St} {W : WX}

/-! ### items, the box's too -/
def kIx (x y : PV) : E := fun env c => match x with
  | .box => (match y with
    | .int i => ofO (ixF c i) env c
    | _ => .stuck)
  | x => ofO (oIx x y) env c
def dIx (a b : E) : E := bindE a fun x => bindE b fun y => kIx x y
theorem pd_ix2 {a b : Expr} {da db : E} {pos : Pos} (ha : PE X a (tDB (gOf X) F W da)) (hb : PE X b (tDB (gOf X) F W db)) (hs : isSlice b = false) : PE X (.Subscript a b pos) (tD (gOf X) F W (dIx da db)) :=
  PE.imp (pe_ix ix_seq ha hb (plainIx hs)) fun σ H Q ⟨env, cup, S, q⟩ => ⟨env, cup, S, post_bind q fun x cup1 v H1 S1 e1 p1 q1 => ⟨env, cup1, S1, post_bind q1 fun y cup2 w H2 S2 e2 p2 q2 => by
    have p1 := RB.keep S1 p1 e2
    unfold kIx at q2
    cases x with
    | box =>
      cases y with
      | int i =>
        obtain ⟨z, hz, kk⟩ := post_ofO q2 S2
        cases p2.int_of
        rcases p1 with p1 | ⟨_, _, _, _, p1, _⟩
        · cases p1 with
          | box hb =>
            obtain ⟨vs, h1, h2⟩ := S2.box _ hb
            obtain ⟨u, h3, h4⟩ := ixF_at h2 hz
            exact .inl ⟨_, vs, i, u, rfl, rfl, SqL.of h1, h3, kk u H2 (Evl.Ex.refl _) h4⟩
        · cases p1
      | _ => exact False.elim q2
    | tup xs =>
      obtain ⟨z, hz, kk⟩ := post_ofO q2 S2
      cases y with
      | int i =>
        cases p2.int_of
        obtain ⟨a, vs, rfl, h1, h2⟩ := p1.tup_of
        obtain ⟨u, h3, h4⟩ := ixF_at h2 hz
        exact .inr (.inl ⟨a, vs, i, u, rfl, rfl, h1, h3, kk u H2 (Evl.Ex.refl _) h4⟩)
      | _ => cases hz
    | lst xs =>
      obtain ⟨z, hz, kk⟩ := post_ofO q2 S2
      cases y with
      | int i =>
        cases p2.int_of
        obtain ⟨a, vs, rfl, h1, h2⟩ := p1.lst_of
        obtain ⟨u, h3, h4⟩ := ixF_at h2 hz
        exact .inl ⟨a, vs, i, u, rfl, rfl, SqL.of h1, h3, kk u H2 (Evl.Ex.refl _) h4⟩
      | _ => cases hz
    | _ =>
      obtain ⟨z, hz, kk⟩ := post_ofO q2 S2
      cases y <;> cases hz⟩⟩

/-! ### borrowed argument lists -/
abbrev RBs (G : GC) (B : Option Addr) (O : Addr → Prop) (H : Hp) (vs : List V) (xs : List PV) : Prop := Paired (RB G B O H) vs xs
abbrev tDAB (G : GC) (F : FC) (W : WX) (d : E) : TA := fun σ H Q => ∃ env cup, Ss G F env cup σ H ∧ PostA G F W (fun x vs H' => ∃ xs, x = .tup xs ∧ RBs G F.B (OO F env σ) H' vs xs) env σ H Q (d env cup)
theorem pdab_nil : PA X [] (tDAB G F W dNil) := PA.imp pa_nil fun σ H Q ⟨env, cup, S, q⟩ => q [] H S ExE.refl ⟨[], rfl, .nil⟩
theorem pdab_cons {e : Expr} {es : List Expr} {d ds : E} (h : PE X e (tDB G F W d)) (hs : PA X es (tDAB G F W ds)) (st : starEach (e :: es) X.env = (false, eval e X.env) :: starEach es X.env) : PA X (e :: es) (tDAB G F W (dCons d ds)) :=
  PA.imp (pa_cons h hs st) fun σ H Q ⟨env, cup, S, q⟩ => ⟨env, cup, S, post_bind q fun x cup1 v H1 S1 e1 p1 q1 => ⟨env, cup1, S1, post_bind q1 fun y cup2 ws H2 S2 e2 p2 q2 => by
    obtain ⟨z, hz, kk⟩ := post_ofOA q2 S2
    obtain ⟨xs, rfl, rs⟩ := p2
    cases hz
    exact kk _ H2 (Evl.Ex.refl _) ⟨_, rfl, .cons (RB.keep S1 p1 e2) rs⟩⟩⟩
abbrev rCall (G : GC) (B : Option Addr) (f : List PV → Option PV) : List V → Hp → VK → Prop := fun vs H Q => ∃ O xs z, RBs G B O H vs xs ∧ f xs = some z ∧ Trk O H ∧ ∀ v H', Evl.Ex H H' → Rep G B O H' v z → Q v H'
/-- a built-in function, by values -/
def BF (X : Cx) (g : Value) (f : List PV → Option PV) : Prop := ∀ B, CallR X g (rCall (gOf X) B f)
def tupO (f : List PV → Option PV) : PV → Option PV
  | .tup xs => f xs
  | _ => none
def dBi (f : List PV → Option PV) (ds : E) : E := bindE ds fun x => ofO (tupO f x)
theorem bi_imp {f : List PV → Option PV} {ds : E} (σ : L2.St) (H : Hp) (Q : VK) (h : tD (gOf X) F W (dBi f ds) σ H Q) : tCB (rCall (gOf X) F.B f) (tDAB (gOf X) F W ds) σ H Q := by
  obtain ⟨env, cup, S, q⟩ := h
  refine ⟨env, cup, S, post_bind q fun x cup1 vs H1 S1 e1 p1 q1 => ?_⟩
  obtain ⟨z, hz, kk⟩ := post_ofO q1 S1
  obtain ⟨xs, rfl, rs⟩ := p1
  exact ⟨OO F env σ, xs, z, rs, hz, fun a h => S1.oo_trk h, kk⟩
def isStar : Expr → Bool
  | .Starred .. => true
  | _ => false
theorem star_cons {e : Expr} {es : List Expr} {env : Env} (h : isStar e = false) : starEach (e :: es) env = (false, eval e env) :: starEach es env := by
  cases e <;> first | rfl | (cases h)
theorem star_all {es : List Expr} {env : Env} : es.all (fun e => !isStar e) = true → ∀ pos, (backTo pos (starEach es env)).any (·.1) = false := by
  induction es with
  | nil => intro _ _; rfl
  | cons e es ih =>
    intro h pos
    rw [List.all_cons, Bool.and_eq_true, Bool.not_eq_true'] at h
    rw [star_cons h.1]
    show (false || (backTo pos (starEach es env)).any (·.1)) = false
    rw [ih h.2 pos]
    rfl
theorem pd_bi {f : List PV → Option PV} {x : Str} {id : String} {e : Expr} {es : List Expr} {ds : E} {p pos : Pos} (hf : BF X (.builtin id) f) (hg : Gl X x) (hm : X.mg x = none) (hv : bootBuiltins x = some (.builtin id)) (ha : PA X (e :: es) (tDAB (gOf X) F W ds)) (hn : x ≠ "__name__") (hdb : (x == ("__debug__" : Str)) = false)
    (hs : (e :: es).all (fun e => !isStar e) = true) : PE X (.Call (.Name x p) (e :: es) [] pos) (tD (gOf X) F W (dBi f ds)) := by
  have hs' := hs
  rw [List.all_cons, Bool.and_eq_true, Bool.not_eq_true'] at hs'
  exact PE.imp (pe_callB (hf F.B) hg hm hv ha hn hdb (star_cons hs'.1) (star_all hs'.2 _)) bi_imp
theorem pd_biT {f : List PV → Option PV} {x : Str} {id : String} {e : Expr} {es : List Expr} {ds : E} {p pos : Pos} (hf : BF X (.type id) f) (hg : Gl X x) (hm : X.mg x = none) (hv : bootBuiltins x = some (.type id)) (ha : PA X (e :: es) (tDAB (gOf X) F W ds)) (hn : x ≠ "__name__") (hdb : (x == ("__debug__" : Str)) = false)
    (hs : (e :: es).all (fun e => !isStar e) = true) : PE X (.Call (.Name x p) (e :: es) [] pos) (tD (gOf X) F W (dBi f ds)) := by
  have hs' := hs
  rw [List.all_cons, Bool.and_eq_true, Bool.not_eq_true'] at hs'
  exact PE.imp (pe_callTy (hf F.B) hg hm hv ha hn hdb (star_cons hs'.1) (star_all hs'.2 _)) bi_imp

/-! ### the functions -/
theorem RBs.one {vs : List V} {x : PV} (h : RBs G B O H vs [x]) : ∃ v, vs = [v] ∧ RB G B O H v x := by
  cases h with
  | cons a b => cases b; exact ⟨_, rfl, a⟩
theorem RBs.two {vs : List V} {x y : PV} (h : RBs G B O H vs [x, y]) : ∃ v w, vs = [v, w] ∧ RB G B O H v x ∧ RB G B O H w y := by
  cases h with
  | cons a b =>
    cases b with
    | cons c d => cases d; exact ⟨_, _, rfl, a, c⟩
def bLen : List PV → Option PV
  | [.tup xs] => some (.int (Int.ofNat xs.length))
  | [.lst xs] => some (.int (Int.ofNat xs.length))
  | _ => none
theorem bf_len : BF X (.builtin "len") bLen := by
  intro B pins s σ H vs us Q I r ⟨O, xs, z, rs, hf, t, k⟩
  unfold bLen at hf
  split at hf
  · cases hf
    obtain ⟨v, rfl, h⟩ := rs.one
    obtain ⟨a, ws, rfl, h1, h2⟩ := h.tup_of
    exact call_len pins s σ H _ us Q I r ⟨_, _, rfl, .inr ⟨ws, h1, rfl⟩, by rw [h2.length]; exact k _ H (Evl.Ex.refl _) (.int _)⟩
  · cases hf
    obtain ⟨v, rfl, h⟩ := rs.one
    obtain ⟨a, ws, rfl, h1, h2⟩ := h.lst_of
    exact call_len pins s σ H _ us Q I r ⟨_, _, rfl, .inl ⟨ws, SqL.of h1, rfl⟩, by rw [h2.length]; exact k _ H (Evl.Ex.refl _) (.int _)⟩
  · cases hf
def intsOf : List PV → Option (List Int)
  | [] => some []
  | .int i :: r => (intsOf r).map (i :: ·)
  | _ :: _ => none
theorem intsOf_some : ∀ {xs : List PV} {ns : List Int}, intsOf xs = some ns → xs = ns.map PV.int
  | [], _, h => by cases h; rfl
  | x :: r, ns, h => by
    cases x with
    | int i =>
      simp only [intsOf] at h
      cases e : intsOf r with
      | none => rw [e] at h; cases h
      | some ms => rw [e] at h; cases h; rw [intsOf_some e]; rfl
    | _ => cases h
theorem reps_ints {ns : List Int} : ∀ {vs : List V}, Reps G B O H vs (ns.map PV.int) → vs = ns.map V.int := by
  induction ns with
  | nil => intro vs h; cases h; rfl
  | cons n r ih => intro vs h; cases h with | cons a b => cases a; rw [ih b]; rfl
def sumI : List PV → Int → Option Int
  | [], s => some s
  | .int i :: r, s => sumI r (s + i)
  | _ :: _, _ => none
theorem sumI_some : ∀ {xs : List PV} {s t : Int}, sumI xs s = some t → ∃ ns : List Int, xs = ns.map PV.int ∧ t = s + ns.sum
  | [], s, t, h => by cases h; exact ⟨[], rfl, by simp⟩
  | x :: r, s, t, h => by
    cases x with
    | int i =>
      obtain ⟨ns, e1, e2⟩ := sumI_some (xs := r) (s := s + i) h
      exact ⟨i :: ns, by rw [e1]; rfl, by rw [e2, List.sum_cons]; omega⟩
    | _ => cases h
def bSum : List PV → Option PV
  | [.lst xs] => (sumI xs 0).map .int
  | _ => none
theorem bf_sum (hc : X.calm = true) : BF X (.builtin "sum") bSum := by
  intro B pins s σ H vs us Q I r ⟨O, xs, z, rs, hf, t, k⟩
  unfold bSum at hf
  split at hf
  · rename_i ys
    cases e : sumI ys 0 with
    | none => rw [e] at hf; cases hf
    | some n =>
      rw [e] at hf
      cases hf
      obtain ⟨ns, rfl, rfl⟩ := sumI_some e
      obtain ⟨v, rfl, h⟩ := rs.one
      obtain ⟨a, ws, rfl, h1, h2⟩ := h.lst_of
      have := reps_ints h2
      subst this
      exact cr_sum hc pins s σ H _ us Q I r ⟨a, ns, rfl, SqL.of h1, k _ H (Evl.Ex.refl _) (by rw [Int.zero_add]; exact .int _)⟩
  · cases hf
def allB : List PV → Option Bool
  | [] => some true
  | .bl b :: r => (allB r).map (b && ·)
  | _ :: _ => none
def anyB : List PV → Option Bool
  | [] => some false
  | .bl b :: r => (anyB r).map (b || ·)
  | _ :: _ => none
theorem allB_some : ∀ {xs : List PV} {b : Bool}, allB xs = some b → ∃ bs : List Bool, xs = bs.map PV.bl ∧ b = bs.all id
  | [], b, h => by cases h; exact ⟨[], rfl, rfl⟩
  | x :: r, b, h => by
    cases x with
    | bl c =>
      simp only [allB] at h
      cases e : allB r with
      | none => rw [e] at h; cases h
      | some d =>
        rw [e] at h
        cases h
        obtain ⟨bs, e1, e2⟩ := allB_some e
        exact ⟨c :: bs, by rw [e1]; rfl, by rw [e2]; rfl⟩
    | _ => cases h
theorem anyB_some : ∀ {xs : List PV} {b : Bool}, anyB xs = some b → ∃ bs : List Bool, xs = bs.map PV.bl ∧ b = bs.any id
  | [], b, h => by cases h; exact ⟨[], rfl, rfl⟩
  | x :: r, b, h => by
    cases x with
    | bl c =>
      simp only [anyB] at h
      cases e : anyB r with
      | none => rw [e] at h; cases h
      | some d =>
        rw [e] at h
        cases h
        obtain ⟨bs, e1, e2⟩ := anyB_some e
        exact ⟨c :: bs, by rw [e1]; rfl, by rw [e2]; rfl⟩
    | _ => cases h
theorem reps_bls {bs : List Bool} : ∀ {vs : List V}, Reps G B O H vs (bs.map PV.bl) → vs = bs.map V.bl := by
  induction bs with
  | nil => intro vs h; cases h; rfl
  | cons n r ih => intro vs h; cases h with | cons a b => cases a; rw [ih b]; rfl
def bAll : List PV → Option PV
  | [.lst xs] => (allB xs).map .bl
  | _ => none
def bAny : List PV → Option PV
  | [.lst xs] => (anyB xs).map .bl
  | _ => none
theorem bf_all (hc : X.calm = true) : BF X (.builtin "all") bAll := by
  intro B pins s σ H vs us Q I r ⟨O, xs, z, rs, hf, t, k⟩
  unfold bAll at hf
  split at hf
  · rename_i ys
    cases e : allB ys with
    | none => rw [e] at hf; cases hf
    | some n =>
      rw [e] at hf
      cases hf
      obtain ⟨ns, rfl, rfl⟩ := allB_some e
      obtain ⟨v, rfl, h⟩ := rs.one
      obtain ⟨a, ws, rfl, h1, h2⟩ := h.lst_of
      have := reps_bls h2
      subst this
      exact cr_all hc pins s σ H _ us Q I r ⟨a, ns, rfl, SqL.of h1, k _ H (Evl.Ex.refl _) (.bl _)⟩
  · cases hf
theorem bf_any (hc : X.calm = true) : BF X (.builtin "any") bAny := by
  intro B pins s σ H vs us Q I r ⟨O, xs, z, rs, hf, t, k⟩
  unfold bAny at hf
  split at hf
  · rename_i ys
    cases e : anyB ys with
    | none => rw [e] at hf; cases hf
    | some n =>
      rw [e] at hf
      cases hf
      obtain ⟨ns, rfl, rfl⟩ := anyB_some e
      obtain ⟨v, rfl, h⟩ := rs.one
      obtain ⟨a, ws, rfl, h1, h2⟩ := h.lst_of
      have := reps_bls h2
      subst this
      exact cr_any hc pins s σ H _ us Q I r ⟨a, ns, rfl, SqL.of h1, k _ H (Evl.Ex.refl _) (.bl _)⟩
  · cases hf
def bAbs : List PV → Option PV
  | [.int i] => some (.int (if i < 0 then -i else i))
  | _ => none
theorem bf_abs : BF X (.builtin "abs") bAbs := by
  intro B pins s σ H vs us Q I r ⟨O, xs, z, rs, hf, t, k⟩
  unfold bAbs at hf
  split at hf
  · cases hf
    obtain ⟨v, rfl, h⟩ := rs.one
    cases h.int_of
    exact call_abs pins s σ H _ us Q I r ⟨_, rfl, k _ H (Evl.Ex.refl _) (.int _)⟩
  · cases hf
def bInt : List PV → Option PV
  | [.int i] => some (.int i)
  | [.bl b] => some (.int (if b then 1 else 0))
  | _ => none
theorem bf_int : BF X (.type "int") bInt := by
  intro B pins s σ H vs us Q I r ⟨O, xs, z, rs, hf, t, k⟩
  unfold bInt at hf
  split at hf
  · cases hf
    obtain ⟨v, rfl, h⟩ := rs.one
    cases h.int_of
    exact call_int1 pins s σ H _ us Q I r (.inl ⟨_, rfl, k _ H (Evl.Ex.refl _) (.int _)⟩)
  · cases hf
    obtain ⟨v, rfl, h⟩ := rs.one
    cases h.bl_of
    exact call_int1 pins s σ H _ us Q I r (.inr ⟨_, rfl, k _ H (Evl.Ex.refl _) (.int _)⟩)
  · cases hf
def bTup : List PV → Option PV
  | [.lst xs] => some (.tup xs)
  | [.tup xs] => some (.tup xs)
  | _ => none
theorem bf_tup : BF X (.type "tuple") bTup := by
  intro B pins s σ H vs us Q I r ⟨O, xs, z, rs, hf, t, k⟩
  unfold bTup at hf
  split at hf
  · cases hf
    obtain ⟨v, rfl, h⟩ := rs.one
    obtain ⟨a, ws, rfl, h1, h2⟩ := h.lst_of
    exact call_tuple_of pins s σ H _ us Q I r ⟨a, ws, rfl, .inl ⟨SqL.of h1, fun p hp => k _ _ (Evl.Ex.new hp) (rep_newT t hp h2)⟩⟩
  · cases hf
    obtain ⟨v, rfl, h⟩ := rs.one
    obtain ⟨a, ws, rfl, h1, h2⟩ := h.tup_of
    exact call_tuple_of pins s σ H _ us Q I r ⟨a, ws, rfl, .inr ⟨h1, k _ H (Evl.Ex.refl _) h.rep_tup⟩⟩
  · cases hf
def bLst : List PV → Option PV
  | [.lst xs] => some (.lst xs)
  | [.tup xs] => some (.lst xs)
  | _ => none
theorem bf_lst : BF X (.type "list") bLst := by
  intro B pins s σ H vs us Q I r ⟨O, xs, z, rs, hf, t, k⟩
  unfold bLst at hf
  split at hf
  · cases hf
    obtain ⟨v, rfl, h⟩ := rs.one
    obtain ⟨a, ws, rfl, h1, h2⟩ := h.lst_of
    exact call_list_of pins s σ H _ us Q I r ⟨a, ws, rfl, .inl (SqL.of h1), fun p hp => k _ _ (Evl.Ex.new hp) (rep_newL t hp h2)⟩
  · cases hf
    obtain ⟨v, rfl, h⟩ := rs.one
    obtain ⟨a, ws, rfl, h1, h2⟩ := h.tup_of
    exact call_list_of pins s σ H _ us Q I r ⟨a, ws, rfl, .inr h1, fun p hp => k _ _ (Evl.Ex.new hp) (rep_newL t hp h2)⟩
  · cases hf
/-- the type of a value -/
def tyK : PV → Option Nat
  | .int _ => some 0
  | .bl _ => some 1
  | .tup _ => some 3
  | .lst _ => some 4
  | .str _ => some 2
  | .non => some 6
  | _ => none
def tyS : Nat → String
  | 6 => "NoneType"
  | n => tyN n
def isiK (a b : Nat) : Bool := Nat.beq a b || (Nat.beq a 1 && Nat.beq b 0)
def bIsi : List PV → Option PV
  | [x, .ty k] => bif Nat.ble k 4 then (tyK x).map fun a => .bl (isiK a k) else none
  | _ => none
theorem isi_tab : ∀ a b : Nat, (a ≤ 4 ∨ a = 6) → b ≤ 4 → kitB (tyS a) (tyN b) = some (isiK a b) := by
  intro a b ha hb
  have : a = 0 ∨ a = 1 ∨ a = 2 ∨ a = 3 ∨ a = 4 ∨ a = 6 := by omega
  have hb' : b = 0 ∨ b = 1 ∨ b = 2 ∨ b = 3 ∨ b = 4 := by omega
  rcases this with rfl | rfl | rfl | rfl | rfl | rfl <;> rcases hb' with rfl | rfl | rfl | rfl | rfl <;> decide +kernel
theorem tyX_of {v : V} {x : PV} {a : Nat} (h : RB (gOf X) B O H v x) (e : tyK x = some a) : TyX X.K H v (.type (tyS a)) ∧ (a ≤ 4 ∨ a = 6) := by
  cases x with
  | int i => cases e; cases h.int_of; exact ⟨.base (.int i), by omega⟩
  | bl i => cases e; cases h.bl_of; exact ⟨.base (.bl i), by omega⟩
  | str i => cases e; cases h.str_of; exact ⟨.base (.str i), by omega⟩
  | non => cases e; cases h.non_of; exact ⟨.base .non, by omega⟩
  | lst xs =>
    cases e
    obtain ⟨a, ws, rfl, h1, h2⟩ := h.lst_of
    exact ⟨.base (.lst h1), by omega⟩
  | tup xs =>
    cases e
    obtain ⟨a, ws, rfl, h1, h2⟩ := h.tup_of
    rcases h1 with (h1 | ⟨o, h1⟩) | ⟨o, its, n, hk, hc, _⟩
    · exact ⟨.base (.tup h1), by omega⟩
    · exact ⟨.fTuple h1, by omega⟩
    · exact ⟨.kTuple hk hc, by omega⟩
  | _ => cases e
theorem bf_isi : BF X (.builtin "isinstance") bIsi := by
  intro B pins s σ H vs us Q I r ⟨O, xs, z, rs, hf, t, k⟩
  unfold bIsi at hf
  split at hf
  · rename_i x m
    cases e : Nat.ble m 4 with
    | false => rw [e] at hf; cases hf
    | true =>
      rw [e] at hf
      have hm := Nat.le_of_ble_eq_true e
      cases ea : tyK x with
      | none => rw [ea] at hf; cases hf
      | some a =>
        rw [ea] at hf
        cases hf
        obtain ⟨v, w, rfl, h1, h2⟩ := rs.two
        obtain ⟨ty, ha⟩ := tyX_of h1 ea
        rcases h2 with h2 | ⟨_, _, _, _, h2, _⟩
        · cases h2
          exact call_isi pins s σ H _ us Q I r ⟨v, _, _, _, _, rfl, .ty _, ty, kit_ty (isi_tab a m ha hm), k _ H (Evl.Ex.refl _) (.bl _)⟩
        · cases h2
  · cases hf
def bMax : List PV → Option PV
  | [.int i, .int j] => some (.int (if j > i then j else i))
  | _ => none
def bMin : List PV → Option PV
  | [.int i, .int j] => some (.int (if j < i then j else i))
  | _ => none
theorem bf_max (hc : X.calm = true) : BF X (.builtin "max") bMax := by
  intro B pins s σ H vs us Q I r ⟨O, xs, z, rs, hf, t, k⟩
  unfold bMax at hf
  split at hf
  · cases hf
    obtain ⟨v, w, rfl, h1, h2⟩ := rs.two
    cases h1.int_of; cases h2.int_of
    exact call_max2 hc pins s σ H _ us Q I r ⟨_, _, rfl, k _ H (Evl.Ex.refl _) (.int _)⟩
  · cases hf
theorem bf_min (hc : X.calm = true) : BF X (.builtin "min") bMin := by
  intro B pins s σ H vs us Q I r ⟨O, xs, z, rs, hf, t, k⟩
  unfold bMin at hf
  split at hf
  · cases hf
    obtain ⟨v, w, rfl, h1, h2⟩ := rs.two
    cases h1.int_of; cases h2.int_of
    exact call_min2 hc pins s σ H _ us Q I r ⟨_, _, rfl, k _ H (Evl.Ex.refl _) (.int _)⟩
  · cases hf
end RX
set_option maxHeartbeats 4000000
namespace RX
open PySem PySem.Spec PyProof.Rows L2
/-! ### zip and enumerate over lists and tuples, in any mix -/
/-- a list, a tuple -/
def SqK (k : Bool) (K : PySem.W.Frag) (H : Hp) (a : Addr) (xs : List V) : Prop := if k then SqT K H a xs else SqL K H a xs
def ItrK (k : Bool) (h : Heap) (it a : Addr) (i : Nat) : Prop := if k then h.IsTupleIter it a i else h.IsListIter it a i
def IsSq (k : Bool) (h : Heap) (a : Addr) (items : Array Value) : Prop := if k then h.IsTuple a items else h.IsList a items
def itO (k : Bool) (a : Addr) : Obj := if k then { cls := .type "tuple_iterator", data := .fields #[.ref a, .int 0 0] } else { cls := .type "list_iterator", data := .fields #[.ref a, .int 0 0] }
section
variable {X : Cx} {pins : List (Addr × Obj)} {σ : L2.St} {H : Hp} {s : Shared} {a b : Addr} {xs ys : List V} {k k1 k2 : Bool}
theorem Inv.sq (I : Inv X pins σ H s) (h : SqK k X.K H a xs) : ∃ its : List Value, Vals xs its ∧ IsSq k s.heap a its.toArray ∧ a < s.heap.objs.size := by
  cases k with
  | true =>
    obtain ⟨its, r, p, _⟩ := I.tuple (show SqT X.K H a xs from h)
    obtain ⟨o, ho, _⟩ := id p
    exact ⟨its, r, p, Heap.lt_size ho⟩
  | false =>
    obtain ⟨its, r, p, _⟩ := I.list (show SqL X.K H a xs from h)
    exact ⟨its, r, p.isList, p.lt⟩
theorem Inv.sq_inj (I : Inv X pins σ H s) (h : SqK k X.K H a xs) (h' : SqK k X.K H a ys) : xs = ys := by
  cases k with
  | true => exact I.tuple_inj (show SqT X.K H a xs from h) h'
  | false => exact I.list_inj (show SqL X.K H a xs from h) h'
theorem drawsK {prog : Program} {w : World} {A : Around} (hh : A.handled = none) (it l : Addr) (hne : l ≠ it) (items : Array Value) :
    Draws prog w A it [it, l] items.size (fun i v => items[i]? = some v) (fun i h => ItrK k h it l i ∧ IsSq k h l items) := by
  cases k with
  | true => exact Draws.tuple hh it l hne items
  | false => exact Draws.list hh it l hne items
theorem beginsK (l : Addr) (items : Array Value) : Begins (.ref l) (itO k l) fun h => IsSq k h l items := by
  cases k with
  | true => exact begins_tuple l items
  | false => exact begins_list l items
theorem itrK0 {h : Heap} {it : Addr} (e : h.get? it = some (itO k a)) : ItrK k h it a 0 := by
  cases k with
  | true => exact ⟨_, e, rfl, rfl⟩
  | false => exact ⟨_, e, rfl, rfl⟩
theorem itrK_at {h h' : Heap} {it : Addr} {i : Nat} (x : ItrK k h it a i) (q : ∀ o, h.get? it = some o → h'.get? it = some o) : ItrK k h' it a i := by
  cases k with
  | true => exact Heap.IsTupleIter.at x q
  | false => exact Heap.IsListIter.at x q
theorem itrK_obj {h : Heap} {it : Addr} {i : Nat} (x : ItrK k h it a i) : ∃ o, h.get? it = some o ∧ ∀ v, o.data ≠ .cell v := by
  cases k with
  | true => obtain ⟨o, e, _, d⟩ := (show h.IsTupleIter it a i from x); exact ⟨o, e, fun v q => by rw [d] at q; cases q⟩
  | false => obtain ⟨o, e, _, d⟩ := (show h.IsListIter it a i from x); exact ⟨o, e, fun v q => by rw [d] at q; cases q⟩
theorem isSq_at {h h' : Heap} {items : Array Value} (x : IsSq k h a items) (q : ∀ o, h.get? a = some o → h'.get? a = some o) : IsSq k h' a items := by
  cases k with
  | true => exact Heap.IsTuple.at x q
  | false => exact Heap.IsList.at x q
end
/-- what zip of both gives -/
def ItM (k1 k2 : Bool) (K : PySem.W.Frag) (a b : Addr) : It :=
  ⟨fun i H => ∃ (xs ys : List V) (x y : V), SqK k1 K H a xs ∧ SqK k2 K H b ys ∧ xs[i]? = some x ∧ ys[i]? = some y,
    fun i H v H' => ∃ T x y, v = .ref T ∧ H T = none ∧ H' = upd H T (.tup [x, y]) ∧ (∀ xs, SqK k1 K H a xs → xs[i]? = some x) ∧ ∀ ys, SqK k2 K H b ys → ys[i]? = some y,
    fun i H => ∃ xs ys : List V, SqK k1 K H a xs ∧ SqK k2 K H b ys ∧ (i = xs.length ∨ i = ys.length) ∧ i ≤ xs.length ∧ i ≤ ys.length⟩
theorem sep_of {a b z TI TO i1 i2 : Addr} (D : ZipApart z TI TO i1 i2 a b) : ZipSep2 z TI TO i1 i2 [i1, a] [i2, b] where
  TIz := D.TIz
  TOz := D.TOz
  TITO := D.TITO
  TIi1 := D.TIi1
  mem1 := by simp
  zf1 := by simp only [List.mem_cons, List.not_mem_nil, or_false, not_or]; exact ⟨D.i1z.symm, D.l1z.symm⟩
  Tf1 := by simp only [List.mem_cons, List.not_mem_nil, or_false, not_or]; exact ⟨D.TOi1, D.l1TO.symm⟩
  TIi2 := D.TIi2
  mem2 := by simp
  zf2 := by simp only [List.mem_cons, List.not_mem_nil, or_false, not_or]; exact ⟨D.i2z.symm, D.l2z.symm⟩
  Tf2 := by simp only [List.mem_cons, List.not_mem_nil, or_false, not_or]; exact ⟨D.TOi2, D.l2TO.symm⟩
  sep1_2 := by simp only [List.mem_cons, List.not_mem_nil, or_false, not_or]; exact ⟨D.i12, D.l2i1.symm⟩
  sep2_1 := by simp only [List.mem_cons, List.not_mem_nil, or_false, not_or]; exact ⟨D.i12.symm, D.l1i2.symm⟩
theorem turn_zipM {k1 k2 : Bool} {P : Program} {w : World} {K : PySem.W.Frag} {elts : List Expr} {kk : Nat} {tpos : Pos} {a b z TI TO i1 i2 : Addr} (D : ZipApart z TI TO i1 i2 a b) :
    Turn P w K (.Tuple elts kk tpos) (ItM k1 k2 K a b) [z, TI, TO, i1, i2] z (fun i h => IsZip h z TI TO .none ∧ IsTupOf2 h TI (.ref i1) (.ref i2) ∧ (∃ x y, IsTupOf2 h TO x y) ∧ ItrK k1 h i1 a i ∧ ItrK k2 h i2 b i) where
  mem := by simp
  obj := fun i h st c hc => by
    obtain ⟨hz, hTI, ⟨x, y, hTO⟩, q1, q2⟩ := st
    have e' : c = z ∨ c = TI ∨ c = TO ∨ c = i1 ∨ c = i2 := by simpa using hc
    rcases e' with q | q | q | q | q
    · rw [q]; exact ⟨_, hz, fun v q => nomatch q⟩
    · rw [q]; exact ⟨_, hTI, fun v q => nomatch q⟩
    · rw [q]; exact ⟨_, hTO, fun v q => nomatch q⟩
    · rw [q]; exact itrK_obj q1
    · rw [q]; exact itrK_obj q2
  keep := fun i h h' st k => by
    obtain ⟨hz, hTI, ⟨x, y, hTO⟩, h1, h2⟩ := st
    exact ⟨k z (by simp) _ hz, k TI (by simp) _ hTI, ⟨x, y, k TO (by simp) _ hTO⟩, itrK_at h1 fun o q => k i1 (by simp) o q, itrK_at h2 fun o q => k i2 (by simp) o q⟩
  item := by
    intro X hP hw hK hc i pins s σ H E I hf st hg
    subst hP hw hK
    obtain ⟨hz, hTI, ⟨x0, y0, hTO⟩, h1, h2⟩ := st
    obtain ⟨xs, ys, x, y, hqx, hqy, hx, hy⟩ := hg
    obtain ⟨its, rv, p, la⟩ := Inv.sq I hqx
    obtain ⟨its2, rv2, p2, lb⟩ := Inv.sq I hqy
    obtain ⟨u, hu, ru⟩ := rv.get hx
    obtain ⟨u2, hu2, ru2⟩ := rv2.get hy
    have hzl : z < s.heap.objs.size := Heap.lt_size hz
    have hi1 : i < its.length := (List.getElem?_eq_some_iff.mp hu).1
    have hi2 : i < its2.length := (List.getElem?_eq_some_iff.mp hu2).1
    refine wpAny_pyNext_zipD2_item (sep_of D) (drawsK (prog := X.prog) (w := X.w) (A := X.A.in1) (k := k1) (show X.A.in1.handled = none from I.ok.hd hc) i1 a D.l1i1 its.toArray) (drawsK (prog := X.prog) (w := X.w) (A := X.A.in1) (k := k2) (show X.A.in1.handled = none from I.ok.hd hc) i2 b D.l2i2 its2.toArray) hz hTI hTO ⟨h1, p⟩ ⟨h2, p2⟩ (by simpa using hi1) (by simpa using hi2) fun x1 x2 h' tk y1 y2 z' TO' s1 s2 hT hsz hk => ?_
    have e1 : x1 = u := by
      have : its[i]? = some x1 := by simpa using y1
      rw [hu] at this
      exact (Option.some.inj this).symm
    have e2 : x2 = u2 := by
      have : its2[i]? = some x2 := by simpa using y2
      rw [hu2] at this
      exact (Option.some.inj this).symm
    subst e1 e2
    refine ⟨_, rfl, wpAny_letOwnedTupleGo_zip (s := { s with heap := h', toks := tk }) z' fun h'' z'' sb => ?_⟩
    have hT2 : h''.get? s.heap.objs.size = some { cls := .type "tuple", data := .seq #[x1, x2] } := (sb.2 _ (Nat.ne_of_gt hzl)).trans hT
    have new : ObjOk X.prog X.w (upd H s.heap.objs.size (.tup [x, y])) h'' s.heap.objs.size (.tup [x, y]) :=
      ⟨by show 2 ≤ sizeLine; decide, [x1, x2], .cons ru (.cons ru2 .nil), ⟨_, hT2, rfl, _, rfl⟩⟩
    have I1 : Inv X pins σ (upd H s.heap.objs.size (.tup [x, y])) { s with heap := h'', toks := tk } :=
      I.turnedNew (t' := tk) (ch := [z, TI, TO, i1, i2]) (fun c o hb q => (sb.2 c (fun q' => hb (by simp [q']))).trans (hk c o (fun q' => hb (by simp [q'])) (fun q' => hb (by simp [q'])) (fun q' => hb (by simp [q'])) (fun q' => hb (by simp [q'])) q)) hf (Nat.le_refl _) new
    refine ⟨.ref s.heap.objs.size, _, I1, rfl, ⟨_, x, y, rfl, I.hok.fresh (Nat.le_refl _), rfl, fun l hl => by rw [Inv.sq_inj I hl hqx]; exact hx, fun l hl => by rw [Inv.sq_inj I hl hqy]; exact hy⟩, ⟨z'', ?_, ⟨x1, x2, ?_⟩, ?_, ?_⟩, fun c hcm => ?_⟩
    · exact (sb.2 _ D.TIz).trans (hk _ _ D.TIz D.TITO D.TIi1 D.TIi2 hTI)
    · exact (sb.2 _ D.TOz).trans TO'
    · exact itrK_at s1.1 fun o q => (sb.2 _ D.i1z).trans q
    · exact itrK_at s2.1 fun o q => (sb.2 _ D.i2z).trans q
    · have hlt : c < s.heap.objs.size := by
        have e' : c = z ∨ c = TI ∨ c = TO ∨ c = i1 ∨ c = i2 := by simpa using hcm
        rcases e' with q | q | q | q | q
        · rw [q]; exact hzl
        · rw [q]; exact Heap.lt_size hTI
        · rw [q]; exact Heap.lt_size hTO
        · rw [q]; obtain ⟨_, e1, _⟩ := itrK_obj h1; exact Heap.lt_size e1
        · rw [q]; obtain ⟨_, e2, _⟩ := itrK_obj h2; exact Heap.lt_size e2
      rw [upd_ne (Nat.ne_of_lt hlt)]
      exact (hf c hcm).1
  done := by
    intro X hP hw hK hc i pins s σ H E I hf st hg
    subst hP hw hK
    obtain ⟨hz, hTI, ⟨x0, y0, hTO⟩, h1, h2⟩ := st
    obtain ⟨xs, ys, hqx, hqy, hend, hl1, hl2⟩ := hg
    obtain ⟨its, rv, p, _⟩ := Inv.sq I hqx
    obtain ⟨its2, rv2, p2, _⟩ := Inv.sq I hqy
    have l1 := rv.length
    have l2 := rv2.length
    exact wpAny_pyNext_zipD2_end (sep_of D) (drawsK (prog := X.prog) (w := X.w) (A := X.A.in1) (k := k1) (show X.A.in1.handled = none from I.ok.hd hc) i1 a D.l1i1 its.toArray) (drawsK (prog := X.prog) (w := X.w) (A := X.A.in1) (k := k2) (show X.A.in1.handled = none from I.ok.hd hc) i2 b D.l2i2 its2.toArray) hz hTI hTO ⟨h1, p⟩ ⟨h2, p2⟩ (by simp only [List.size_toArray]; omega) (by simp only [List.size_toArray]; omega) (by simp only [List.size_toArray]; omega)
      fun h' tk hk => ⟨rfl, I.turnedL (t' := tk) (ch := [z, TI, TO, i1, i2]) (fun c o hb q =>
      hk c o (fun q' => hb (by simp [q'])) (fun q' => hb (by simp [q'])) (fun q' => hb (by simp [q'])) (fun q' => hb (by simp [q'])) q) hf⟩
  self := fun A i s Q E st h => wpAny_pyIter_zip st.1 h
def iZipM (K : PySem.W.Frag) (ta : TA) : TI := fun σ H R => ta σ H fun vs H1 => ∃ (k1 k2 : Bool) (a b : Addr) (xs ys : List V), vs = [.ref a, .ref b] ∧ SqK k1 K H1 a xs ∧ SqK k2 K H1 b ys ∧ R (ItM k1 k2 K a b) H1
theorem pi_zipM {X : Cx} {e e2 : Expr} {ta : TA} {p pos tpos : Pos} {elts : List Expr} {kk : Nat} (hg : Gl X "zip") (hm : X.mg "zip" = none) (ha : PA X [e, e2] ta)
    (hs : starEach [e, e2] X.env = (false, eval e X.env) :: starEach [e2] X.env) (hpl : (backTo pos (starEach [e2] X.env)).any (·.1) = false) :
    PI X (.Tuple elts kk tpos) (.Call (.Name "zip" p) [e, e2] [] pos) (iZipM X.K ta) := by
  refine ⟨fun pins s σ H R I h => ?_⟩
  refine Call_ (ld_blt I hg hm PyProof.Rows.boot_zip (PyProof.Rows.callWith_type1 (thn (ha.run pos pins s σ H _ I h) fun us s1 ⟨vs, H1, I1, r1, q1⟩ => ?_) hs hpl))
  obtain ⟨k1, k2, a, b, xs, ys, ex, hqx, hqy, q⟩ := q1
  subst ex
  cases r1 with
  | cons r rr =>
    cases rr with
    | cons r' rr =>
      cases rr
      cases r
      cases r'
      have fresh5 : ∀ c, c ∈ [s1.heap.objs.size + 4, s1.heap.objs.size + 2, s1.heap.objs.size + 3, s1.heap.objs.size, s1.heap.objs.size + 1] → FpOk X pins H1 c := fun c hcm => by
        have e' : c = s1.heap.objs.size + 4 ∨ c = s1.heap.objs.size + 2 ∨ c = s1.heap.objs.size + 3 ∨ c = s1.heap.objs.size ∨ c = s1.heap.objs.size + 1 := by simpa using hcm
        have hle : s1.heap.objs.size ≤ c := by
          rcases e' with z | z | z | z | z
          · rw [z]; exact Nat.le_add_right _ _
          · rw [z]; exact Nat.le_add_right _ _
          · rw [z]; exact Nat.le_add_right _ _
          · rw [z]; exact Nat.le_refl _
          · rw [z]; exact Nat.le_add_right _ _
        exact I1.fpOk hle (I1.hok.fresh hle)
      obtain ⟨its, rv, p1, la⟩ := Inv.sq I1 hqx
      obtain ⟨its2, rv2, p2, lb⟩ := Inv.sq I1 hqy
      refine zip_begins2 (beginsK (k := k1) a its.toArray) (beginsK (k := k2) b its2.toArray) p1 p2 fun h' hz hTI hTO h1 h2 hsz hk => wpAny_pyIter_zip hz ?_
      have I2 : Inv X pins σ H1 { s1 with heap := h' } := I1.kept (t' := s1.toks) hk
      exact ⟨s1.heap.objs.size + 4, [s1.heap.objs.size + 4, s1.heap.objs.size + 2, s1.heap.objs.size + 3, s1.heap.objs.size, s1.heap.objs.size + 1], _, _, H1, rfl, I2, turn_zipM (PySem.W.ktu_apart s1.heap.objs.size a b la lb), ⟨hz, hTI, ⟨_, _, hTO⟩, itrK0 h1, itrK0 h2⟩, fresh5, q⟩
/-- the items of a list or a tuple with their places -/
def ItE (k : Bool) (K : PySem.W.Frag) (a : Addr) : It :=
  ⟨fun i H => ∃ (xs : List V) (x : V), SqK k K H a xs ∧ xs[i]? = some x, fun i H v H' => ∃ T x, v = .ref T ∧ H T = none ∧ H' = upd H T (.tup [.int (i : Nat), x]) ∧ ∀ xs, SqK k K H a xs → xs[i]? = some x, fun i H => ∃ xs : List V, SqK k K H a xs ∧ xs.length = i⟩
end RX
set_option maxHeartbeats 4000000
namespace RX
open PySem PySem.Spec PyProof.Rows L2
theorem meets_enum1B {v : Value} {o : Obj} {H : Heap → Prop} (B : Begins v o H) :
    Meets (Builtin.«enumerate.__new__» ⟨[.type "enumerate", v], []⟩) (fun _ R s => H s.heap ∧
      R (.ok (.ret (.ref (s.heap.push o).objs.size))) { s with heap := (s.heap.push o).push { cls := .type "enumerate", data := .fields #[.none, .bool false, .ref s.heap.objs.size, rawInt 0, .none, .none] } }) :=
  .of_wp fun prog w A R s h => by
    obtain ⟨hp, g, d, tk, os⟩ := s; obtain ⟨h1, h⟩ := h
    have hsub := sub_enumerate
    have q1 : ∀ {A' : Around} {E : Value → Shared → Prop} {Q : Value → Shared → Prop}, Q (.ref hp.objs.size) ⟨hp.push o, g, d, tk, os⟩ → wpAny (model prog w) A' (pyIter v) Q E ⟨hp, g, d, tk, os⟩ :=
      fun q => B.iter prog w _ _ ⟨hp, g, d, tk, os⟩ _ h1 q
    wp_walk using q1
    refine wpAny_stack_any fun st => wpAny_pure ?_
    split
    · rename_i c _ _ _ _ _
      cases (c == Value.type "enumerate")
      · wp_walk using q1
        exact ⟨_, rfl, h⟩
      · wp_walk using q1
        exact ⟨_, rfl, h⟩
    · wp_walk using q1
      exact ⟨_, rfl, h⟩
theorem enum1_begins {prog : Program} {w : World} {A : Around} {E : Value → Shared → Prop} {s : Shared} {v : Value} {o : Obj} {H : Heap → Prop} {Q : Value → Shared → Prop} (B : Begins v o H) (h1 : H s.heap)
    (h : ∀ h', IsEnum h' (s.heap.objs.size + 1) s.heap.objs.size 0 .none → h'.get? s.heap.objs.size = some o → h'.objs.size = s.heap.objs.size + 2 →
      (∀ b o, s.heap.get? b = some o → h'.get? b = some o) → Q (.ref (s.heap.objs.size + 1)) { s with heap := h' }) :
    wpAny (model prog w) A (call (.type "enumerate") [v]) Q E s := by
  refine callType_new F.called_enumerate (by decide) (F.typeCall_enumerate_1 _) (F.newCall_enumerate_1 _) (fun obj => F.args_object_init_2 obj _) F.entry_enumerate_new
    (meets_enum1B B) ⟨h1, ?_⟩
  have hz : (s.heap.push o).objs.size = s.heap.objs.size + 1 := Heap.size_push ..
  show _ ∧ _
  rw [hz]
  have he : IsEnum ((s.heap.push o).push { cls := .type "enumerate", data := .fields #[.none, .bool false, .ref s.heap.objs.size, rawInt 0, .none, .none] }) (s.heap.objs.size + 1) s.heap.objs.size 0 .none := by
    have := Heap.get?_push_size (s.heap.push o) (o := { cls := .type "enumerate", data := .fields #[.none, .bool false, .ref s.heap.objs.size, rawInt 0, .none, .none] }) rfl
    rw [hz] at this; exact this
  refine ⟨⟨_, he, rfl⟩, h _ he (Heap.get?_push_of_some _ (Heap.get?_push_size _ B.free)) (by rw [Heap.size_push, hz]) fun b o x => Heap.get?_push_of_some _ (Heap.get?_push_of_some _ x)⟩
theorem turn_enumM {k : Bool} {P : Program} {w : World} {K : PySem.W.Frag} {elts : List Expr} {kk : Nat} {tpos : Pos} (a e it : Addr) (hne : e ≠ it) (hea : a ≠ e) (hia : a ≠ it) :
    Turn P w K (.Tuple elts kk tpos) (ItE k K a) [e, it] e (fun i h => (∃ old, IsEnum h e it ((i : Nat) : Int) old) ∧ ItrK k h it a i) where
  mem := by simp
  obj := fun i h st b hb => by
    obtain ⟨⟨old, he⟩, q⟩ := st
    have e' : b = e ∨ b = it := by simpa using hb
    rcases e' with z | z
    · rw [z]; exact ⟨_, he, fun v q => nomatch q⟩
    · rw [z]; exact itrK_obj q
  keep := fun i h h' st k => let ⟨⟨old, he⟩, hi⟩ := st; ⟨⟨old, k e (by simp) _ he⟩, itrK_at hi fun o q => k it (by simp) o q⟩
  item := by
    intro X hP hw hK hc i pins s σ H E I hf st hg
    subst hP hw hK
    obtain ⟨⟨old, he⟩, hit⟩ := st
    obtain ⟨xs, x, hq, hx⟩ := hg
    obtain ⟨its, rv, p, hz⟩ := Inv.sq I hq
    obtain ⟨u, hu, ru⟩ := rv.get hx
    have hel : e < s.heap.objs.size := Heap.lt_size he
    have hil : it < s.heap.objs.size := by obtain ⟨_, q, _⟩ := itrK_obj hit; exact Heap.lt_size q
    have hi1 : i < its.length := (List.getElem?_eq_some_iff.mp hu).1
    have hef : e ∉ [it, a] := by simp only [List.mem_cons, List.not_mem_nil, or_false, not_or]; exact ⟨hne, hea.symm⟩
    refine wpAny_pyNext_enum_itemC (drawsK (prog := X.prog) (w := X.w) (A := X.A.in1) (k := k) (show X.A.in1.handled = none from I.ok.hd hc) it a hia its.toArray) he ⟨hit, p⟩ (by simpa using hi1) hne hef fun x1 h' tk y1 ho s1 hT hsz hk => ?_
    have e1 : x1 = u := by
      have : its[i]? = some x1 := by simpa using y1
      rw [hu] at this
      exact (Option.some.inj this).symm
    subst e1
    refine ⟨_, rfl, wpAny_letOwnedTupleGo_enum (s := { s with heap := h', toks := tk + 1 }) ho fun h'' he' sb => ?_⟩
    have hT2 : h''.get? s.heap.objs.size = some { cls := .type "tuple", data := .seq #[.int i tk, x1] } := (sb.2 _ (Nat.ne_of_gt hel)).trans hT
    have new : ObjOk X.prog X.w (upd H s.heap.objs.size (.tup [.int (i : Nat), x])) h'' s.heap.objs.size (.tup [.int (i : Nat), x]) :=
      ⟨by show 2 ≤ sizeLine; decide, [.int i tk, x1], .cons ⟨_, rfl⟩ (.cons ru .nil), ⟨_, hT2, rfl, _, rfl⟩⟩
    have I1 : Inv X pins σ (upd H s.heap.objs.size (.tup [.int (i : Nat), x])) { s with heap := h'', toks := tk + 1 } :=
      I.turnedNew (ch := [e, it]) (fun b ob hb q => (sb.2 b (fun z => hb (by simp [z]))).trans (hk b ob (fun z => hb (by simp [z])) (fun z => hb (by simp [z])) q)) hf (Nat.le_refl _) new
    refine ⟨.ref s.heap.objs.size, _, I1, rfl, ⟨_, x, rfl, I.hok.fresh (Nat.le_refl _), rfl, fun ys hy => by rw [Inv.sq_inj I hy hq]; exact hx⟩, ⟨⟨x1, ?_⟩, itrK_at s1.1 fun o q => (sb.2 it (Ne.symm hne)).trans q⟩, fun b hb => ?_⟩
    · have e1 : ((i + 1 : Nat) : Int) = (i : Int) + 1 := by omega
      rw [e1]; exact he'
    · have hb' : b < s.heap.objs.size := by
        have e' : b = e ∨ b = it := by simpa using hb
        rcases e' with z | z
        · rw [z]; exact hel
        · rw [z]; exact hil
      rw [upd_ne (Nat.ne_of_lt hb')]
      exact (hf b hb).1
  done := by
    intro X hP hw hK hc i pins s σ H E I hf st hg
    subst hP hw hK
    obtain ⟨⟨old, he⟩, hit⟩ := st
    obtain ⟨xs, hq, hx⟩ := hg
    obtain ⟨its, rv, p, hz⟩ := Inv.sq I hq
    obtain ⟨f0, f1, f2, f3, f4, f5⟩ := hf it (by simp)
    have hl := rv.length
    have hsz : its.toArray.size = i := by simp only [List.size_toArray]; omega
    refine wpAny_pyNext_enum_endD (drawsK (prog := X.prog) (w := X.w) (A := X.A.in1) (k := k) (show X.A.in1.handled = none from I.ok.hd hc) it a hia its.toArray) he (by rw [hsz]; exact ⟨hit, p⟩) fun h' eb => ⟨rfl, I.turned (t' := s.toks) (fun b o hb q => eb b o hb q) f0 f1 f3 f4 f5⟩
  self := fun A i s Q E st h => let ⟨⟨_, he⟩, _⟩ := st; wpAny_pyIter_enum he h
def iEnumM (K : PySem.W.Frag) (ta : TA) : TI := fun σ H R => ta σ H fun vs H1 => ∃ (k : Bool) (a : Addr) (xs : List V), vs = [.ref a] ∧ SqK k K H1 a xs ∧ R (ItE k K a) H1
theorem pi_enumM {X : Cx} {e : Expr} {ta : TA} {p pos tpos : Pos} {elts : List Expr} {kk : Nat} (hg : Gl X "enumerate") (hm : X.mg "enumerate" = none) (ha : PA X [e] ta) (hs : starEach [e] X.env = [(false, eval e X.env)]) :
    PI X (.Tuple elts kk tpos) (.Call (.Name "enumerate" p) [e] [] pos) (iEnumM X.K ta) := by
  refine ⟨fun pins s σ H R I h => ?_⟩
  refine Call_ (ld_blt I hg hm boot_enumerate (PyProof.Rows.callWith_type1 (thn (ha.run pos pins s σ H _ I h) fun us s1 ⟨vs, H1, I1, r1, q1⟩ => ?_) hs rfl))
  obtain ⟨k, a, xs, ex, hq, q⟩ := q1
  subst ex
  cases r1 with
  | cons r rr =>
    cases rr
    cases r
    obtain ⟨its, rv, p', la⟩ := Inv.sq I1 hq
    refine enum1_begins (beginsK (k := k) a its.toArray) p' fun h' he hit hsz hk => wpAny_pyIter_enum he ?_
    have I2 : Inv X pins σ H1 { s1 with heap := h' } := I1.kept (t' := s1.toks) hk
    refine ⟨s1.heap.objs.size + 1, [s1.heap.objs.size + 1, s1.heap.objs.size], _, _, H1, rfl, I2, turn_enumM (k := k) a (s1.heap.objs.size + 1) s1.heap.objs.size (Nat.succ_ne_self _) (Nat.ne_of_lt (Nat.lt_succ_of_lt la)) (Nat.ne_of_lt la), ⟨⟨.none, he⟩, itrK0 hit⟩, fun b hb => ?_, q⟩
    have e' : b = s1.heap.objs.size + 1 ∨ b = s1.heap.objs.size := by simpa using hb
    have hle : s1.heap.objs.size ≤ b := by
      rcases e' with z | z
      · rw [z]; exact Nat.le_add_right _ _
      · rw [z]; exact Nat.le_refl _
    exact I1.fpOk hle (I1.hok.fresh hle)
/-- a list or a tuple, by itself -/
def ItS (k : Bool) (K : PySem.W.Frag) (a : Addr) : It := if k then Itt K a else Itl K a
def iSeq (K : PySem.W.Frag) (tl : TE) : TI := fun σ H R => tl σ H fun x H1 => ∃ (k : Bool) (a : Addr) (xs : List V), x = .ref a ∧ SqK k K H1 a xs ∧ R (ItS k K a) H1
theorem pi_seq {X : Cx} {tg l : Expr} {tl : TE} (hl : PE X l tl) : PI X tg l (iSeq X.K tl) := by
  refine ⟨fun pins s σ H R I h => ?_⟩
  refine thn (hl.run pins s σ H _ I h) fun v s1 ⟨x, H1, I1, r1, q1⟩ => ?_
  obtain ⟨k, a, xs, e, hq, q⟩ := q1
  subst e
  cases r1
  cases k with
  | false =>
    obtain ⟨its, rv, p, hz⟩ := I1.list (show SqL X.K H1 a xs from hq)
    refine wpAny_pyIter_list p.isList ?_
    refine ⟨s1.heap.objs.size, [s1.heap.objs.size], _, _, H1, rfl, I1.kept (t' := s1.toks) fun b o e => Heap.get?_push_of_some _ e, turn_list a _, ⟨_, Heap.get?_push_size _ rfl, rfl, rfl⟩, fun b hb => ?_, q⟩
    have e : b = s1.heap.objs.size := by simpa using hb
    subst e
    exact I1.fpOk (Nat.le_refl _) (I1.hok.fresh (Nat.le_refl _))
  | true =>
    obtain ⟨its, rv, p, hz⟩ := I1.tuple (show SqT X.K H1 a xs from hq)
    refine wpAny_pyIter_tuple (show s1.heap.IsTuple a its.toArray from p) ?_
    refine ⟨s1.heap.objs.size, [s1.heap.objs.size], _, _, H1, rfl, I1.kept (t' := s1.toks) fun b o e => Heap.get?_push_of_some _ e, turn_tuple a _, ⟨_, Heap.get?_push_size _ rfl, rfl, rfl⟩, fun b hb => ?_, q⟩
    have e : b = s1.heap.objs.size := by simpa using hb
    subst e
    exact I1.fpOk (Nat.le_refl _) (I1.hok.fresh (Nat.le_refl _))
/-! ### as walks -/
theorem walk_S {k : Bool} {K : PySem.W.Frag} {a : Addr} {xs : List V} : Walk (ItS k K a) xs.length (fun H => SqK k K H a xs) (YAt xs) := by
  cases k with
  | true => exact walk_tup
  | false => exact walk_list
theorem walk_E {k : Bool} {K : PySem.W.Frag} {a : Addr} {xs : List V} : Walk (ItE k K a) xs.length (fun H => SqK k K H a xs) (YPair (fun i => some (.int (i : Nat))) (fun i => xs[i]?)) := by
  refine ⟨fun i H hi h => ⟨xs, xs[i], h, by simp [hi]⟩, fun H h => ⟨xs, h, rfl⟩, fun i H x H' hi h y => ?_⟩
  obtain ⟨T, v, e1, e2, e3, e4⟩ := y
  exact ⟨T, _, v, e1, e2, e3, rfl, e4 xs h⟩
theorem walk_M {k1 k2 : Bool} {K : PySem.W.Frag} {a b : Addr} {xs ys : List V} {n : Nat} (hn : n = min xs.length ys.length) : Walk (ItM k1 k2 K a b) n (fun H => SqK k1 K H a xs ∧ SqK k2 K H b ys) (YPair (fun i => xs[i]?) (fun i => ys[i]?)) := by
  subst hn
  refine ⟨fun i H hi h => ⟨xs, ys, xs[i]'(by omega), ys[i]'(by omega), h.1, h.2, by simp, by simp⟩, fun H h => ⟨xs, ys, h.1, h.2, by omega, by omega, by omega⟩, fun i H x H' hi h y => ?_⟩
  obtain ⟨T, v, w, e1, e2, e3, e4, e5⟩ := y
  exact ⟨T, v, w, e1, e2, e3, e4 xs h.1, e5 ys h.2⟩
end RX
set_option maxHeartbeats 4000000
namespace RX
open PySem L2
variable {G : GC} {B : Option Addr} {O Oe O' : Addr → Prop} {H H' H1 : Hp} {X : Cx}
variable {F : FC} {env : En} {cup cup' : Cup} {σ : L2.St} {W : WX}

/-! ### sources of a walk -/
def itemsOf : PV → Option (List PV)
  | .tup xs => some xs
  | .lst xs => some xs
  | _ => none
/-- a list or a tuple that stays while all but O stays -/
def SrcOk (G : GC) (B : Option Addr) (O Oe : Addr → Prop) (H : Hp) (v : V) (xs : List PV) : Prop :=
  ∃ (k : Bool) (a : Addr) (vs : List V), v = .ref a ∧ Reps G B Oe H vs xs ∧ ∀ H', Kp O H H' → SqK k G.K H' a vs
/-- J walks what stands for xs, while all but O stays -/
def WalkOk (G : GC) (B : Option Addr) (O Oe : Addr → Prop) (H : Hp) (J : It) (xs : List PV) : Prop :=
  ∃ (Gd : Hp → Prop) (Y : Nat → Hp → V → Hp → Prop), Walk J xs.length Gd Y ∧ ∀ (Oe' : Addr → Prop) (H' : Hp), Kp O H H' → (∀ a, Oe' a → Oe a ∨ NN H a) → Trk Oe' H' →
    Gd H' ∧ ∀ i v H2, i < xs.length → Y i H' v H2 → Evl.Ex H' H2 ∧ ∃ x, xs[i]? = some x ∧ Rep G B Oe' H2 v x
abbrev RQ (s : Bool) (G : GC) (B : Option Addr) (O : Addr → Prop) (H : Hp) (v : V) (x : PV) : Prop := if s then Rep G B O H v x else RB G B O H v x
abbrev tDQ (s : Bool) (G : GC) (F : FC) (W : WX) (d : E) : TE := fun σ H Q => ∃ env cup, Ss G F env cup σ H ∧ PostA G F W (fun x v H' => RQ s G F.B (OO F env σ) H' v x) env σ H Q (d env cup)
/-- what has to stay: with s nothing barred is asked (a statement), without s all but the box stays (an expression) -/
abbrev Os (s : Bool) (F : FC) (O : Addr → Prop) : Addr → Prop := if s then O else fun a => F.B = some a
theorem Os.sub {s : Bool} (hb : ∀ a, F.B = some a → O a) {a : Addr} (h : Os s F O a) : O a := by
  cases s with
  | true => exact h
  | false => exact hb a h
theorem src_of {s : Bool} {v : V} {x : PV} {xs : List PV} (hb : ∀ a, F.B = some a → O a) (h : RQ s G F.B O H v x) (e : itemsOf x = some xs) : SrcOk G F.B (Os s F O) O H v xs := by
  have tupc : Rep G F.B O H v (.tup xs) → SrcOk G F.B (Os s F O) O H v xs := fun h => by
    cases h with
    | tup h1 h2 h3 => exact ⟨true, _, _, rfl, h3, fun H' k => sqT_kp h1 (fun z => h2 (Os.sub hb z)) k⟩
  cases x with
  | tup ys =>
    cases e
    cases s with
    | true => exact tupc h
    | false => exact tupc (RB.rep_tup h)
  | lst ys =>
    cases e
    cases s with
    | true =>
      cases (show Rep G F.B O H v (.lst xs) from h) with
      | lst h1 h2 h3 => exact ⟨false, _, _, rfl, h3, fun H' k => SqL.of (k _ _ h1 h2 nt_lst)⟩
    | false =>
      rcases (show RB G F.B O H v (.lst xs) from h) with h | ⟨p, vs, zs, rfl, e, h1, h2, h3⟩
      · cases h with
        | lst h1 h2 h3 => exact ⟨false, _, _, rfl, h3, fun H' k => SqL.of (k _ _ h1 (fun z => h2 (hb _ z)) nt_lst)⟩
      · cases e
        exact ⟨false, p, vs, rfl, h3, fun H' k => SqL.of (k _ _ h1 (fun z => h2 z) nt_lst)⟩
  | _ => cases e
/-- reps carried on -/
theorem rep_on {v : V} {x : PV} (hO : ∀ a, O a → Oe a) (h : Rep G B Oe H v x) (k : Kp O H H') (n : ∀ a, O' a → Oe a ∨ NN H a) : Rep G B O' H' v x := by
  have k2 : Kp Oe H H' := fun a o e z t => k a o e (fun q => z (hO a q)) t
  refine Rep.rec (motive_1 := fun v x _ => Rep G B O' H' v x) (motive_2 := fun v x _ => Reps G B O' H' v x) ?_ ?_ ?_ ?_ ?_ ?_ ?_ ?_ ?_ ?_ ?_ ?_ h
  · exact .non
  · exact .bl
  · exact .int
  · exact .str
  · exact .ty
  · refine fun {a vs xs} h m _ ih => .tup (sqT_kp h m k2) (fun z => ?_) ih
    rcases n _ z with q | q
    · exact m q
    · rcases h with h | h
      · rcases h with h | ⟨o, h⟩
        · exact absurd nt_tup (q _ h)
        · exact absurd nt_frz (q _ h)
      · exact .inr h
  · refine fun {a vs xs} h m _ ih => .lst (k2 _ _ h m nt_lst) (fun z => ?_) ih
    rcases n _ z with q | q
    · exact m q
    · exact absurd nt_lst (q _ h)
  · refine fun {a its n' vs xs} h m _ ih => .xt (k2 _ _ h m nt_frz) (fun z => ?_) ih
    rcases n _ z with q | q
    · exact m q
    · exact absurd nt_frz (q _ h)
  · exact fun h => .box h
  · exact fun h => .gl h
  · exact .nil
  · exact fun _ _ a b => .cons a b
theorem reps_on {v : List V} {x : List PV} (hO : ∀ a, O a → Oe a) (h : Reps G B Oe H v x) (k : Kp O H H') (n : ∀ a, O' a → Oe a ∨ NN H a) : Reps G B O' H' v x := by
  induction v generalizing x with
  | nil => cases h; exact .nil
  | cons v vs ih => cases h with | cons a b => exact .cons (rep_on hO a k n) (ih b)
/-! ### the walks -/
theorem wo_seq {k : Bool} {a : Addr} {v : V} {xs : List PV} {vs : List V} (hO : ∀ a, O a → Oe a) (r : Reps G B Oe H vs xs) (st : ∀ H', Kp O H H' → SqK k G.K H' a vs) : WalkOk G B O Oe H (ItS k G.K a) xs := by
  refine ⟨fun H => SqK k G.K H a vs, YAt vs, by rw [← r.length]; exact walk_S, fun Oe' H' kp n t => ⟨st H' kp, fun i v H2 hi y => ?_⟩⟩
  obtain ⟨rfl, hv⟩ := y
  obtain ⟨x, h1, h2⟩ := (reps_on hO r kp n).getV hv
  exact ⟨Evl.Ex.refl _, x, h1, h2⟩
def enumL : Nat → List PV → List PV
  | _, [] => []
  | n, x :: r => .tup [.int (Int.ofNat n), x] :: enumL (n + 1) r
theorem enumL_get : ∀ (xs : List PV) (n i : Nat), (enumL n xs)[i]? = (xs[i]?).map fun x => .tup [.int (Int.ofNat (n + i)), x]
  | [], n, i => by simp [enumL]
  | x :: r, n, 0 => by simp [enumL]
  | x :: r, n, i + 1 => by
    simp only [enumL, List.getElem?_cons_succ, enumL_get r (n + 1) i]
    rw [show n + 1 + i = n + (i + 1) by omega]
theorem enumL_len : ∀ (xs : List PV) (n : Nat), (enumL n xs).length = xs.length
  | [], _ => rfl
  | _ :: r, n => by simp [enumL, enumL_len r (n + 1)]
theorem wo_enum {k : Bool} {a : Addr} {xs : List PV} {vs : List V} (hO : ∀ a, O a → Oe a) (r : Reps G B Oe H vs xs) (st : ∀ H', Kp O H H' → SqK k G.K H' a vs) : WalkOk G B O Oe H (ItE k G.K a) (enumL 0 xs) := by
  refine ⟨fun H => SqK k G.K H a vs, _, by rw [enumL_len, ← r.length]; exact walk_E, fun Oe' H' kp n t => ⟨st H' kp, fun i v H2 hi y => ?_⟩⟩
  obtain ⟨T, x, y, rfl, hT, rfl, e1, e2⟩ := y
  cases e1
  obtain ⟨z, h1, h2⟩ := (reps_on hO r kp n).getV e2
  refine ⟨Evl.Ex.new hT, .tup [.int (Int.ofNat i), z], by rw [enumL_get, h1]; simp only [Option.map_some, Nat.zero_add], rep_newT t hT (.cons (.int _) (.cons h2 .nil))⟩
def zipL : List PV → List PV → List PV
  | x :: r, y :: t => .tup [x, y] :: zipL r t
  | _, _ => []
theorem zipL_len : ∀ (xs ys : List PV), (zipL xs ys).length = min xs.length ys.length
  | [], ys => by simp [zipL]
  | _ :: _, [] => by simp [zipL]
  | _ :: r, _ :: t => by simp [zipL, zipL_len r t]
theorem zipL_get : ∀ (xs ys : List PV) (i : Nat) (x y : PV), xs[i]? = some x → ys[i]? = some y → (zipL xs ys)[i]? = some (.tup [x, y])
  | [], _, _, _, _, h, _ => by simp at h
  | _ :: _, [], _, _, _, _, h => by simp at h
  | _ :: r, _ :: t, 0, _, _, h, k => by simp at h k; subst h k; simp [zipL]
  | _ :: r, _ :: t, i + 1, _, _, h, k => by simpa [zipL] using zipL_get r t i _ _ (by simpa using h) (by simpa using k)
theorem wo_zip {k1 k2 : Bool} {a b : Addr} {xs ys : List PV} {vs ws : List V} (hO : ∀ a, O a → Oe a) (r1 : Reps G B Oe H vs xs) (st1 : ∀ H', Kp O H H' → SqK k1 G.K H' a vs) (r2 : Reps G B Oe H ws ys) (st2 : ∀ H', Kp O H H' → SqK k2 G.K H' b ws) :
    WalkOk G B O Oe H (ItM k1 k2 G.K a b) (zipL xs ys) := by
  refine ⟨fun H => SqK k1 G.K H a vs ∧ SqK k2 G.K H b ws, _, walk_M (by rw [zipL_len, r1.length, r2.length]), fun Oe' H' kp n t => ⟨⟨st1 H' kp, st2 H' kp⟩, fun i v H2 hi y => ?_⟩⟩
  obtain ⟨T, x, y, rfl, hT, rfl, e1, e2⟩ := y
  obtain ⟨z1, h1, q1⟩ := (reps_on hO r1 kp n).getV e1
  obtain ⟨z2, h2, q2⟩ := (reps_on hO r2 kp n).getV e2
  exact ⟨Evl.Ex.new hT, .tup [z1, z2], zipL_get xs ys i z1 z2 h1 h2, rep_newT t hT (.cons q1 (.cons q2 .nil))⟩
def upto (a : Int) : Nat → List PV
  | 0 => []
  | n + 1 => .int a :: upto (a + 1) n
theorem upto_len : ∀ (n : Nat) (a : Int), (upto a n).length = n
  | 0, _ => rfl
  | n + 1, a => by simp [upto, upto_len n]
theorem upto_get : ∀ (n : Nat) (a : Int) (i : Nat), i < n → (upto a n)[i]? = some (.int (a + i))
  | 0, _, _, h => by omega
  | n + 1, a, 0, _ => by simp [upto]
  | n + 1, a, i + 1, h => by
    simp only [upto, List.getElem?_cons_succ, upto_get n (a + 1) i (by omega)]
    rw [show a + 1 + (i : Int) = a + ((i + 1 : Nat) : Int) by omega]
theorem wo_range {lo : Int} {n : Nat} : WalkOk G B O Oe H (Itr lo n) (upto lo n) := by
  refine ⟨fun _ => True, _, by rw [upto_len]; exact walk_range, fun Oe' H' kp m t => ⟨trivial, fun i v H2 hi y => ?_⟩⟩
  rw [upto_len] at hi
  obtain ⟨rfl, rfl⟩ := y
  exact ⟨Evl.Ex.refl _, _, upto_get n lo i hi, .int _⟩

/-! ### what a for or a comprehension walks -/
abbrev tDI (s : Bool) (G : GC) (F : FC) (W : WX) (d : E) : TI := fun σ H R => ∃ env cup, Ss G F env cup σ H ∧ PostA G F W (fun x J H' => ∃ xs, x = .lst xs ∧ xs.length ≤ 1000000 ∧ WalkOk G F.B (Os s F (OO F env σ)) (OO F env σ) H' J xs) env σ H R (d env cup)
theorem PI.imp {tg it : Expr} {t t' : TI} (h : PI X tg it t) (i : ∀ σ H Q, t' σ H Q → t σ H Q) : PI X tg it t' := ⟨fun pins s σ H Q I hq => h.run pins s σ H Q I (i σ H Q hq)⟩
def okLst (xs : List PV) : E := bif lenOk xs then dC (.lst xs) else stk
def kItems (x : PV) : E := match itemsOf x with
  | some xs => okLst xs
  | none => stk
def dItems (d : E) : E := bindE d kItems
theorem post_ok {α : Type} {P : PV → α → Hp → Prop} {Q : α → Hp → Prop} {xs : List PV} (h : PostA G F W P env σ H Q (okLst xs env cup)) (S : Ss G F env cup σ H) : xs.length ≤ 1000000 ∧ ∀ v, P (.lst xs) v H → Q v H := by
  unfold okLst at h
  cases e : lenOk xs with
  | false => rw [e] at h; exact False.elim h
  | true => rw [e] at h; exact ⟨lenOk_le e, fun v p => h v H S ExE.refl p⟩
theorem bOO (S : Ss G F env cup σ H) : ∀ a, F.B = some a → OO F env σ a := fun a h => .inl (S.bOc a h)
theorem pi_items {s : Bool} {tg l : Expr} {d : E} (h : PE X l (tDQ s (gOf X) F W d)) : PI X tg l (tDI s (gOf X) F W (dItems d)) :=
  PI.imp (pi_seq h) fun σ H R ⟨env, cup, S, q⟩ => ⟨env, cup, S, post_bind q fun x cup1 v H1 S1 e1 p1 q1 => by
    unfold kItems at q1
    cases e : itemsOf x with
    | none => rw [e] at q1; exact False.elim q1
    | some xs =>
      rw [e] at q1
      obtain ⟨hl, kk⟩ := post_ok q1 S1
      obtain ⟨k, a, vs, rfl, h1, h2⟩ := src_of (bOO S1) p1 e
      exact ⟨k, a, vs, rfl, h2 H1 (fun _ _ h _ _ => h), kk _ ⟨xs, rfl, hl, wo_seq (v := .non) (fun a h => Os.sub (bOO S1) h) h1 h2⟩⟩⟩
abbrev tDAQ (s : Bool) (G : GC) (F : FC) (W : WX) (d : E) : TA := fun σ H Q => ∃ env cup, Ss G F env cup σ H ∧ PostA G F W (fun x vs H' => ∃ xs, x = .tup xs ∧ Paired (RQ s G F.B (OO F env σ) H') vs xs) env σ H Q (d env cup)
theorem RQ.keep {s : Bool} (S : Ss G F env cup σ H) {v : V} {x : PV} (h : RQ s G F.B (OO F env σ) H v x) (e : ExE F H H') : RQ s G F.B (OO F env σ) H' v x := by
  cases s with
  | true => exact rep_kp (kp_oo S e) h
  | false => exact RB.keep S h e
theorem pdq_nil {s : Bool} : PA X [] (tDAQ s G F W dNil) := PA.imp pa_nil fun σ H Q ⟨env, cup, S, q⟩ => q [] H S ExE.refl ⟨[], rfl, .nil⟩
theorem pdq_cons {s : Bool} {e : Expr} {es : List Expr} {d ds : E} (h : PE X e (tDQ s G F W d)) (hs : PA X es (tDAQ s G F W ds)) (st : starEach (e :: es) X.env = (false, eval e X.env) :: starEach es X.env) : PA X (e :: es) (tDAQ s G F W (dCons d ds)) :=
  PA.imp (pa_cons h hs st) fun σ H Q ⟨env, cup, S, q⟩ => ⟨env, cup, S, post_bind q fun x cup1 v H1 S1 e1 p1 q1 => ⟨env, cup1, S1, post_bind q1 fun y cup2 ws H2 S2 e2 p2 q2 => by
    obtain ⟨z, hz, kk⟩ := post_ofOA q2 S2
    obtain ⟨xs, rfl, rs⟩ := p2
    cases hz
    exact kk _ H2 (Evl.Ex.refl _) ⟨_, rfl, .cons (RQ.keep S1 p1 e2) rs⟩⟩⟩
def kEnum : PV → E
  | .tup [x] => (match itemsOf x with
    | some xs => okLst (enumL 0 xs)
    | none => stk)
  | _ => stk
def dEnum (ds : E) : E := bindE ds kEnum
theorem pi_enumD {s : Bool} {e : Expr} {ds : E} {p pos tpos : Pos} {elts : List Expr} {kk : Nat} (hg : Gl X "enumerate") (hm : X.mg "enumerate" = none) (ha : PA X [e] (tDAQ s (gOf X) F W ds)) (hs : isStar e = false) :
    PI X (.Tuple elts kk tpos) (.Call (.Name "enumerate" p) [e] [] pos) (tDI s (gOf X) F W (dEnum ds)) :=
  PI.imp (pi_enumM hg hm ha (star_cons hs)) fun σ H R ⟨env, cup, S, q⟩ => ⟨env, cup, S, post_bind q fun x cup1 vs H1 S1 e1 p1 q1 => by
    obtain ⟨xs, rfl, rs⟩ := p1
    cases rs with
    | nil => exact False.elim q1
    | cons r rt =>
      cases rt with
      | cons _ _ => exact False.elim q1
      | nil =>
        rename_i v x
        simp only [kEnum] at q1
        cases e : itemsOf x with
        | none => rw [e] at q1; exact False.elim q1
        | some ys =>
          rw [e] at q1
          obtain ⟨hl, kk⟩ := post_ok q1 S1
          obtain ⟨k, a, vs, rfl, h1, h2⟩ := src_of (bOO S1) r e
          exact ⟨k, a, vs, rfl, h2 H1 (fun _ _ h _ _ => h), kk _ ⟨_, rfl, hl, wo_enum (fun a h => Os.sub (bOO S1) h) h1 h2⟩⟩⟩
def kZip : PV → E
  | .tup [x, y] => (match itemsOf x, itemsOf y with
    | some xs, some ys => okLst (zipL xs ys)
    | _, _ => stk)
  | _ => stk
def dZip (ds : E) : E := bindE ds kZip
theorem pi_zipD {s : Bool} {e e2 : Expr} {ds : E} {p pos tpos : Pos} {elts : List Expr} {kk : Nat} (hg : Gl X "zip") (hm : X.mg "zip" = none) (ha : PA X [e, e2] (tDAQ s (gOf X) F W ds)) (hs : isStar e = false) (hs2 : isStar e2 = false) :
    PI X (.Tuple elts kk tpos) (.Call (.Name "zip" p) [e, e2] [] pos) (tDI s (gOf X) F W (dZip ds)) :=
  PI.imp (pi_zipM hg hm ha (star_cons hs) (star_all (by simp [hs2]) _)) fun σ H R ⟨env, cup, S, q⟩ => ⟨env, cup, S, post_bind q fun x cup1 vs H1 S1 e1 p1 q1 => by
    obtain ⟨xs, rfl, rs⟩ := p1
    cases rs with
    | nil => exact False.elim q1
    | cons r rt =>
      cases rt with
      | nil => exact False.elim q1
      | cons r2 rt =>
        cases rt with
        | cons _ _ => exact False.elim q1
        | nil =>
          rename_i v x w y
          simp only [kZip] at q1
          cases e : itemsOf x with
          | none => rw [e] at q1; exact False.elim q1
          | some xs =>
            cases e2 : itemsOf y with
            | none => rw [e, e2] at q1; exact False.elim q1
            | some ys =>
              rw [e, e2] at q1
              obtain ⟨hl, kk⟩ := post_ok q1 S1
              obtain ⟨k, a, vs, rfl, h1, h2⟩ := src_of (bOO S1) r e
              obtain ⟨k', b, ws, rfl, h3, h4⟩ := src_of (bOO S1) r2 e2
              exact ⟨k, k', a, b, vs, ws, rfl, h2 H1 (fun _ _ h _ _ => h), h4 H1 (fun _ _ h _ _ => h), kk _ ⟨_, rfl, hl, wo_zip (fun a h => Os.sub (bOO S1) h) h1 h2 h3 h4⟩⟩⟩
def small62 (i : Int) : Bool := decide (-4611686018427387904 ≤ i) && decide (i < 4611686018427387904)
theorem small62_ok {i : Int} (h : small62 i = true) : -(2 ^ 62) ≤ i ∧ i < 2 ^ 62 := by
  unfold small62 at h
  rw [Bool.and_eq_true, decide_eq_true_eq, decide_eq_true_eq] at h
  omega
theorem RQ.int_of {s : Bool} {v : V} {i : Int} (h : RQ s G B O H v (.int i)) : v = .int i := by
  cases s with
  | true => exact RB.int_of (.inl h)
  | false => exact RB.int_of h
def kRng1 : PV → E
  | .tup [.int j] => bif small62 j then okLst (upto 0 j.toNat) else stk
  | _ => stk
theorem kRng1_2 (a b : PV) (r : List PV) : kRng1 (.tup (a :: b :: r)) = stk := by cases a <;> rfl
def dRng1 (ds : E) : E := bindE ds kRng1
theorem pi_rng1 {s : Bool} {tg e : Expr} {ds : E} {p pos : Pos} (hg : Gl X "range") (hm : X.mg "range" = none) (ha : PA X [e] (tDAQ s (gOf X) F W ds)) (hs : isStar e = false) : PI X tg (.Call (.Name "range" p) [e] [] pos) (tDI s (gOf X) F W (dRng1 ds)) :=
  PI.imp (pi_range1 hg hm ha (star_cons hs)) fun σ H R ⟨env, cup, S, q⟩ => ⟨env, cup, S, post_bind q fun x cup1 vs H1 S1 e1 p1 q1 => by
    obtain ⟨xs, rfl, rs⟩ := p1
    cases rs with
    | nil => exact False.elim q1
    | cons r rt =>
      cases rt with
      | cons r2 rt => 
        rw [kRng1_2] at q1
        exact False.elim q1
      | nil =>
        rename_i v x
        cases x with
        | int j =>
          simp only [kRng1] at q1
          cases e : small62 j with
          | false => rw [e] at q1; exact False.elim q1
          | true =>
            rw [e] at q1
            obtain ⟨hl, kk⟩ := post_ok q1 S1
            have := small62_ok e
            cases r.int_of
            exact ⟨j, rfl, this.1, this.2, kk _ ⟨_, rfl, hl, wo_range⟩⟩
        | _ => exact False.elim q1⟩
def kRng2 : PV → E
  | .tup [.int i, .int j] => bif small62 i && small62 j then okLst (upto i (j - i).toNat) else stk
  | _ => stk
def dRng2 (ds : E) : E := bindE ds kRng2
end RX
set_option maxHeartbeats 4000000
namespace RX
open PySem L2
variable {G : GC} {B : Option Addr} {O Oe O' : Addr → Prop} {H H' H1 : Hp} {X : Cx}
variable {F : FC} {env env' : En} {cup cup' : Cup} {σ σ' : L2.St} {W : WX}

/-! ### slots changed -/
theorem oo_mono (h : ∀ a, Own env' σ' a → Own env σ a) : ∀ a, OO F env' σ' a → OO F env σ a := fun a z => z.elim .inl fun z => .inr (h a z)
/-- fewer own: the state with slots changed where the rest stands -/
theorem own_set_va {i : Nat} {v : Option V} {s : Sl} (hs : ∀ xs, s ≠ .own xs) (hl : env.length = σ.length) : ∀ a, Own (env.set i s) (σ.set i v) a → Own env σ a := fun a ⟨j, xs, h1, h2⟩ => by
  by_cases e : i = j
  · subst e
    rw [List.getElem?_set] at h1
    simp only [if_true] at h1
    split at h1
    · cases h1; exact absurd rfl (hs xs)
    · cases h1
  · rw [List.getElem?_set_ne e] at h1 h2
    exact ⟨j, xs, h1, h2⟩
theorem Ss.sub (S : Ss G F env cup σ H) (hl : env'.length = σ'.length) (hv : ∀ (i : Nat) (x : PV), env'[i]? = some (.va x) → (env[i]? = some (.va x) ∧ σ'[i]? = σ[i]?) ∨ ∃ v, σ'[i]? = some (some v) ∧ Rep G F.B (OO F env σ) H v x)
    (ho : ∀ (i : Nat) (xs : List PV), env'[i]? = some (.own xs) → env[i]? = some (.own xs) ∧ σ'[i]? = σ[i]?) : Ss G F env' cup σ' H := by
  have m : ∀ a, OO F env' σ' a → OO F env σ a := oo_mono fun a ⟨j, xs, h1, h2⟩ => ⟨j, xs, (ho j xs h1).1, (ho j xs h1).2 ▸ h2⟩
  refine ⟨hl, fun i x h => ?_, fun i xs h => ?_, fun i j xs ys p a b c d => ?_, fun a h => ?_, S.trk, S.bOc, S.ent, S.tab⟩
  · rcases hv i x h with ⟨h1, h2⟩ | ⟨v, h1, h2⟩
    · obtain ⟨v, q1, q2⟩ := S.va i x h1
      exact ⟨v, h2 ▸ q1, rep_less m q2⟩
    · exact ⟨v, h1, rep_less m h2⟩
  · obtain ⟨h1, h2⟩ := ho i xs h
    obtain ⟨p, vs, q1, q2, q3, q4⟩ := S.own i xs h1
    exact ⟨p, vs, h2 ▸ q1, q2, reps_less m q3, q4⟩
  · obtain ⟨a1, a2⟩ := ho i xs a
    obtain ⟨b1, b2⟩ := ho j ys b
    exact S.apart i j xs ys p a1 b1 (a2 ▸ c) (b2 ▸ d)
  · obtain ⟨vs, q1, q2⟩ := S.box a h
    exact ⟨vs, q1, reps_less m q2⟩
theorem Ss.set_va (S : Ss G F env cup σ H) {i : Nat} {v : V} {x : PV} (r : Rep G F.B (OO F env σ) H v x) : Ss G F (env.set i (.va x)) cup (σ.set i (some v)) H := by
  refine S.sub (by simp [S.len]) (fun j y h => ?_) fun j ys h => ?_
  · by_cases e : i = j
    · subst e
      rw [List.getElem?_set] at h
      simp only [if_true] at h
      split at h
      · rename_i hl
        cases h
        exact .inr ⟨v, by rw [List.getElem?_set_self (S.len ▸ hl)], r⟩
      · cases h
    · rw [List.getElem?_set_ne e] at h
      exact .inl ⟨h, List.getElem?_set_ne e⟩
  · by_cases e : i = j
    · subst e
      rw [List.getElem?_set] at h
      simp only [if_true] at h
      split at h <;> cases h
    · rw [List.getElem?_set_ne e] at h
      exact ⟨h, List.getElem?_set_ne e⟩
theorem Ss.set_no (S : Ss G F env cup σ H) {i : Nat} {v : Option V} : Ss G F (env.set i .no) cup (σ.set i v) H := by
  refine S.sub (by simp [S.len]) (fun j y h => ?_) fun j ys h => ?_
  · by_cases e : i = j
    · subst e
      rw [List.getElem?_set] at h
      simp only [if_true] at h
      split at h <;> cases h
    · rw [List.getElem?_set_ne e] at h
      exact .inl ⟨h, List.getElem?_set_ne e⟩
  · by_cases e : i = j
    · subst e
      rw [List.getElem?_set] at h
      simp only [if_true] at h
      split at h <;> cases h
    · rw [List.getElem?_set_ne e] at h
      exact ⟨h, List.getElem?_set_ne e⟩
theorem oo_set {i : Nat} {v : Option V} {s : Sl} (hs : ∀ xs, s ≠ .own xs) (hl : env.length = σ.length) : ∀ a, OO F (env.set i s) (σ.set i v) a → OO F env σ a := oo_mono (own_set_va hs hl)
/-! ### targets -/
abbrev Tg := PV → En → Option En
def gS (i : Nat) : Tg := fun x env => some (env.set i (.va x))
abbrev gAll := List PV → En → Option En
def gsNil : gAll := fun xs env => match xs with
  | [] => some env
  | _ => none
def gsCons (t : Tg) (u : gAll) : gAll := fun xs env => match xs with
  | x :: r => (match t x env with
    | some env' => u r env'
    | none => none)
  | [] => none
def gT (n : Nat) (u : gAll) : Tg := fun x env => match x with
  | .tup xs => bif Nat.beq xs.length n then u xs env else none
  | _ => none
/-- a store into names: the state after, what is wiped stays wiped, no more is owned -/
def GK (G : GC) (F : FC) (vs : List Nat) (env : En) (cup : Cup) (σ : L2.St) (H : Hp) (Q : L2.St → Hp → Prop) (o : Option En) : Prop :=
  ∃ env', o = some env' ∧ ∀ σ', Ss G F env' cup σ' H → wipe σ' vs = wipe σ vs → (∀ a, OO F env' σ' a → OO F env σ a) → (∀ i, i ∉ vs → env'[i]? = env[i]?) → Q σ' H
abbrev tG (G : GC) (F : FC) (vs : List Nat) (t : Tg) : TG := fun v σ H Q => ∃ env cup x, Ss G F env cup σ H ∧ Rep G F.B (OO F env σ) H v x ∧ GK G F vs env cup σ H Q (t x env)
abbrev tGs (G : GC) (F : FC) (vs : List Nat) (t : gAll) : TGs := fun us σ H Q => ∃ env cup xs, Ss G F env cup σ H ∧ Reps G F.B (OO F env σ) H us xs ∧ GK G F vs env cup σ H Q (t xs env)
theorem PG.imp {tg : Expr} {t t' : TG} (h : PG X tg t) (i : ∀ v σ H Q, t' v σ H Q → t v σ H Q) : PG X tg t' := ⟨fun pins s σ H v u Q I r hq => h.run pins s σ H v u Q I r (i v σ H Q hq)⟩
theorem PGs.imp {tg : List Expr} {t t' : TGs} (h : PGs X tg t) (i : ∀ v σ H Q, t' v σ H Q → t v σ H Q) : PGs X tg t' := ⟨fun pins s σ H v u Q I r hq => h.run pins s σ H v u Q I r (i v σ H Q hq)⟩
theorem wipe_set {v : Option V} : ∀ {vs : List Nat} {σ : L2.St} {i : Nat}, i ∈ vs → wipe (σ.set i v) vs = wipe σ vs
  | [], _, _, h => by cases h
  | w :: vs, σ, i, h => by
    unfold wipe
    by_cases e : i ∈ vs
    · rw [wipe_set e]
    · have e2 : i = w := by
        cases h with
        | head => rfl
        | tail _ h => exact absurd h e
      subst e2
      have : ∀ (us : List Nat) (τ : L2.St), i ∉ us → wipe (τ.set i v) us = (wipe τ us).set i v := by
        intro us
        induction us with
        | nil => intro τ _; rfl
        | cons u us ih =>
          intro τ hn
          simp only [List.mem_cons, not_or] at hn
          unfold wipe
          rw [ih τ hn.2, List.set_comm _ _ hn.1]
      rw [this vs σ e, List.set_set]
theorem pg_nm {i : Nat} {tg : Expr} {vs : List Nat} (h : PG X tg (gName i)) (hi : i ∈ vs) : PG X tg (tG G F vs (gS i)) :=
  PG.imp h fun v σ H Q ⟨env, cup, x, S, r, env', e, k⟩ => by
    cases e
    exact k _ (S.set_va r) (wipe_set hi) (oo_set (fun _ => nofun) S.len) fun j hj => List.getElem?_set_ne fun e => by subst e; exact hj hi
theorem pgs_nl {vs : List Nat} : PGs X [] (tGs G F vs gsNil) := PGs.imp pgs_nil fun us σ H Q ⟨env, cup, xs, S, r, env', e, k⟩ => by
  cases r with
  | nil => cases e; exact ⟨rfl, k _ S rfl (fun _ h => h) fun _ _ => rfl⟩
  | cons a b => cases e
theorem pgs_cs {e : Expr} {es : List Expr} {t : Tg} {u : gAll} {vs : List Nat} (h1 : PG X e (tG G F vs t)) (h2 : PGs X es (tGs G F vs u))
    (hs : (assignEach (e :: es) X.env).map (·.2) = assign e X.env :: (assignEach es X.env).map (·.2)) : PGs X (e :: es) (tGs G F vs (gsCons t u)) :=
  PGs.imp (pgs_cons h1 h2 hs) fun us σ H Q ⟨env, cup, xs, S, r, env', e, k⟩ => by
    cases r with
    | nil => cases e
    | @cons v us x xs a b =>
      simp only [gsCons] at e
      cases q : t x env with
      | none => rw [q] at e; cases e
      | some env2 =>
        rw [q] at e
        exact ⟨v, us, rfl, env, cup, x, S, a, env2, q, fun σ' S' w m n => ⟨env2, cup, xs, S', reps_less m b, env', e, fun σ2 S2 w2 m2 n2 => k σ2 S2 (w2.trans w) (fun a z => m a (m2 a z)) fun i hi => (n2 i hi).trans (n i hi)⟩⟩
theorem pg_tp {es : List Expr} {k : Nat} {pos : Pos} {u : gAll} {n : Nat} {vs : List Nat} (hc : X.calm = true) (h : PGs X es (tGs (gOf X) F vs u)) (hn : (assignEach es X.env).length = n) (hst : (assignEach es X.env).findIdx? (·.1) = none) : PG X (.Tuple es k pos) (tG (gOf X) F vs (gT n u)) :=
  PG.imp (pg_tup hc h hn hst) fun v σ H Q ⟨env, cup, x, S, r, env', e, k⟩ => by
    cases r with
    | @tup a us xs h1 h2 h3 =>
      simp only [gT] at e
      cases q : Nat.beq xs.length n with
      | false => rw [q] at e; cases e
      | true =>
        rw [q] at e
        exact ⟨a, us, rfl, h1, by rw [h3.length]; exact Nat.eq_of_beq_eq_true q, env, cup, xs, S, h3, env', e, k⟩
    | _ => cases e

/-! ### the slots of a block's own names -/
def wipeE (env : En) : List Nat → En
  | [] => env
  | v :: vs => (wipeE env vs).set v .no
def clean (env : En) : List Nat → Bool
  | [] => true
  | v :: vs => (match getS env v with
    | .own _ => false
    | _ => true) && clean env vs
theorem getS_get : ∀ {env : En} {i : Nat} {s : Sl}, env[i]? = some s → getS env i = s
  | [], _, _, h => by simp at h
  | s :: _, 0, _, h => by simpa [getS] using h
  | _ :: r, n + 1, _, h => by simpa [getS] using getS_get (env := r) (by simpa using h)
theorem clean_no {xs : List PV} : ∀ {vs : List Nat} {env : En} {i : Nat}, clean env vs = true → env[i]? = some (.own xs) → i ∉ vs
  | [], _, _, _, _ => by simp
  | v :: vs, env, i, h, e => by
    simp only [clean, Bool.and_eq_true] at h
    simp only [List.mem_cons, not_or]
    refine ⟨fun z => ?_, clean_no h.2 e⟩
    subst z
    rw [getS_get e] at h
    exact absurd h.1 (by simp)
theorem wipeE_length : ∀ {vs : List Nat} {env : En}, (wipeE env vs).length = env.length
  | [], _ => rfl
  | v :: vs, env => by unfold wipeE; rw [List.length_set, wipeE_length]
theorem wipeE_out {env : En} {i : Nat} : ∀ {vs : List Nat}, i ∉ vs → (wipeE env vs)[i]? = env[i]?
  | [], _ => rfl
  | v :: vs, h => by
    simp only [List.mem_cons, not_or] at h
    unfold wipeE
    rw [List.getElem?_set_ne (fun e => h.1 e.symm), wipeE_out h.2]
theorem wipe_S (S : Ss G F env cup σ H) : ∀ (vs : List Nat), Ss G F (wipeE env vs) cup (wipe σ vs) H
  | [] => S
  | v :: vs => (wipe_S S vs).set_no
theorem wipe_oo1 (S : Ss G F env cup σ H) (vs : List Nat) : ∀ a, OO F (wipeE env vs) (wipe σ vs) a → OO F env σ a := by
  induction vs with
  | nil => exact fun a h => h
  | cons v vs ih => exact fun a h => ih a (oo_set (fun _ h => by cases h) (wipe_S S vs).len a h)
theorem wipe_oo2 {vs : List Nat} (c : clean env vs = true) : ∀ a, OO F env σ a → OO F (wipeE env vs) (wipe σ vs) a := fun a h => by
  rcases h with h | ⟨i, xs, h1, h2⟩
  · exact .inl h
  · have hi := clean_no c h1
    exact .inr ⟨i, xs, by rw [wipeE_out hi]; exact h1, by rw [wipe_out hi]; exact h2⟩

/-! ### what a comprehension gathers -/
abbrev Turn := PV → List PV → Cup → Option (List PV × Cup)
def loopA (f : Turn) : List PV → List PV → Cup → Option (List PV × Cup)
  | [], acc, c => some (acc, c)
  | x :: r, acc, c => match f x acc c with
    | some (acc', c') => loopA f r acc' c'
    | none => none
def pushR : R → List PV → Option (List PV × Cup)
  | .ok y c, acc => some (y :: acc, c)
  | _, _ => none
def ifR (t : R) (k : Cup → Option (List PV × Cup)) (acc : List PV) : Option (List PV × Cup) := match t with
  | .ok (.bl true) c => k c
  | .ok (.bl false) c => some (acc, c)
  | _ => none
def tgR (o : Option En) (k : En → Option (List PV × Cup)) : Option (List PV × Cup) := match o with
  | some env => k env
  | none => none
def turn1 (t : Tg) (d el : E) (env : En) : Turn := fun x acc c => tgR (t x env) fun env2 => ifR (d env2 c) (fun c2 => pushR (el env2 c2) acc) acc
def endC : Option (List PV × Cup) → R
  | some (acc, c) => bif lenOk acc then .ok (.lst acc.reverse) c else .stuck
  | none => .stuck
def walkC (vs : List Nat) (f : En → Turn) : PV → E
  | .lst xs => fun env c => bif clean env vs then endC (loopA (f (wipeE env vs)) xs [] c) else .stuck
  | _ => stk
def dComp (vs : List Nat) (wi : E) (t : Tg) (d el : E) : E := bindE wi (walkC vs (turn1 t d el))
def W0 : WX := fun _ _ _ _ => False
theorem bar_S {D : Addr} {o : HO} (S : Ss G F env cup σ H) (hD : H D = none) (nt : NT o) : Ss G { F with Oc := fun a => F.Oc a ∨ a = D } env cup σ (upd H D o) := by
  have ex : Evl.Ex H (upd H D o) := Evl.Ex.new hD
  have S1 := S.ex ex
  have m : ∀ a, OO { F with Oc := fun a => F.Oc a ∨ a = D } env σ a → OO F env σ a ∨ NN H a := fun a h => by
    rcases h with (h | h) | h
    · exact .inl (.inl h)
    · subst h; exact .inr (.of hD)
    · exact .inl (.inr h)
  have k : Kp (OO F env σ) H (upd H D o) := Kp.of_ex ex
  refine ⟨S.len, fun i x h => ?_, fun i xs h => ?_, S.apart, fun a h => ?_, fun a h => ?_, fun a h => .inl (S.bOc a h), S1.ent, S1.tab⟩
  · obtain ⟨v, q1, q2⟩ := S.va i x h
    exact ⟨v, q1, rep_on (fun _ h => h) q2 k m⟩
  · obtain ⟨p, vs, q1, q2, q3, q4, q5⟩ := S.own i xs h
    refine ⟨p, vs, q1, ex _ _ q2, reps_on (fun _ h => h) q3 k m, fun z => ?_, q5⟩
    rcases z with z | z
    · exact q4 z
    · subst z; rw [hD] at q2; cases q2
  · obtain ⟨vs, q1, q2⟩ := S.box a h
    exact ⟨vs, ex _ _ q1, reps_on (fun _ h => h) q2 k m⟩
  · rcases h with h | h
    · obtain ⟨o', e, t⟩ := S.trk a h; exact ⟨o', ex _ _ e, t⟩
    · subst h; exact ⟨o, upd_same, nt⟩
end RX
set_option maxHeartbeats 4000000
namespace RX
open PySem L2
variable {G : GC} {B : Option Addr} {O Oe O' : Addr → Prop} {H H' H1 : Hp} {X : Cx}
variable {F F' : FC} {env env' env2 envw : En} {cup cup' c c2 : Cup} {σ σ' σ2 σw : L2.St} {W : WX} {D : Addr} {acc : List PV} {vs : List Nat}

theorem wipeE_in : ∀ {vs : List Nat} {i : Nat} {xs : List PV}, i ∈ vs → (wipeE env vs)[i]? ≠ some (.own xs)
  | v :: vs, i, xs, h, e => by
    unfold wipeE at e
    by_cases q : v = i
    · subst q
      rw [List.getElem?_set] at e
      simp only [if_true] at e
      split at e <;> cases e
    · rw [List.getElem?_set_ne q] at e
      cases h with
      | head => exact q rfl
      | tail _ h => exact wipeE_in h e
theorem wipe_same {vs : List Nat} (h : wipe σ' vs = wipe σ vs) {i : Nat} (hi : i ∉ vs) : σ'[i]? = σ[i]? := by rw [← wipe_out hi, h, wipe_out hi]
theorem wipe_in : ∀ {vs : List Nat} {i : Nat}, i ∈ vs → (wipe σ vs)[i]? = (σ[i]?).map fun _ => none
  | v :: vs, i, h => by
    unfold wipe
    by_cases q : v = i
    · subst q
      rw [List.getElem?_set]
      simp only [if_true, wipe_length]
      by_cases hl : v < σ.length
      · rw [if_pos hl, List.getElem?_eq_getElem hl]; rfl
      · rw [if_neg hl, List.getElem?_eq_none (by omega)]; rfl
    · rw [List.getElem?_set_ne q]
      cases h with
      | head => exact absurd rfl q
      | tail _ h => exact wipe_in h
theorem wipe_wipe : wipe (wipe σ vs) vs = wipe σ vs := by
  refine List.ext_getElem? fun i => ?_
  by_cases h : i ∈ vs
  · rw [wipe_in h, wipe_in h]; cases σ[i]? <;> rfl
  · rw [wipe_out h]
theorem oo_back (hw : ∀ (i : Nat) xs, i ∈ vs → envw[i]? ≠ some (.own xs)) (n : ∀ i, i ∉ vs → env2[i]? = envw[i]?) (m : ∀ i, i ∉ vs → σ2[i]? = σw[i]?) : ∀ a, OO F envw σw a → OO F env2 σ2 a := fun a h => by
  rcases h with h | ⟨i, xs, h1, h2⟩
  · exact .inl h
  · have hi : i ∉ vs := fun z => hw i xs z h1
    exact .inr ⟨i, xs, by rw [n i hi]; exact h1, by rw [m i hi]; exact h2⟩
theorem Ss.updB {vs : List V} (S : Ss G F env cup σ H) (hO : F.Oc D) (hb : F.B ≠ some D) (h0 : NN F.H0 D) (hl : ∃ us, H D = some (.lst us)) : Ss G F env cup σ (upd H D (.lst vs)) := by
  have kp : Kp (OO F env σ) H (upd H D (.lst vs)) := fun a x h n _ => by rw [upd_ne (fun e => by subst e; exact n (.inl hO))]; exact h
  refine ⟨S.len, fun i x h => ?_, fun i xs h => ?_, S.apart, fun a h => ?_, fun a h => ?_, S.bOc, fun a x h n t => ?_, tabs_upd S.tab fun u hu => by obtain ⟨us, e⟩ := hl; rw [e] at hu; cases hu; exact ⟨us, rfl⟩⟩
  · obtain ⟨v, q1, q2⟩ := S.va i x h
    exact ⟨v, q1, rep_kp kp q2⟩
  · obtain ⟨p, vs, q1, q2, q3, q4, q5⟩ := S.own i xs h
    exact ⟨p, vs, q1, by rw [upd_ne (fun e => by subst e; exact q4 hO)]; exact q2, reps_kp kp q3, q4, q5⟩
  · obtain ⟨vs, q1, q2⟩ := S.box a h
    exact ⟨vs, by rw [upd_ne (fun e => by subst e; exact hb h)]; exact q1, reps_kp kp q2⟩
  · by_cases e : a = D
    · subst e; exact ⟨_, upd_same, nt_lst⟩
    · obtain ⟨x, q, t⟩ := S.trk a h; exact ⟨x, by rw [upd_ne e]; exact q, t⟩
  · rw [upd_ne (fun e => by subst e; exact h0 _ h t)]
    exact S.ent a x h n t
/-! ### the gathering's state -/
abbrev FC.bar (F : FC) (D : Addr) : FC := { F with Oc := fun a => F.Oc a ∨ a = D }
structure LI (G : GC) (F : FC) (H1 : Hp) (D : Addr) (envw : En) (σw : L2.St) (acc : List PV) (c : Cup) (H : Hp) : Prop where
  S : Ss G (F.bar D) envw c σw H
  ex : ExE F H1 H
  us : ∃ us, H D = some (.lst us) ∧ Reps G F.B (OO (F.bar D) envw σw) H us acc.reverse
theorem li_start (S : Ss G F env c σ H1) (hD : H1 D = none) (vs : List Nat) : LI G F H1 D (wipeE env vs) (wipe σ vs) [] c (upd H1 D (.lst [])) :=
  ⟨bar_S (wipe_S S vs) hD nt_lst, fun a o h n t => by rw [upd_ne (fun e => by subst e; rw [hD] at h; cases h)]; exact h, [], upd_same, .nil⟩
theorem oo_bar {a : Addr} (h : OO F env σ a) : OO (F.bar D) env σ a := h.elim (fun z => .inl (.inl z)) .inr
theorem li_end (S : Ss G F env cup σ H1) (hD : H1 D = none) (cl : clean env vs = true) (L : LI G F H1 D (wipeE env vs) (wipe σ vs) acc c H) : Ss G F env c σ H ∧ Rep G F.B (OO F env σ) H (.ref D) (.lst acc.reverse) := by
  have sub : ∀ a, OO F env σ a → OO (F.bar D) (wipeE env vs) (wipe σ vs) a := fun a h => oo_bar (wipe_oo2 cl a h)
  obtain ⟨us, u1, u2⟩ := L.us
  refine ⟨S.ext L.ex (fun a h => ?_) L.S.tab, .lst u1 (S.fresh hD) (reps_less sub u2)⟩
  obtain ⟨ws, w1, w2⟩ := L.S.box a h
  exact ⟨ws, w1, reps_less sub w2⟩
theorem hB (S : Ss G F env cup σ H1) (hD : H1 D = none) : F.B ≠ some D := fun e => S.fresh hD (.inl (S.bOc D e))
theorem li_move (hb : F.B ≠ some D) (L : LI G F H1 D envw σw acc c H) (S2 : Ss G (F.bar D) env2 c2 σ2 H') (e : ExE (F.bar D) H H') (m : ∀ a, OO (F.bar D) envw σw a → OO (F.bar D) env2 σ2 a) : LI G F H1 D envw σw acc c2 H' := by
  obtain ⟨us, u1, u2⟩ := L.us
  refine ⟨L.S.ext e (fun a h => ?_) S2.tab, L.ex.trans e, us, e _ _ u1 hb nt_lst, reps_kp (kp_oo L.S e) u2⟩
  obtain ⟨ws, w1, w2⟩ := S2.box a h
  exact ⟨ws, w1, reps_less m w2⟩
theorem li_push {envw : En} {σw : L2.St} (h0 : NN F.H0 D) (hb : F.B ≠ some D) (h1 : H1 D = none) (L : LI G F H1 D envw σw acc c H) {v : V} {y : PV} (r : Rep G F.B (OO (F.bar D) envw σw) H v y) : ∃ us, H D = some (.lst us) ∧ us.length = acc.length ∧ LI G F H1 D envw σw (y :: acc) c (upd H D (.lst (us ++ [v]))) := by
  obtain ⟨us, u1, u2⟩ := L.us
  have kp : Kp (OO (F.bar D) envw σw) H (upd H D (.lst (us ++ [v]))) := fun a x h n _ => by rw [upd_ne (fun e => by subst e; exact n (.inl (.inr rfl)))]; exact h
  refine ⟨us, u1, by rw [u2.length, List.length_reverse], L.S.updB (.inr rfl) hb h0 ⟨us, u1⟩, fun a o h n t => ?_, _, upd_same, ?_⟩
  · rw [upd_ne (fun e => by subst e; rw [h1] at h; cases h)]
    exact L.ex a o h n t
  · rw [List.reverse_cons]
    exact reps_kp kp (u2.append (.cons r .nil))
/-- all but the box and D stands -/
def ExD (F : FC) (D : Addr) (H H' : Hp) : Prop := ∀ a o, H a = some o → F.B ≠ some a → a ≠ D → NT o → H' a = some o
theorem Ss.extD (S : Ss G (F.bar D) env cup σ H) (e : ExD F D H H') (h0 : NN F.H0 D) (hD : ∃ o, H' D = some o ∧ NT o) (b : BoxOk G (F.bar D) (OO (F.bar D) env σ) H' cup') (tb : LamX.Tabs F.tl H') : Ss G (F.bar D) env cup' σ H' := by
  have k : Kp (OO (F.bar D) env σ) H H' := fun a o h n t => e a o h (fun z => n (.inl (S.bOc a z))) (fun z => n (.inl (.inr z))) t
  refine ⟨S.len, fun i x h => ?_, fun i xs h => ?_, S.apart, b, fun a h => ?_, S.bOc, fun a o h n t => ?_, tb⟩
  · obtain ⟨v, h1, h2⟩ := S.va i x h
    exact ⟨v, h1, rep_kp k h2⟩
  · obtain ⟨p, vs, h1, h2, h3, h4, h5⟩ := S.own i xs h
    exact ⟨p, vs, h1, e p _ h2 (fun z => h4 (S.bOc p z)) (fun z => h4 (.inr z)) nt_lst, reps_kp k h3, h4, h5⟩
  · by_cases hb : F.B = some a
    · obtain ⟨vs, h1, _⟩ := b a hb
      exact ⟨_, h1, nt_lst⟩
    · by_cases hd : a = D
      · subst hd; exact hD
      · obtain ⟨o, ho, t⟩ := S.trk a h
        exact ⟨o, e a o ho hb hd t, t⟩
  · by_cases hd : a = D
    · subst hd; exact absurd t (h0 _ h)
    · exact e a o (S.ent a o h n t) n hd t
def Mono (f : Turn) : Prop := ∀ x acc c acc' c', f x acc c = some (acc', c') → acc.length ≤ acc'.length
theorem mono_loop {f : Turn} (m : Mono f) : ∀ {xs acc c acc' c'}, loopA f xs acc c = some (acc', c') → acc.length ≤ acc'.length
  | [], acc, c, acc', c', h => by cases h; exact Nat.le_refl _
  | x :: r, acc, c, acc', c', h => by
    simp only [loopA] at h
    cases q : f x acc c with
    | none => rw [q] at h; cases h
    | some p =>
      obtain ⟨a, b⟩ := p
      rw [q] at h
      exact Nat.le_trans (m _ _ _ _ _ q) (mono_loop m h)
theorem push_len {r : R} {acc acc' : List PV} {c' : Cup} (h : pushR r acc = some (acc', c')) : ∃ y, r = .ok y c' ∧ acc' = y :: acc := by
  cases r with
  | ok y c => cases h; exact ⟨y, rfl, rfl⟩
  | _ => cases h
theorem ifR_cases {t : R} {k : Cup → Option (List PV × Cup)} {acc acc' : List PV} {c' : Cup} (h : ifR t k acc = some (acc', c')) : (∃ c, t = .ok (.bl true) c ∧ k c = some (acc', c')) ∨ (t = .ok (.bl false) c' ∧ acc' = acc) := by
  cases t with
  | ok x c =>
    cases x with
    | bl b =>
      cases b with
      | true => exact .inl ⟨c, rfl, h⟩
      | false => cases h; exact .inr ⟨rfl, rfl⟩
    | _ => cases h
  | _ => cases h
theorem tgR_some {o : Option En} {k : En → Option (List PV × Cup)} {r : List PV × Cup} (h : tgR o k = some r) : ∃ e, o = some e ∧ k e = some r := by
  cases o with
  | none => cases h
  | some e => exact ⟨e, rfl, h⟩
theorem mono_turn1 {t : Tg} {d el : E} {env : En} : Mono (turn1 t d el env) := fun x acc c acc' c' h => by
  obtain ⟨env2, _, h⟩ := tgR_some h
  rcases ifR_cases h with ⟨c2, _, h⟩ | ⟨_, rfl⟩
  · obtain ⟨y, _, rfl⟩ := push_len h
    simp
  · exact Nat.le_refl _
/-! ### transformers for every barred set -/
abbrev Tl := List (Addr × Str)
theorem PE.any {T : Tl} {e : Expr} {t : FC → TE} (h : ∀ F, F.tl = T → PE X e (t F)) : PE X e (fun σ H Q => ∃ F, F.tl = T ∧ t F σ H Q) := ⟨fun pins s σ H Q I ⟨F, hT, hq⟩ => (h F hT).run pins s σ H Q I hq⟩
theorem PTs.any {T : Tl} {e : List Expr} {t : FC → TT} (h : ∀ F, F.tl = T → PTs X e (t F)) : PTs X e (fun σ H Q => ∃ F, F.tl = T ∧ t F σ H Q) := ⟨fun pins s σ H Q I ⟨F, hT, hq⟩ => (h F hT).run pins s σ H Q I hq⟩
theorem PG.any {T : Tl} {e : Expr} {t : FC → TG} (h : ∀ F, F.tl = T → PG X e (t F)) : PG X e (fun v σ H Q => ∃ F, F.tl = T ∧ t F v σ H Q) := ⟨fun pins s σ H v u Q I r ⟨F, hT, hq⟩ => (h F hT).run pins s σ H v u Q I r hq⟩
theorem PI.any {T : Tl} {tg e : Expr} {t : FC → TI} (h : ∀ F, F.tl = T → PI X tg e (t F)) : PI X tg e (fun σ H Q => ∃ F, F.tl = T ∧ t F σ H Q) := ⟨fun pins s σ H Q I ⟨F, hT, hq⟩ => (h F hT).run pins s σ H Q I hq⟩
abbrev tGx (G : GC) (T : Tl) (vs : List Nat) (t : Tg) : TG := fun v σ H Q => ∃ F, F.tl = T ∧ tG G F vs t v σ H Q
abbrev tTx (G : GC) (T : Tl) (d : E) : TT := fun σ H Q => ∃ F, F.tl = T ∧ tDT G F W0 d σ H Q
abbrev tEx (G : GC) (T : Tl) (d : E) : TE := fun σ H Q => ∃ F, F.tl = T ∧ tD G F W0 d σ H Q
abbrev tIx (G : GC) (T : Tl) (d : E) : TI := fun σ H Q => ∃ F, F.tl = T ∧ tDI true G F W0 d σ H Q
/-- the state of what is gathered, by the turn -/
def LP (G : GC) (F : FC) (H1 : Hp) (D : Addr) (envw : En) (σw : L2.St) (f : Turn) (xs : List PV) (z : List PV × Cup) (i : Nat) (H : Hp) : Prop :=
  ∃ acc c, LI G F H1 D envw σw acc c H ∧ loopA f (xs.drop i) acc c = some z
theorem drop_get {xs : List PV} {i : Nat} {x : PV} (h : xs[i]? = some x) : xs.drop i = x :: xs.drop (i + 1) := by
  obtain ⟨hl, e⟩ := List.getElem?_eq_some_iff.mp h
  rw [List.drop_eq_getElem_cons hl, e]
theorem lp_turn {f : Turn} {xs : List PV} {z : List PV × Cup} {i : Nat} {x : PV} (hx : xs[i]? = some x) (h : loopA f (xs.drop i) acc c = some z) : ∃ acc' c', f x acc c = some (acc', c') ∧ loopA f (xs.drop (i + 1)) acc' c' = some z := by
  rw [drop_get hx] at h
  simp only [loopA] at h
  cases q : f x acc c with
  | none => rw [q] at h; cases h
  | some p => rw [q] at h; exact ⟨p.1, p.2, rfl, h⟩
/-- an element is made and put at the end -/
theorem el_sem {el : E} {Nx : Hp → Prop} (h0 : NN F.H0 D) (hb : F.B ≠ some D) (h1 : H1 D = none) (L : LI G F H1 D envw σw acc c2 H) (S2 : Ss G (F.bar D) env2 c2 σ2 H) (m : ∀ a, OO (F.bar D) envw σw a → OO (F.bar D) env2 σ2 a)
    {acc' : List PV} {c' : Cup} (hp : pushR (el env2 c2) acc = some (acc', c')) (hl : acc.length < 1000000) (k : ∀ H, LI G F H1 D envw σw acc' c' H → Nx H) :
    tEx G F.tl el σ2 H fun y H4 => ∃ acc, H4 D = some (.lst acc) ∧ acc.length < sizeLine ∧ Nx (upd H4 D (.lst (acc ++ [y]))) := by
  obtain ⟨y, e, rfl⟩ := push_len hp
  refine ⟨F.bar D, rfl, env2, c2, S2, ?_⟩
  rw [e]
  intro v H4 S4 e4 r4
  have L4 := li_move hb L S4 e4 m
  obtain ⟨us, u1, u2, u3⟩ := li_push h0 hb h1 L4 (rep_less m r4)
  exact ⟨us, u1, by rw [u2]; exact lt_line (Nat.le_of_lt hl), k _ u3⟩
theorem Ss.h0N (S : Ss G F env cup σ H) (hD : NN H D) : NN F.H0 D := fun o e t => by
  by_cases hb : F.B = some D
  · exact absurd (.inl (S.bOc D hb)) (S.freshN hD)
  · exact hD _ (S.ent D o e hb t) t
theorem Ss.h0 (S : Ss G F env cup σ H) (hD : H D = none) : NN F.H0 D := S.h0N (.of hD)
theorem Ss.nnBack (S : Ss G F env cup σ H') (e : ExE F H H') (hD : NN H' D) : NN H D := fun o h t => by
  by_cases hb : F.B = some D
  · exact absurd (.inl (S.bOc D hb)) (S.freshN hD)
  · exact hD _ (e D o h hb t) t
theorem endC_ok {o : Option (List PV × Cup)} {x : PV} {c : Cup} (h : endC o = .ok x c) : ∃ acc, o = some (acc, c) ∧ x = .lst acc.reverse ∧ acc.length ≤ 1000000 := by
  cases o with
  | none => cases h
  | some p =>
    obtain ⟨acc, c'⟩ := p
    simp only [endC] at h
    cases e : lenOk acc with
    | false => rw [e] at h; cases h
    | true => rw [e] at h; cases h; exact ⟨acc, rfl, rfl, lenOk_le e⟩
theorem endC_not {o : Option (List PV × Cup)} {k : Str} {c : Cup} : endC o ≠ .exc k c := by
  cases o with
  | none => exact nofun
  | some p =>
    simp only [endC]
    cases lenOk p.1 <;> exact nofun
/-- the walk of what is gathered, whatever a turn does -/
theorem gather {f : En → Turn} {Q : VK} {xs : List PV} {J : It} {body : V → L2.St → Hp → (Hp → Prop) → Prop} (S : Ss G F env c σ H1) (hD : H1 D = none)
    (hw : WalkOk G F.B (fun a => F.B = some a) (OO F env σ) H1 J xs) (hm : ∀ e, Mono (f e)) {rr : R} (hrr : walkC vs f (.lst xs) env c = rr) (hst : rr ≠ .stuck) (fin : ∀ acc cz H, rr = .ok (.lst acc.reverse) cz → clean env vs = true → LI G F H1 D (wipeE env vs) (wipe σ vs) acc cz H → Q (.ref D) H)
    (hb : ∀ (x : PV) (v : V) (acc acc' : List PV) (c c' : Cup) (H : Hp) (Nx : Hp → Prop), LI G F H1 D (wipeE env vs) (wipe σ vs) acc c H → Rep G F.B (OO (F.bar D) (wipeE env vs) (wipe σ vs)) H v x → f (wipeE env vs) x acc c = some (acc', c') → acc'.length ≤ 1000000 →
      (∀ H, LI G F H1 D (wipeE env vs) (wipe σ vs) acc' c' H → Nx H) → body v (wipe σ vs) H Nx) :
    ∃ Wq : Nat → Nat → Hp → Prop, (∃ m, Wq 0 m (upd H1 D (.lst []))) ∧ ∀ i m H, Wq i m H →
      (J.stop i H ∧ Q (.ref D) H) ∨ (J.go i H ∧ ∃ Nx : Hp → Prop, (∀ H', Nx H' → ∃ m', m' < m ∧ Wq (i + 1) m' H') ∧ ∀ x H', J.yld i H x H' → body x (wipe σ vs) H' Nx) := by
  obtain ⟨Gd, Y, wk, hY⟩ := hw
  simp only [walkC] at hrr
  cases cl : clean env vs with
  | false => rw [cl] at hrr; exact absurd hrr.symm hst
  | true =>
    rw [cl] at hrr
    simp only [cond_true] at hrr
    cases eo : endC (loopA (f (wipeE env vs)) xs [] c) with
    | stuck => rw [eo] at hrr; exact absurd hrr.symm hst
    | exc k c => exact absurd eo endC_not
    | ok z cz =>
      rw [eo] at hrr
      obtain ⟨accz, ez, rfl, hlz⟩ := endC_ok eo
      have nb : F.B ≠ some D := hB S hD
      have sub : ∀ a, OO F env σ a → OO (F.bar D) (wipeE env vs) (wipe σ vs) a := fun a h => oo_bar (wipe_oo2 cl a h)
      have gd : ∀ H', ExE F H1 H' → Trk (OO (F.bar D) (wipeE env vs) (wipe σ vs)) H' → Gd H' ∧ ∀ i v H2, i < xs.length → Y i H' v H2 → Evl.Ex H' H2 ∧ ∃ x, xs[i]? = some x ∧ Rep G F.B (OO (F.bar D) (wipeE env vs) (wipe σ vs)) H2 v x := fun H' e t =>
        hY _ H' e (fun a h => by
          rcases h with (h | h) | h
          · exact .inl (.inl h)
          · subst h; exact .inr (.of hD)
          · exact .inl (wipe_oo1 S vs a (.inr h))) t
      refine ⟨fun i m H => m = xs.length - i ∧ i ≤ xs.length ∧ LP G F H1 D (wipeE env vs) (wipe σ vs) (f (wipeE env vs)) xs (accz, cz) i H, ⟨xs.length, by simp, Nat.zero_le _, [], c, li_start S hD vs, ez⟩, ?_⟩
      rintro i m H ⟨rfl, hi, acc, ci, L, el⟩
      obtain ⟨g1, g2⟩ := gd H L.ex (fun a h => L.S.oo_trk h)
      by_cases hlt : i < xs.length
      · refine .inr ⟨wk.goes i H hlt g1, fun H' => LP G F H1 D (wipeE env vs) (wipe σ vs) (f (wipeE env vs)) xs (accz, cz) (i + 1) H', fun H' p' => ⟨xs.length - (i + 1), by omega, rfl, hlt, p'⟩, fun v H' y => ?_⟩
        obtain ⟨ex, x, hx, hr⟩ := g2 i v H' hlt (wk.yields i H v H' hlt g1 y)
        obtain ⟨acc', c', ht, hrest⟩ := lp_turn hx el
        have L' : LI G F H1 D (wipeE env vs) (wipe σ vs) acc ci H' := li_move nb L (L.S.ex ex) (ExE.of_ex ex) (fun _ h => h)
        exact hb x v acc acc' ci c' H' _ L' hr ht (Nat.le_trans (mono_loop (hm _) hrest) hlz) fun H'' L'' => ⟨acc', c', L'', hrest⟩
      · have e : i = xs.length := by omega
        subst e
        rw [List.drop_length] at el
        cases el
        exact .inl ⟨wk.stops H g1, fin _ _ H hrr.symm cl L⟩
/-! ### lists that only the receiver will hold -/
def PostF (G : GC) (F : FC) (W : WX) (env : En) (σ : L2.St) (H : Hp) (Q : VK) : R → Prop
  | .ok x cup' => ∀ p vs xs H', x = .lst xs → NN H p → H' p = some (.lst vs) → Ss G (F.bar p) env cup' σ H' → ExE F H H' → Reps G F.B (OO (F.bar p) env σ) H' vs xs → Q (.ref p) H'
  | .exc c cup' => ∀ H', Ss G F env cup' σ H' → ExE F H H' → wx G W c σ H'
  | .stuck => False
abbrev tDF (G : GC) (F : FC) (W : WX) (d : E) : TE := fun σ H Q => ∃ env cup, Ss G F env cup σ H ∧ PostF G F W env σ H Q (d env cup)
/-- what is barred as well need not be -/
theorem Ss.unbar (S : Ss G (F.bar D) env cup σ H) (hb : ∀ a, F.B = some a → F.Oc a) : Ss G F env cup σ H := by
  have m : ∀ a, OO F env σ a → OO (F.bar D) env σ a := fun a h => oo_bar h
  refine ⟨S.len, fun i x h => ?_, fun i xs h => ?_, S.apart, fun a h => ?_, fun a h => S.trk a (.inl h), hb, S.ent, S.tab⟩
  · obtain ⟨v, q1, q2⟩ := S.va i x h
    exact ⟨v, q1, rep_less m q2⟩
  · obtain ⟨p, vs, q1, q2, q3, q4, q5⟩ := S.own i xs h
    exact ⟨p, vs, q1, q2, reps_less m q3, fun z => q4 (.inl z), q5⟩
  · obtain ⟨vs, q1, q2⟩ := S.box a h
    exact ⟨vs, q1, reps_less m q2⟩
/-- such a list is a value -/
theorem PostF.of {Q : VK} {r : R} (S : Ss G F env cup σ H) (h : PostA G F W (fun x v H' => Rep G F.B (OO F env σ) H' v x) env σ H Q r) : PostF G F W env σ H Q r := by
  cases r with
  | ok x c => exact fun p vs xs H' ex hp h1 S' e r => h _ H' (S'.unbar S.bOc) e (by subst ex; exact .lst h1 (S.freshN hp) (reps_less (fun a z => oo_bar z) r))
  | exc k c => exact h
  | stuck => exact h
theorem post_bindF {β : Type} {Pa : PV → β → Hp → Prop} {Q : VK} {Q1 : β → Hp → Prop} {a : E} {k : PV → E} (h : PostF G F W env σ H Q (bindE a k env cup))
    (hk : ∀ x cup1 v H1, Ss G F env cup1 σ H1 → ExE F H H1 → Pa x v H1 → PostF G F W env σ H1 Q (k x env cup1) → Q1 v H1) : PostA G F W Pa env σ H Q1 (a env cup) := by
  unfold bindE at h
  cases e : a env cup with
  | ok x c =>
    rw [e] at h
    intro v H' S e' p
    refine hk x c v H' S e' p ?_
    revert h
    show PostF G F W env σ H Q (k x env c) → PostF G F W env σ H' Q (k x env c)
    cases k x env c with
    | ok y c2 =>
        intro h q vs xs H2 ex hq h1 S2 e2 r
        exact h q vs xs H2 ex (S.nnBack e' hq) h1 S2 (e'.trans e2) r
    | exc k2 c2 => exact fun h H2 S2 e2 => h H2 S2 (e'.trans e2)
    | stuck => exact fun h => h
  | exc c k => rw [e] at h; exact h
  | stuck => rw [e] at h; exact h
theorem gather_fin {Q : VK} {r : R} (S : Ss G F env c σ H1) (hD : H1 D = none) (q : PostA G F W (fun x v H' => Rep G F.B (OO F env σ) H' v x) env σ H1 Q r) :
    r ≠ .stuck ∧ ∀ acc cz H, r = .ok (.lst acc.reverse) cz → clean env vs = true → LI G F H1 D (wipeE env vs) (wipe σ vs) acc cz H → Q (.ref D) H := by
  refine ⟨fun e => by rw [e] at q; exact q, fun acc cz H e cl L => ?_⟩
  rw [e] at q
  obtain ⟨E1, E2⟩ := li_end S hD cl L
  exact q _ H E1 L.ex E2
theorem gather_finF {Q : VK} {r : R} (S : Ss G F env c σ H1) (hD : H1 D = none) (q : PostF G F W env σ H1 Q r) :
    r ≠ .stuck ∧ ∀ acc cz H, r = .ok (.lst acc.reverse) cz → clean env vs = true → LI G F H1 D (wipeE env vs) (wipe σ vs) acc cz H → Q (.ref D) H := by
  refine ⟨fun e => by rw [e] at q; exact q, fun acc cz H e cl L => ?_⟩
  rw [e] at q
  have sub : ∀ a, OO (F.bar D) env σ a → OO (F.bar D) (wipeE env vs) (wipe σ vs) a := fun a h => h.elim .inl fun h => (wipe_oo2 (F := F) cl a (.inr h)).elim (fun z => .inl (.inl z)) .inr
  obtain ⟨us, u1, u2⟩ := L.us
  refine q D us _ H rfl (.of hD) u1 ((bar_S (o := .lst []) S hD nt_lst).extD (H' := H) (fun a o h n n2 t => ?_) (S.h0 hD) ⟨_, u1, nt_lst⟩ (fun a h => ?_) L.S.tab) L.ex (reps_less sub u2)
  · rw [upd_ne n2] at h
    exact L.ex a o h n t
  · obtain ⟨ws, w1, w2⟩ := L.S.box a h
    exact ⟨ws, w1, reps_less sub w2⟩
theorem lc_body {wi : E} {t : Tg} {d el : E} {Q : VK} {xs : List PV} {J : It} {c : Cup} {rr : R} (S1 : Ss G F env c σ H1) (hD : H1 D = none) (hw : WalkOk G F.B (fun a => F.B = some a) (OO F env σ) H1 J xs)
    (hrr : walkC vs (turn1 t d el) (.lst xs) env c = rr) (hst : rr ≠ .stuck) (fin : ∀ acc cz H, rr = .ok (.lst acc.reverse) cz → clean env vs = true → LI G F H1 D (wipeE env vs) (wipe σ vs) acc cz H → Q (.ref D) H) :
    ∃ W : Nat → Nat → Hp → Prop, (∃ m, W 0 m (upd H1 D (.lst []))) ∧ ∀ i m H, W i m H →
      (J.stop i H ∧ Q (.ref D) H) ∨ (J.go i H ∧ ∃ Nx : Hp → Prop, (∀ H', Nx H' → ∃ m', m' < m ∧ W (i + 1) m' H') ∧ ∀ x H', J.yld i H x H' → tGx G F.tl vs t x (wipe σ vs) H' fun σ2 H2 => wipe σ2 vs = wipe σ vs ∧ tTx G F.tl d σ2 H2 fun b H3 =>
        if b = true then tEx G F.tl el σ2 H3 fun y H4 => ∃ acc, H4 D = some (.lst acc) ∧ acc.length < sizeLine ∧ Nx (upd H4 D (.lst (acc ++ [y]))) else Nx H3) := by
  have nb := hB S1 hD
  have h0 := S1.h0 hD
  refine gather (body := fun x σw H' Nx => tGx G F.tl vs t x σw H' fun σ2 H2 => wipe σ2 vs = wipe σ vs ∧ tTx G F.tl d σ2 H2 fun b H3 =>
    if b = true then tEx G F.tl el σ2 H3 fun y H4 => ∃ acc, H4 D = some (.lst acc) ∧ acc.length < sizeLine ∧ Nx (upd H4 D (.lst (acc ++ [y]))) else Nx H3) S1 hD hw (fun e => mono_turn1) hrr hst fin ?_
  intro x v acc acc' c c' H Nx L r ht hl k
  obtain ⟨env2, et, ht⟩ := tgR_some ht
  refine ⟨F.bar D, rfl, wipeE env vs, c, x, L.S, r, env2, et, fun σ2 S2 hw2 m n => ⟨hw2.trans wipe_wipe, F.bar D, rfl, env2, c, S2, ?_⟩⟩
  have back : ∀ a, OO (F.bar D) (wipeE env vs) (wipe σ vs) a → OO (F.bar D) env2 σ2 a := oo_back (fun i xs hi => wipeE_in hi) n fun i hi => wipe_same hw2 hi
  rcases ifR_cases ht with ⟨c2, ed, ht⟩ | ⟨ed, rfl⟩
  · rw [ed]
    intro b H3 S3 e3 hbb
    cases hbb
    have L3 := li_move nb L S3 e3 back
    simp only [if_true]
    obtain ⟨y, _, rfl⟩ := push_len ht
    exact el_sem h0 nb hD L3 S3 back ht (by simp only [List.length_cons] at hl; omega) k
  · rw [ed]
    intro b H3 S3 e3 hbb
    cases hbb
    exact k _ (li_move nb L S3 e3 back)
theorem lc_sem {wi : E} {t : Tg} {d el : E} {Q : VK} (h : tD G F W (dComp vs wi t d el) σ H Q) : tLc (tDI false G F W wi) (tGx G F.tl vs t) (tTx G F.tl d) (tEx G F.tl el) vs σ H Q := by
  obtain ⟨env, cup, S, q⟩ := h
  refine ⟨env, cup, S, post_bind q fun x c1 J H1 S1 e1 ⟨xs, ex, hxl, hw⟩ q1 D hD => ?_⟩
  subst ex
  obtain ⟨g1, g2⟩ := gather_fin (vs := vs) S1 hD q1
  exact lc_body (wi := wi) S1 hD hw rfl g1 g2
theorem lc_semF {wi : E} {t : Tg} {d el : E} {Q : VK} (h : tDF G F W (dComp vs wi t d el) σ H Q) : tLc (tDI false G F W wi) (tGx G F.tl vs t) (tTx G F.tl d) (tEx G F.tl el) vs σ H Q := by
  obtain ⟨env, cup, S, q⟩ := h
  refine ⟨env, cup, S, post_bindF q fun x c1 J H1 S1 e1 ⟨xs, ex, hxl, hw⟩ q1 D hD => ?_⟩
  subst ex
  obtain ⟨g1, g2⟩ := gather_finF (vs := vs) S1 hD q1
  exact lc_body (wi := wi) S1 hD hw rfl g1 g2
/-! ### two clauses -/
def turnW (wi : E) (vs1 : List Nat) (f : En → Turn) (env : En) (acc : List PV) (c : Cup) : Option (List PV × Cup) := match wi env c with
  | .ok (.lst ys) c3 => bif clean env vs1 then loopA (f (wipeE env vs1)) ys acc c3 else none
  | _ => none
def turn2 (t : Tg) (d wi1 : E) (vs1 : List Nat) (t1 : Tg) (d1 el : E) (env : En) : Turn := fun x acc c => tgR (t x env) fun env2 => ifR (d env2 c) (fun c2 => turnW wi1 vs1 (turn1 t1 d1 el) env2 acc c2) acc
def dComp2 (vs : List Nat) (wi : E) (t : Tg) (d wi1 : E) (vs1 : List Nat) (t1 : Tg) (d1 el : E) : E := bindE wi (walkC vs (turn2 t d wi1 vs1 t1 d1 el))
theorem turnW_some {wi : E} {vs1 : List Nat} {f : En → Turn} {env : En} {r : List PV × Cup} (h : turnW wi vs1 f env acc c = some r) : ∃ ys c3, wi env c = .ok (.lst ys) c3 ∧ clean env vs1 = true ∧ loopA (f (wipeE env vs1)) ys acc c3 = some r := by
  unfold turnW at h
  split at h
  · rename_i ys c3 e
    cases q : clean env vs1 with
    | true => rw [q] at h; exact ⟨ys, c3, e, rfl, h⟩
    | false => rw [q] at h; cases h
  · cases h
theorem mono_turn2 {t : Tg} {d wi1 : E} {vs1 : List Nat} {t1 : Tg} {d1 el : E} {env : En} : Mono (turn2 t d wi1 vs1 t1 d1 el env) := fun x acc c acc' c' h => by
  obtain ⟨env2, _, h⟩ := tgR_some h
  rcases ifR_cases h with ⟨c2, _, h⟩ | ⟨_, rfl⟩
  · obtain ⟨ys, c3, _, _, h⟩ := turnW_some h
    exact mono_loop mono_turn1 h
  · exact Nat.le_refl _
theorem lc2_body {t : Tg} {d el wi1 d1 : E} {t1 : Tg} {vs1 : List Nat} {Q : VK} {xs : List PV} {J : It} {c : Cup} {rr : R} (hvs : ∀ i ∈ vs1, i ∈ vs) (S1 : Ss G F env c σ H1) (hD : H1 D = none) (hw : WalkOk G F.B (fun a => F.B = some a) (OO F env σ) H1 J xs)
    (hrr : walkC vs (turn2 t d wi1 vs1 t1 d1 el) (.lst xs) env c = rr) (hst : rr ≠ .stuck) (fin : ∀ acc cz H, rr = .ok (.lst acc.reverse) cz → clean env vs = true → LI G F H1 D (wipeE env vs) (wipe σ vs) acc cz H → Q (.ref D) H) :
    ∃ W : Nat → Nat → Hp → Prop, (∃ m, W 0 m (upd H1 D (.lst []))) ∧ ∀ i m H, W i m H →
      (J.stop i H ∧ Q (.ref D) H) ∨ (J.go i H ∧ ∃ Nx : Hp → Prop, (∀ H', Nx H' → ∃ m', m' < m ∧ W (i + 1) m' H') ∧ ∀ x H', J.yld i H x H' → tGx G F.tl vs t x (wipe σ vs) H' fun σ2 H2 => wipe σ2 vs = wipe σ vs ∧ tTx G F.tl d σ2 H2 fun b H3 =>
        if b = true then tIx G F.tl wi1 σ2 H3 fun J1 H4 => ∃ W1 : Nat → Nat → Hp → Prop, (∃ m, W1 0 m H4) ∧ ∀ j k H, W1 j k H →
          (J1.stop j H ∧ Nx H) ∨ (J1.go j H ∧ ∃ Nx1 : Hp → Prop, (∀ H', Nx1 H' → ∃ k', k' < k ∧ W1 (j + 1) k' H') ∧ ∀ x H', J1.yld j H x H' → tGx G F.tl vs1 t1 x (wipe σ2 vs1) H' fun σ3 H5 => wipe σ3 vs1 = wipe σ2 vs1 ∧ tTx G F.tl d1 σ3 H5 fun b H6 =>
            if b = true then tEx G F.tl el σ3 H6 fun y H7 => ∃ acc, H7 D = some (.lst acc) ∧ acc.length < sizeLine ∧ Nx1 (upd H7 D (.lst (acc ++ [y]))) else Nx1 H6)
        else Nx H3) := by
  have nb := hB S1 hD
  have h0 := S1.h0 hD
  refine gather (body := fun x σw H' Nx => tGx G F.tl vs t x σw H' fun σ2 H2 => wipe σ2 vs = wipe σ vs ∧ tTx G F.tl d σ2 H2 fun b H3 =>
    if b = true then tIx G F.tl wi1 σ2 H3 fun J1 H4 => ∃ W1 : Nat → Nat → Hp → Prop, (∃ m, W1 0 m H4) ∧ ∀ j k H, W1 j k H →
      (J1.stop j H ∧ Nx H) ∨ (J1.go j H ∧ ∃ Nx1 : Hp → Prop, (∀ H', Nx1 H' → ∃ k', k' < k ∧ W1 (j + 1) k' H') ∧ ∀ x H', J1.yld j H x H' → tGx G F.tl vs1 t1 x (wipe σ2 vs1) H' fun σ3 H5 => wipe σ3 vs1 = wipe σ2 vs1 ∧ tTx G F.tl d1 σ3 H5 fun b H6 =>
        if b = true then tEx G F.tl el σ3 H6 fun y H7 => ∃ acc, H7 D = some (.lst acc) ∧ acc.length < sizeLine ∧ Nx1 (upd H7 D (.lst (acc ++ [y]))) else Nx1 H6)
    else Nx H3) S1 hD hw (fun e => mono_turn2) hrr hst fin ?_
  intro x v acc acc' c c' H Nx L r ht hl k
  obtain ⟨env2, et, ht⟩ := tgR_some ht
  refine ⟨F.bar D, rfl, wipeE env vs, c, x, L.S, r, env2, et, fun σ2 S2 hw2 m n => ⟨hw2.trans wipe_wipe, F.bar D, rfl, env2, c, S2, ?_⟩⟩
  have back : ∀ a, OO (F.bar D) (wipeE env vs) (wipe σ vs) a → OO (F.bar D) env2 σ2 a := oo_back (fun i xs hi => wipeE_in hi) n fun i hi => wipe_same hw2 hi
  rcases ifR_cases ht with ⟨c2, ed, ht⟩ | ⟨ed, rfl⟩
  · rw [ed]
    intro b H3 S3 e3 hbb
    cases hbb
    have L3 := li_move nb L S3 e3 back
    simp only [if_true]
    obtain ⟨ys, c3, ew, cl1, ht⟩ := turnW_some ht
    refine ⟨F.bar D, rfl, env2, c2, S3, ?_⟩
    rw [ew]
    intro J1 H4 S4 e4 ⟨ys', ey, hyl, Gd, Y, wk, hY⟩
    cases ey
    have L4 := li_move nb L3 S4 e4 back
    have h4D : ∃ o, H4 D = some o ∧ NT o := L4.S.trk D (.inr rfl)
    have Sw : ∀ {acc c H}, LI G F H1 D (wipeE env vs) (wipe σ vs) acc c H → ExD F D H4 H → Ss G (F.bar D) env2 c σ2 H := fun {acc c H} L e => by
      refine S4.extD e h0 (L.S.trk D (.inr rfl)) (fun a h => ?_) L.S.tab
      obtain ⟨ws, w1, w2⟩ := L.S.box a h
      exact ⟨ws, w1, reps_less m w2⟩
    have gd : ∀ H', ExD F D H4 H' → Trk (OO (F.bar D) (wipeE env2 vs1) (wipe σ2 vs1)) H' → Gd H' ∧ ∀ i v H2, i < ys.length → Y i H' v H2 → Evl.Ex H' H2 ∧ ∃ x, ys[i]? = some x ∧ Rep G F.B (OO (F.bar D) (wipeE env2 vs1) (wipe σ2 vs1)) H2 v x := fun H' e t =>
      hY _ H' (fun a o h n t => e a o h (fun z => n (.inl (.inl (S1.bOc a z)))) (fun z => n (.inl (.inr z))) t) (fun a h => .inl (wipe_oo1 S4 vs1 a h)) t
    refine ⟨fun j k H => k = ys.length - j ∧ j ≤ ys.length ∧ ∃ acc c, LI G F H1 D (wipeE env vs) (wipe σ vs) acc c H ∧ ExD F D H4 H ∧ loopA (turn1 t1 d1 el (wipeE env2 vs1)) (ys.drop j) acc c = some (acc', c'),
      ⟨ys.length, by simp, Nat.zero_le _, acc, c3, L4, fun a o h _ _ _ => h, ht⟩, ?_⟩
    rintro j kk H5 ⟨rfl, hj, acc5, c5, L5, e5, el5⟩
    have S5 := wipe_S (Sw L5 e5) vs1
    obtain ⟨g1, g2⟩ := gd H5 e5 (fun a h => S5.oo_trk h)
    by_cases hlt : j < ys.length
    · refine .inr ⟨wk.goes j H5 hlt g1, fun H => j + 1 ≤ ys.length ∧ ∃ acc c, LI G F H1 D (wipeE env vs) (wipe σ vs) acc c H ∧ ExD F D H4 H ∧ loopA (turn1 t1 d1 el (wipeE env2 vs1)) (ys.drop (j + 1)) acc c = some (acc', c'),
        fun H' p' => ⟨ys.length - (j + 1), by omega, rfl, p'⟩, fun v1 H6 y => ?_⟩
      obtain ⟨ex, x1, hx1, hr1⟩ := g2 j v1 H6 hlt (wk.yields j H5 v1 H6 hlt g1 y)
      obtain ⟨acc6, c6, ht1, hrest⟩ := lp_turn hx1 el5
      have hl6 : acc6.length ≤ 1000000 := Nat.le_trans (mono_loop mono_turn1 hrest) hl
      have L6 : LI G F H1 D (wipeE env vs) (wipe σ vs) acc5 c5 H6 := li_move nb L5 (L5.S.ex ex) (ExE.of_ex ex) (fun _ h => h)
      have S6 := S5.ex ex
      have e6 : ExD F D H4 H6 := fun a o h n1 n2 t => ex _ _ (e5 a o h n1 n2 t)
      obtain ⟨env3, et1, ht1⟩ := tgR_some ht1
      refine ⟨F.bar D, rfl, wipeE env2 vs1, c5, x1, S6, hr1, env3, et1, fun σ3 S7 hw3 m3 n3 => ⟨hw3.trans wipe_wipe, F.bar D, rfl, env3, c5, S7, ?_⟩⟩
      have back3 : ∀ a, OO (F.bar D) (wipeE env vs) (wipe σ vs) a → OO (F.bar D) env3 σ3 a := fun a h =>
        oo_back (fun i xs hi => wipeE_in hi) n3 (fun i hi => wipe_same hw3 hi) a (wipe_oo2 cl1 a (back a h))
      rcases ifR_cases ht1 with ⟨c7, ed1, ht1⟩ | ⟨ed1, rfl⟩
      · rw [ed1]
        intro b H7 S7 e7 hbb
        cases hbb
        have L7 := li_move nb L6 S7 e7 back3
        have e7' : ExD F D H4 H7 := fun a o h n1 n2 t => e7 _ _ (e6 a o h n1 n2 t) n1 t
        simp only [if_true]
        obtain ⟨y1, ee, rfl⟩ := push_len ht1
        refine ⟨F.bar D, rfl, env3, c7, S7, ?_⟩
        rw [ee]
        intro v H8 S8 e8 r8
        have L8 := li_move nb L7 S8 e8 back3
        obtain ⟨us, u1, u2, u3⟩ := li_push h0 nb hD L8 (rep_less back3 r8)
        refine ⟨us, u1, by rw [u2]; simp only [List.length_cons] at hl6; exact lt_line (by omega), hlt, _, _, u3, fun a o h n1 n2 t => ?_, hrest⟩
        rw [upd_ne n2]
        exact e8 _ _ (e7' a o h n1 n2 t) n1 t
      · rw [ed1]
        intro b H7 S7 e7 hbb
        cases hbb
        exact ⟨hlt, _, _, li_move nb L6 S7 e7 back3, fun a o h n1 n2 t => e7 _ _ (e6 a o h n1 n2 t) n1 t, hrest⟩
    · have e : j = ys.length := by omega
      subst e
      rw [List.drop_length] at el5
      cases el5
      exact .inl ⟨wk.stops H5 g1, k _ L5⟩
  · rw [ed]
    intro b H3 S3 e3 hbb
    cases hbb
    exact k _ (li_move nb L S3 e3 back)
theorem lc2_sem {wi : E} {t : Tg} {d el wi1 d1 : E} {t1 : Tg} {vs1 : List Nat} {Q : VK} (hvs : ∀ i ∈ vs1, i ∈ vs) (h : tD G F W (dComp2 vs wi t d wi1 vs1 t1 d1 el) σ H Q) :
    tLc2 (tDI false G F W wi) (tGx G F.tl vs t) (tTx G F.tl d) (tIx G F.tl wi1) (tGx G F.tl vs1 t1) (tTx G F.tl d1) (tEx G F.tl el) vs vs1 σ H Q := by
  obtain ⟨env, cup, S, q⟩ := h
  refine ⟨env, cup, S, post_bind q fun x c1 J H1 S1 e1 ⟨xs, ex, hxl, hw⟩ q1 D hD => ?_⟩
  subst ex
  obtain ⟨g1, g2⟩ := gather_fin (vs := vs) S1 hD q1
  exact lc2_body hvs S1 hD hw rfl g1 g2
theorem lc2_semF {wi : E} {t : Tg} {d el wi1 d1 : E} {t1 : Tg} {vs1 : List Nat} {Q : VK} (hvs : ∀ i ∈ vs1, i ∈ vs) (h : tDF G F W (dComp2 vs wi t d wi1 vs1 t1 d1 el) σ H Q) :
    tLc2 (tDI false G F W wi) (tGx G F.tl vs t) (tTx G F.tl d) (tIx G F.tl wi1) (tGx G F.tl vs1 t1) (tTx G F.tl d1) (tEx G F.tl el) vs vs1 σ H Q := by
  obtain ⟨env, cup, S, q⟩ := h
  refine ⟨env, cup, S, post_bindF q fun x c1 J H1 S1 e1 ⟨xs, ex, hxl, hw⟩ q1 D hD => ?_⟩
  subst ex
  obtain ⟨g1, g2⟩ := gather_finF (vs := vs) S1 hD q1
  exact lc2_body hvs S1 hD hw rfl g1 g2
end RX
set_option maxHeartbeats 4000000
namespace RX
open PySem L2
variable {G : GC} {B : Option Addr} {O Oe O' : Addr → Prop} {H H' H1 : Hp} {X : Cx}
variable {F F' : FC} {env env' env2 envw : En} {cup cup' c c2 : Cup} {σ σ' σ2 σw : L2.St} {W : WX} {D : Addr} {acc : List PV} {vs : List Nat}

/-! ### comprehensions as values -/
/-- the contexts of a block of X -/
abbrev Blks (X : Cx) (scope : Scope) (P : Cx → Prop) : Prop := ∀ (s : Shared) (H : Hp) (C : Addr) (cl : List (Str × Addr)) (fp : List Addr), P (X.blk s H scope (compEnvC scope cl C X.env) fp)
theorem pd_comp {elt tg iter : Expr} {ifs : List Expr} {scope : Scope} {own : List (Str × Nat)} {pos : Pos} {wi d el : E} {t : Tg} (hc : X.calm = true) (hN : X.N.Nodup) (ok : BlkOk X.N X.env.scope scope own)
    (hi : PI X tg iter (tDI false (gOf X) F W wi)) (hg : Blks X scope fun Y => ∀ F', F'.tl = F.tl → PG Y tg (tG (gOf X) F' (own.map (·.2)) t)) (ht : Blks X scope fun Y => ∀ F', F'.tl = F.tl → PTs Y ifs (tDT (gOf X) F' W0 d)) (he : Blks X scope fun Y => ∀ F', F'.tl = F.tl → PE Y elt (tD (gOf X) F' W0 el)) (hs : ∀ x, foldedSetIterable iter X.env x = pure x) :
    PE X (.ListComp elt [⟨tg, iter, ifs, 0⟩] scope pos) (tD (gOf X) F W (dComp (own.map (·.2)) wi t d el)) :=
  PE.imp (pe_lc hc hN hi ok (fun s H C cl fp => PG.any (hg s H C cl fp)) (fun s H C cl fp => PTs.any (ht s H C cl fp)) (fun s H C cl fp => PE.any (he s H C cl fp)) hs) fun σ H Q h => lc_sem h
theorem pd_comp2 {elt tg iter tg1 iter1 : Expr} {ifs ifs1 : List Expr} {scope : Scope} {own : List (Str × Nat)} {vs1 : List Nat} {pos : Pos} {wi wi1 d d1 el : E} {t t1 : Tg} (hc : X.calm = true) (hN : X.N.Nodup) (ok : BlkOk X.N X.env.scope scope own) (hv : ∀ i ∈ vs1, i ∈ own.map (·.2))
    (hi : PI X tg iter (tDI false (gOf X) F W wi)) (hg : Blks X scope fun Y => ∀ F', F'.tl = F.tl → PG Y tg (tG (gOf X) F' (own.map (·.2)) t)) (ht : Blks X scope fun Y => ∀ F', F'.tl = F.tl → PTs Y ifs (tDT (gOf X) F' W0 d))
    (hi1 : Blks X scope fun Y => ∀ F', F'.tl = F.tl → PI Y tg1 iter1 (tDI true (gOf X) F' W0 wi1)) (hg1 : Blks X scope fun Y => ∀ F', F'.tl = F.tl → PG Y tg1 (tG (gOf X) F' vs1 t1)) (ht1 : Blks X scope fun Y => ∀ F', F'.tl = F.tl → PTs Y ifs1 (tDT (gOf X) F' W0 d1))
    (he : Blks X scope fun Y => ∀ F', F'.tl = F.tl → PE Y elt (tD (gOf X) F' W0 el)) (hs : ∀ x, foldedSetIterable iter X.env x = pure x) (hs1 : ∀ env x, foldedSetIterable iter1 env x = pure x) :
    PE X (.ListComp elt [⟨tg, iter, ifs, 0⟩, ⟨tg1, iter1, ifs1, 0⟩] scope pos) (tD (gOf X) F W (dComp2 (own.map (·.2)) wi t d wi1 vs1 t1 d1 el)) :=
  PE.imp (pe_lc2 hc hN hi ok hv (fun s H C cl fp => PG.any (hg s H C cl fp)) (fun s H C cl fp => PTs.any (ht s H C cl fp)) (fun s H C cl fp => PI.any (hi1 s H C cl fp)) (fun s H C cl fp => PG.any (hg1 s H C cl fp)) (fun s H C cl fp => PTs.any (ht1 s H C cl fp))
    (fun s H C cl fp => PE.any (he s H C cl fp)) hs hs1) fun σ H Q h => lc2_sem hv h

/-! ### fresh lists -/
theorem post_ofF {Q : VK} {o : Option PV} (h : PostF G F W env σ H Q (ofO o env cup)) (S : Ss G F env cup σ H) : ∃ z, o = some z ∧ ∀ p vs xs, z = .lst xs → H p = none → Reps G F.B (OO F env σ) H vs xs → Q (.ref p) (upd H p (.lst vs)) := by
  unfold ofO at h
  cases o with
  | none => exact False.elim h
  | some z =>
    refine ⟨z, rfl, fun p vs xs e hp r => ?_⟩
    refine h p vs xs _ e (.of hp) upd_same (bar_S S hp nt_lst) (fun a o q n t => by rw [upd_ne (fun e => by subst e; rw [hp] at q; cases q)]; exact q) ?_
    refine reps_on (fun a h => h) r (Kp.of_ex (Evl.Ex.new hp)) fun a h => ?_
    rcases h with (h | h) | h
    · exact .inl (.inl h)
    · subst h; exact .inr (.of hp)
    · exact .inl (.inr h)
theorem pf_lst {es : List Expr} {ds : E} {pos : Pos} (h : PA X es (tDA G F W ds)) : PE X (.List es pos) (tDF G F W (dLst ds)) :=
  PE.imp (pe_lst h) fun σ H Q ⟨env, cup, S, q⟩ => ⟨env, cup, S, post_bindF q fun x cup1 vs H1 S1 e1 p1 q1 => by
    obtain ⟨z, hz, kk⟩ := post_ofF q1 S1
    obtain ⟨xs, rfl, rs⟩ := p1
    obtain ⟨_, e, rfl, hl⟩ := mkL_some hz
    cases e
    exact ⟨by rw [rs.length]; exact le_line hl, fun p hp => kk p vs _ rfl hp rs⟩⟩

abbrev rOpF (G : GC) (B : Option Addr) (f : PV → PV → Option PV) : PV → PV → V → V → Hp → VK → Prop := fun _ _ x y H Q => ∃ O px py z, RB G B O H x px ∧ RB G B O H y py ∧ f px py = some z ∧ Trk O H ∧ ∀ p vs xs, z = .lst xs → H p = none → Reps G B O H vs xs → Q (.ref p) (upd H p (.lst vs))
def oMulL : PV → PV → Option PV
  | .lst xs, .int j => oMul (.lst xs) (.int j)
  | _, _ => none
theorem opf_mul {B : Option Addr} : OpR X (binaryOp .Mult) (fun x y H Q => rOpF (gOf X) B oMulL .non .non x y H Q) := by
  intro pins s σ H x y v u Q I rx ry ⟨O, px, py, z, h1, h2, hf, t, k⟩
  cases px with
  | lst xs =>
    cases py with
    | int j =>
      simp only [oMulL, oMul] at hf
      cases e : small63 j with
      | false => rw [e] at hf; cases hf
      | true =>
        rw [e] at hf
        obtain ⟨rfl, hl⟩ := okLen_some hf
        obtain ⟨a, vs, rfl, ha, ra⟩ := h1.lst_of
        cases h2.int_of
        have q := small63_ok e
        exact op_rep pins s σ H _ _ v u Q I rx ry ⟨a, j, vs, rfl, rfl, ha, q.1, q.2, by rw [ra.length]; exact le_line hl, fun p hp => k p _ _ rfl hp (ra.rep _)⟩
    | _ => cases hf
  | _ => cases py <;> cases hf
theorem pf_bin {f : PV → PV → Option PV} {e : Expr} {da db : E} (k : PE X e (tOp (fun x y H Q => rOpF (gOf X) F.B f .non .non x y H Q) (tDB (gOf X) F W da) (tDB (gOf X) F W db))) : PE X e (tDF (gOf X) F W (dBin f da db)) :=
  PE.imp k fun σ H Q ⟨env, cup, S, q⟩ => ⟨env, cup, S, post_bindF q fun x cup1 v H1 S1 e1 p1 q1 => ⟨env, cup1, S1, post_bindF q1 fun y cup2 w H2 S2 e2 p2 q2 => by
    obtain ⟨z, hz, kk⟩ := post_ofF q2 S2
    exact ⟨OO F env σ, x, y, z, RB.keep S1 p1 e2, p2, hz, fun a h => S2.oo_trk h, fun p vs xs e hp r => kk p vs xs e hp r⟩⟩⟩
theorem pf_list {e : Expr} {ds : E} {p pos : Pos} (hg : Gl X "list") (hm : X.mg "list" = none) (ha : PA X [e] (tDAB (gOf X) F W ds)) (hs : isStar e = false) : PE X (.Call (.Name "list" p) [e] [] pos) (tDF (gOf X) F W (dBi bLst ds)) := by
  have hc : CallR X (.type "list") (fun vs H Q => ∃ O xs z, RBs (gOf X) F.B O H vs xs ∧ bLst xs = some z ∧ Trk O H ∧ ∀ p us ys, z = .lst ys → H p = none → Reps (gOf X) F.B O H us ys → Q (.ref p) (upd H p (.lst us))) := by
    intro pins s σ H vs us Q I r ⟨O, xs, z, rs, hf, t, k⟩
    unfold bLst at hf
    split at hf
    · cases hf
      obtain ⟨v, rfl, h⟩ := rs.one
      obtain ⟨a, ws, rfl, h1, h2⟩ := h.lst_of
      exact call_list_of pins s σ H _ us Q I r ⟨a, ws, rfl, .inl (SqL.of h1), fun p hp => k p _ _ rfl hp h2⟩
    · cases hf
      obtain ⟨v, rfl, h⟩ := rs.one
      obtain ⟨a, ws, rfl, h1, h2⟩ := h.tup_of
      exact call_list_of pins s σ H _ us Q I r ⟨a, ws, rfl, .inr h1, fun p hp => k p _ _ rfl hp h2⟩
    · cases hf
  refine PE.imp (pe_callTy hc hg hm (by rfl) ha (by decide) (by decide) (star_cons hs) (by rfl)) fun σ H Q ⟨env, cup, S, q⟩ => ⟨env, cup, S, post_bindF q fun x cup1 vs H1 S1 e1 p1 q1 => ?_⟩
  obtain ⟨z, hz, kk⟩ := post_ofF q1 S1
  obtain ⟨xs, rfl, rs⟩ := p1
  exact ⟨OO F env σ, xs, z, rs, hz, fun a h => S1.oo_trk h, kk⟩
theorem pf_comp {elt tg iter : Expr} {ifs : List Expr} {scope : Scope} {own : List (Str × Nat)} {pos : Pos} {wi d el : E} {t : Tg} (hc : X.calm = true) (hN : X.N.Nodup) (ok : BlkOk X.N X.env.scope scope own)
    (hi : PI X tg iter (tDI false (gOf X) F W wi)) (hg : Blks X scope fun Y => ∀ F', F'.tl = F.tl → PG Y tg (tG (gOf X) F' (own.map (·.2)) t)) (ht : Blks X scope fun Y => ∀ F', F'.tl = F.tl → PTs Y ifs (tDT (gOf X) F' W0 d)) (he : Blks X scope fun Y => ∀ F', F'.tl = F.tl → PE Y elt (tD (gOf X) F' W0 el)) (hs : ∀ x, foldedSetIterable iter X.env x = pure x) :
    PE X (.ListComp elt [⟨tg, iter, ifs, 0⟩] scope pos) (tDF (gOf X) F W (dComp (own.map (·.2)) wi t d el)) :=
  PE.imp (pe_lc hc hN hi ok (fun s H C cl fp => PG.any (hg s H C cl fp)) (fun s H C cl fp => PTs.any (ht s H C cl fp)) (fun s H C cl fp => PE.any (he s H C cl fp)) hs) fun σ H Q h => lc_semF h
end RX
set_option maxHeartbeats 1000000
/-! zip whose tuples are kept. -/
namespace ZK
open PySem PySem.Spec PyProof.Rows
/-- a zip that has handed out the tuple at T -/
def ZipK (h : Heap) (z TI TO T : Addr) : Prop := ∃ b : Bool, h.get? z = some { cls := .type "zip", dict := none, data := .fields #[rawInt T, .bool b, .bool false, .ref TI, .ref TO], slots := #[] }
section
variable {prog : Program} {w : World} {A : Around} {E : Value → Shared → Prop} {s : Shared}
theorem not_free {z TI TO T : Addr} {oT : Obj} {Q : Bool → Shared → Prop} (hz : ZipK s.heap z TI TO T) (hT : s.heap.get? T = some oT)
    (h : ∀ h', ZipK h' z TI TO T → Heap.SameBut z s.heap h' → Q false { s with heap := h' }) : wpAny (model prog w) A (Builtin.SmallTypes.ownedTupleIsFree (.ref z)) Q E s := by
  obtain ⟨b, hz⟩ := hz
  unfold Builtin.SmallTypes.ownedTupleIsFree
  refine wpAny_bind (wpAny_field hz rfl (x := rawInt T) rfl ?_)
  show wpAny _ _ (loadIfAlive ((T : Int).toNat) >>= _) _ _ _
  refine wpAny_bind (PySem.W.kdx_alive (o := oT) (by simpa using hT) ?_)
  simp only [Option.isNone_some, Bool.false_eq_true, if_false]
  refine wpAny_bind (wpAny_field hz rfl (x := .bool b) rfl ?_)
  cases b with
  | true =>
    simp only [bne_self_eq_false, Bool.false_eq_true, if_false]
    exact wpAny_pure (h _ ⟨true, hz⟩ (Heap.SameBut.refl _ _))
  | false =>
    have : (Value.bool false != Value.bool true) = true := by decide +kernel
    simp only [this, if_true]
    refine wpAny_bind (wpAny_setField_rec hz (by simp) fun h₁ hz₁ hs₁ => ?_)
    exact wpAny_pure (h _ ⟨true, hz₁⟩ hs₁)
theorem next_item {z TI TO T i1 i2 l1 l2 : Addr} {oT : Obj} {k1 k2 : Nat} {xs ys : Array Value} {x y : Value} {Q : Value → Shared → Prop} (D : ZipApart z TI TO i1 i2 l1 l2)
    (hz : ZipK s.heap z TI TO T) (hT : s.heap.get? T = some oT) (hTI : IsPair s.heap TI (.ref i1) (.ref i2))
    (h1 : s.heap.IsListIter i1 l1 k1) (h2 : s.heap.IsListIter i2 l2 k2) (hl1 : s.heap.IsList l1 xs) (hl2 : s.heap.IsList l2 ys) (hx : xs[k1]? = some x) (hy : ys[k2]? = some y)
    (hQ : ∀ h', ZipK h' z TI TO T → h'.IsListIter i1 l1 (k1 + 1) → h'.IsListIter i2 l2 (k2 + 1) → IsPair h' s.heap.objs.size x y → h'.objs.size = s.heap.objs.size + 1 →
      (∀ c o, c ≠ z → c ≠ i1 → c ≠ i2 → s.heap.get? c = some o → h'.get? c = some o) → Q (.ref s.heap.objs.size) { s with heap := h' }) :
    wpAny (model prog w) A (Builtin.«zip.__next__» ⟨[.ref z], []⟩) (fun fin s' => ∃ v, fin = .done (.ret v) ∧ Q v s') E s := by
  obtain ⟨b, hz0⟩ := id hz
  show wpAny _ _ (field (.ref z) 2 >>= _) _ _ _
  refine wpAny_bind (wpAny_field hz0 rfl (x := .bool false) rfl ?_)
  show wpAny _ _ (field (.ref z) 3 >>= _) _ _ _
  refine wpAny_bind (wpAny_field hz0 rfl (x := .ref TI) rfl ?_)
  refine wpAny_bind (wpAny_seqItems hTI rfl ?_)
  show wpAny _ _ (Builtin.SmallTypes.ownedTupleIsFree (.ref z) >>= _) _ _ _
  refine wpAny_bind (not_free hz hT fun h₁ hz₁ hs₁ => ?_)
  simp only [Bool.false_eq_true, if_false]
  refine wpAny_bind ?_
  rw [← Array.forIn_toList]
  simp only [List.forIn_cons, List.forIn_nil]
  refine wpAny_bind (wpAny_bind (wpAny_holding ?_))
  show wpAny _ _ (Builtin.SmallTypes.nextOf (.ref i1) >>= _) _ _ _
  refine wpAny_bind (wpAny_nextOf_list_item (h1.extBut hs₁.extBut D.i1z) (hl1.extBut hs₁.extBut D.l1z) hx fun h₂ h1₂ hs₂ => wpAny_pure ?_)
  refine wpAny_pure ?_
  refine wpAny_bind (wpAny_bind (wpAny_holding ?_))
  show wpAny _ _ (Builtin.SmallTypes.nextOf (.ref i2) >>= _) _ _ _
  refine wpAny_bind (wpAny_nextOf_list_item ((h2.extBut hs₁.extBut D.i2z).extBut hs₂.extBut D.i12.symm)
    ((hl2.extBut hs₁.extBut D.l2z).extBut hs₂.extBut D.l2i1) hy fun h₄ h2₄ hs₄ => wpAny_pure ?_)
  refine wpAny_pure ?_
  refine wpAny_pure ?_
  have hsz : h₄.objs.size = s.heap.objs.size := by rw [hs₄.1, hs₂.1, hs₁.1]
  refine wpAny_bind (wpAny_newTuple ?_ (by show 2 ≤ sizeLine; decide))
  refine wpAny_pure ⟨_, rfl, ?_⟩
  show Q (.ref h₄.objs.size) _
  rw [hsz]
  obtain ⟨b', hz₁⟩ := hz₁
  have hz₄ := hs₄.extBut _ _ D.i2z.symm (hs₂.extBut _ _ D.i1z.symm hz₁)
  have up : ∀ c o, h₄.get? c = some o → (h₄.push { cls := .type "tuple", data := .seq #[x, y] }).get? c = some o := fun c o e => Heap.get?_push_of_some _ e
  refine hQ _ ⟨b', up _ _ hz₄⟩ ((h1₂.extBut hs₄.extBut D.i12).at fun o e => up _ o e) (h2₄.at fun o e => up _ o e) (by rw [← hsz]; exact Heap.get?_push_size _ rfl) (by rw [Heap.size_push, hsz]) fun c o c1 c2 c3 e =>
    up _ _ (hs₄.extBut _ _ c3 (hs₂.extBut _ _ c2 (hs₁.extBut _ _ c1 e)))
theorem next_end {z TI TO T i1 i2 l1 l2 : Addr} {oT : Obj} {k1 k2 : Nat} {xs ys : Array Value} {Q : Fin → Shared → Prop} (hh : A.handled = none) (D : ZipApart z TI TO i1 i2 l1 l2)
    (hz : ZipK s.heap z TI TO T) (hT : s.heap.get? T = some oT) (hTI : IsPair s.heap TI (.ref i1) (.ref i2))
    (h1 : s.heap.IsListIter i1 l1 k1) (h2 : s.heap.IsListIter i2 l2 k2) (hl1 : s.heap.IsList l1 xs) (hl2 : s.heap.IsList l2 ys) (hend : xs[k1]? = none ∨ ys[k2]? = none)
    (hE : ∀ h' e, (∀ c o, c ≠ z → c ≠ i1 → c ≠ i2 → s.heap.get? c = some o → h'.get? c = some o) → (∃ o, h'.get? e = some o ∧ o.cls = .type "StopIteration") → E (.ref e) { s with heap := h' }) :
    wpAny (model prog w) A (Builtin.«zip.__next__» ⟨[.ref z], []⟩) Q E s := by
  obtain ⟨b, hz0⟩ := id hz
  show wpAny _ _ (field (.ref z) 2 >>= _) _ _ _
  refine wpAny_bind (wpAny_field hz0 rfl (x := .bool false) rfl ?_)
  show wpAny _ _ (field (.ref z) 3 >>= _) _ _ _
  refine wpAny_bind (wpAny_field hz0 rfl (x := .ref TI) rfl ?_)
  refine wpAny_bind (wpAny_seqItems hTI rfl ?_)
  show wpAny _ _ (Builtin.SmallTypes.ownedTupleIsFree (.ref z) >>= _) _ _ _
  refine wpAny_bind (not_free hz hT fun h₁ hz₁ hs₁ => ?_)
  simp only [Bool.false_eq_true, if_false]
  refine wpAny_bind ?_
  rw [← Array.forIn_toList]
  simp only [List.forIn_cons, List.forIn_nil]
  refine wpAny_bind (wpAny_bind (wpAny_holding ?_))
  show wpAny _ _ (Builtin.SmallTypes.nextOf (.ref i1) >>= _) _ _ _
  cases hx : xs[k1]? with
  | none =>
    refine wpAny_bind (wpAny_nextOf_list_end hh (h1.extBut hs₁.extBut D.i1z) (hl1.extBut hs₁.extBut D.l1z) hx fun h₂ e hs₂ he => ?_)
    exact hE h₂ e (fun c o c1 c3 _ x => hs₂ _ _ c3 (hs₁.extBut _ _ c1 x)) he
  | some x =>
    have hy : ys[k2]? = none := by rcases hend with h | h; rw [hx] at h; cases h; exact h
    refine wpAny_bind (wpAny_nextOf_list_item (h1.extBut hs₁.extBut D.i1z) (hl1.extBut hs₁.extBut D.l1z) hx fun h₂ h1₂ hs₂ => wpAny_pure ?_)
    refine wpAny_pure ?_
    refine wpAny_bind (wpAny_bind (wpAny_holding ?_))
    show wpAny _ _ (Builtin.SmallTypes.nextOf (.ref i2) >>= _) _ _ _
    refine wpAny_bind (wpAny_nextOf_list_end hh ((h2.extBut hs₁.extBut D.i2z).extBut hs₂.extBut D.i12.symm) ((hl2.extBut hs₁.extBut D.l2z).extBut hs₂.extBut D.l2i1) hy fun h₄ e hs₄ he => ?_)
    exact hE h₄ e (fun c o c1 c3 c4 x => hs₄ _ _ c4 (hs₂.extBut _ _ c3 (hs₁.extBut _ _ c1 x))) he
theorem py_item {z TI TO T i1 i2 l1 l2 : Addr} {oT : Obj} {k1 k2 : Nat} {xs ys : Array Value} {x y : Value} {Q : Option Value → Shared → Prop} (D : ZipApart z TI TO i1 i2 l1 l2)
    (hz : ZipK s.heap z TI TO T) (hT : s.heap.get? T = some oT) (hTI : IsPair s.heap TI (.ref i1) (.ref i2))
    (h1 : s.heap.IsListIter i1 l1 k1) (h2 : s.heap.IsListIter i2 l2 k2) (hl1 : s.heap.IsList l1 xs) (hl2 : s.heap.IsList l2 ys) (hx : xs[k1]? = some x) (hy : ys[k2]? = some y)
    (hQ : ∀ h', ZipK h' z TI TO T → h'.IsListIter i1 l1 (k1 + 1) → h'.IsListIter i2 l2 (k2 + 1) → IsPair h' s.heap.objs.size x y → h'.objs.size = s.heap.objs.size + 1 →
      (∀ c o, c ≠ z → c ≠ i1 → c ≠ i2 → s.heap.get? c = some o → h'.get? c = some o) → Q (some (.ref s.heap.objs.size)) { s with heap := h' }) :
    wpAny (model prog w) A (pyNext (.ref z)) Q E s := by
  have ht : s.TypeIs (.ref z) "zip" := by obtain ⟨_, e⟩ := hz; exact ⟨_, e, rfl⟩
  unfold pyNext
  exact wpAny_bind (wpAny_attempt (wpAny_callSpecial?_slot (name := Str.ofString "__next__") ht F.slot_zip_next
    (wpAny_call_entry F.slot_zip_next ht F.entry_zip_next (next_item D hz hT hTI h1 h2 hl1 hl2 hx hy fun h' a1 a3 a4 a5 a6 a7 => wpAny_pure (hQ h' a1 a3 a4 a5 a6 a7)) (F.args_zip_next_1 _))))
theorem py_end {z TI TO T i1 i2 l1 l2 : Addr} {oT : Obj} {k1 k2 : Nat} {xs ys : Array Value} {Q : Option Value → Shared → Prop} (hh : A.handled = none) (D : ZipApart z TI TO i1 i2 l1 l2)
    (hz : ZipK s.heap z TI TO T) (hT : s.heap.get? T = some oT) (hTI : IsPair s.heap TI (.ref i1) (.ref i2))
    (h1 : s.heap.IsListIter i1 l1 k1) (h2 : s.heap.IsListIter i2 l2 k2) (hl1 : s.heap.IsList l1 xs) (hl2 : s.heap.IsList l2 ys) (hend : xs[k1]? = none ∨ ys[k2]? = none)
    (hQ : ∀ h', (∀ c o, c ≠ z → c ≠ i1 → c ≠ i2 → s.heap.get? c = some o → h'.get? c = some o) → Q none { s with heap := h' }) : wpAny (model prog w) A (pyNext (.ref z)) Q E s := by
  have ht : s.TypeIs (.ref z) "zip" := by obtain ⟨_, e⟩ := hz; exact ⟨_, e, rfl⟩
  unfold pyNext
  refine wpAny_bind (wpAny_attempt (wpAny_callSpecial?_slot (name := Str.ofString "__next__") ht F.slot_zip_next
    (wpAny_call_entry F.slot_zip_next ht F.entry_zip_next (next_end hh D hz hT hTI h1 h2 hl1 hl2 hend fun h' e hk he => ?_) (F.args_zip_next_1 _))))
  obtain ⟨o, ho, hc⟩ := he
  refine wpAny_bind (wpAny_isInstance (T := "StopIteration") (b := true) ⟨o, ho, hc⟩ isSubtype_stop ?_)
  exact wpAny_pure (hQ _ hk)
end
end ZK
set_option maxHeartbeats 1000000
namespace ZK
open PySem PySem.Spec PyProof.Rows
structure ZS (z TI TO i1 i2 l1 l2 S : Addr) (xs ys : Array Value) (h : Heap) (i : Nat) : Prop where
  zp : (IsZip h z TI TO .none ∧ ∃ a b, IsPair h TO a b) ∨ ∃ T oT, ZipK h z TI TO T ∧ h.get? T = some oT ∧ S < T
  ti : IsPair h TI (.ref i1) (.ref i2)
  h1 : h.IsListIter i1 l1 i
  h2 : h.IsListIter i2 l2 i
  l1 : h.IsList l1 xs
  l2 : h.IsList l2 ys
structure Lo (z TI TO i1 i2 l1 l2 S : Addr) : Prop where
  z : z < S
  ti : TI < S
  to : TO < S
  a : i1 < S
  b : i2 < S
  c : l1 < S
  d : l2 < S
variable {z TI TO i1 i2 l1 l2 S : Addr} {xs ys : Array Value}
theorem ZS.keep {h h' : Heap} {i : Nat} (L : Lo z TI TO i1 i2 l1 l2 S) (q : ZS z TI TO i1 i2 l1 l2 S xs ys h i) (k : ∀ b o, b ≠ S → h.get? b = some o → h'.get? b = some o) : ZS z TI TO i1 i2 l1 l2 S xs ys h' i := by
  have ne : ∀ {b : Addr}, b < S → b ≠ S := fun h => Nat.ne_of_lt h
  refine ⟨?_, k _ _ (ne L.ti) q.ti, q.h1.at fun o e => k _ o (ne L.a) e, q.h2.at fun o e => k _ o (ne L.b) e, q.l1.at fun o e => k _ o (ne L.c) e, q.l2.at fun o e => k _ o (ne L.d) e⟩
  rcases q.zp with ⟨h1, a, b, h2⟩ | ⟨T, oT, ⟨b, h1⟩, h2, h3⟩
  · exact .inl ⟨k _ _ (ne L.z) h1, a, b, k _ _ (ne L.to) h2⟩
  · exact .inr ⟨T, oT, ⟨b, k _ _ (ne L.z) h1⟩, k _ _ (Nat.ne_of_gt h3) h2, h3⟩
def AccAt (S : Addr) (xs ys : Array Value) (h : Heap) (acc : Array Value) (i : Nat) : Prop := acc.size = i ∧ (∀ (j : Nat) (v : Value), acc[j]? = some v → ∃ (T : Addr) (x y : Value), v = Value.ref T ∧ S < T ∧ IsPair h T x y ∧ xs[j]? = some x ∧ ys[j]? = some y) ∧ ∀ (j j' : Nat) (v : Value), acc[j]? = some v → acc[j']? = some v → j = j'
theorem AccAt.keep {h h' : Heap} {acc : Array Value} {i : Nat} (q : AccAt S xs ys h acc i) (k : ∀ b o, S < b → h.get? b = some o → h'.get? b = some o) : AccAt S xs ys h' acc i :=
  ⟨q.1, fun j v e => by obtain ⟨T, x, y, h1, h2, h3, h4⟩ := q.2.1 j v e; exact ⟨T, x, y, h1, h2, k _ _ h2 h3, h4⟩, q.2.2⟩
theorem AccAt.push {h : Heap} {acc : Array Value} {i : Nat} {T : Addr} {x y : Value} (q : AccAt S xs ys h acc i) (hT : S < T) (hF : ∀ (j : Nat), acc[j]? ≠ some (Value.ref T)) (hp : IsPair h T x y) (hx : xs[i]? = some x) (hy : ys[i]? = some y) : AccAt S xs ys h (acc.push (Value.ref T)) (i + 1) := by
  refine ⟨by rw [Array.size_push, q.1], fun j v hj => ?_, fun j j' v hj hj' => ?_⟩
  · rw [Array.getElem?_push] at hj
    split at hj
    · rename_i e; rw [q.1] at e; cases hj; subst e; exact ⟨T, x, y, rfl, hT, hp, hx, hy⟩
    · exact q.2.1 j v hj
  · rw [Array.getElem?_push] at hj hj'
    split at hj
    · rename_i e
      cases hj
      split at hj'
      · rename_i e'; omega
      · exact absurd hj' (hF j')
    · split at hj'
      · cases hj'; exact absurd hj (hF j)
      · exact q.2.2 j j' v hj hj'
section
variable {prog : Program} {w : World} {A : Around} {R : Result → Shared → Prop}
theorem loop (hh : A.handled = none) (D : ZipApart z TI TO i1 i2 l1 l2) (L : Lo z TI TO i1 i2 l1 l2 S) {n : Nat} (en : n = min xs.size ys.size) (hn : n ≤ sizeLine) (res : Value) :
    ∀ (k i : Nat) (s : Shared) (acc : Array Value) (c : Nat), n - i = k → i ≤ n → ZS z TI TO i1 i2 l1 l2 S xs ys s.heap i → s.heap.get? S = some { cls := .type "list", dict := none, data := .seq acc c, slots := #[] } → AccAt S xs ys s.heap acc i →
    (∀ h' acc' c', (∀ b o, b ≠ S → b ≠ z → b ≠ TO → b ≠ i1 → b ≠ i2 → s.heap.get? b = some o → h'.get? b = some o) → h'.get? S = some { cls := .type "list", dict := none, data := .seq acc' c', slots := #[] } → AccAt S xs ys h' acc' n → R (.ok (.ret res)) { s with heap := h' }) →
    codeAny (model prog w) A (.builtin "list.extend.loop" ⟨[.ref S, .ref z, res], []⟩) R s := by
  have hS : S ≠ z ∧ S ≠ TO ∧ S ≠ i1 ∧ S ≠ i2 := ⟨Nat.ne_of_gt L.z, Nat.ne_of_gt L.to, Nat.ne_of_gt L.a, Nat.ne_of_gt L.b⟩
  have up : ∀ {b : Addr}, S < b → b ≠ z ∧ b ≠ TO ∧ b ≠ i1 ∧ b ≠ i2 := fun {b} h => ⟨Nat.ne_of_gt (Nat.lt_trans L.z h), Nat.ne_of_gt (Nat.lt_trans L.to h), Nat.ne_of_gt (Nat.lt_trans L.a h), Nat.ne_of_gt (Nat.lt_trans L.b h)⟩
  intro k
  induction k with
  | zero =>
    intro i s acc c hk hi hst hS1 hacc hR
    have hin : i = n := by omega
    subst hin
    refine codeAny_builtin F.entry_extend_loop ?_
    rw [Around.under_plainId F.plain_extend_loop _]
    show wpAny _ A.in1 (pyNext (.ref z) >>= _) _ _ s
    have hend : xs[i]? = none ∨ ys[i]? = none := by
      rw [Array.getElem?_eq_none_iff, Array.getElem?_eq_none_iff]; omega
    refine wpAny_bind ?_
    rcases hst.zp with ⟨q1, a, b, q2⟩ | ⟨T, oT, q1, q2, q3⟩
    · refine wpAny_pyNext_zip_end hh D q1 hst.ti q2 hst.h1 hst.h2 hst.l1 hst.l2 hend fun h' kk => ?_
      exact wpAny_pure (hR h' acc c (fun b o _ b1 b2 b3 b4 e => kk b o b1 b2 b3 b4 e) (kk _ _ hS.1 hS.2.1 hS.2.2.1 hS.2.2.2 hS1) (hacc.keep fun b o hb e => kk _ _ (up hb).1 (up hb).2.1 (up hb).2.2.1 (up hb).2.2.2 e))
    · refine py_end hh D q1 q2 hst.ti hst.h1 hst.h2 hst.l1 hst.l2 hend fun h' kk => ?_
      exact wpAny_pure (hR h' acc c (fun b o _ b1 b2 b3 b4 e => kk b o b1 b3 b4 e) (kk _ _ hS.1 hS.2.2.1 hS.2.2.2 hS1) (hacc.keep fun b o hb e => kk _ _ (up hb).1 (up hb).2.2.1 (up hb).2.2.2 e))
  | succ k ih =>
    intro i s acc c hk hi hst hS1 hacc hR
    have hlt : i < n := by omega
    obtain ⟨x, hx⟩ : ∃ x, xs[i]? = some x := ⟨_, Array.getElem?_eq_getElem (by omega)⟩
    obtain ⟨y, hy⟩ : ∃ y, ys[i]? = some y := ⟨_, Array.getElem?_eq_getElem (by omega)⟩
    refine codeAny_builtin F.entry_extend_loop ?_
    rw [Around.under_plainId F.plain_extend_loop _]
    show wpAny _ A.in1 (pyNext (.ref z) >>= _) _ _ s
    refine wpAny_bind ?_
    have hST : S < s.heap.objs.size := Heap.lt_size hS1
    have turn : ∀ h', (∀ b o, b ≠ z → b ≠ TO → b ≠ i1 → b ≠ i2 → s.heap.get? b = some o → h'.get? b = some o) → IsPair h' s.heap.objs.size x y → ZS z TI TO i1 i2 l1 l2 S xs ys h' (i + 1) →
        wpAny (model prog w) A.in1 (updateSeq S (·.push (.ref s.heap.objs.size)) >>= fun _ => again (.builtin "list.extend.loop" ⟨[.ref S, .ref z, res], []⟩))
          (fun fin s' => match fin with | .done f => R (.ok f) s' | .again c' => c'.quiet = true ∧ codeAny (model prog w) A c' R s') (fun e s' => R (.error e) s') { s with heap := h' } := by
      intro h' kk hp hz
      have hS' := kk _ _ hS.1 hS.2.1 hS.2.2.1 hS.2.2.2 hS1
      have hacc' := (hacc.keep fun b o hb e => kk _ _ (up hb).1 (up hb).2.1 (up hb).2.2.1 (up hb).2.2.2 e).push hST (fun j e => by
        obtain ⟨T, _, _, e1, _, e2, _⟩ := hacc.2.1 j _ e
        cases e1
        exact absurd (Heap.lt_size e2) (Nat.lt_irrefl _)) hp hx hy
      have oth : ∀ b o, b ≠ S → h'.get? b = some o → (h'.update S (Obj.mapSeq (·.push (Value.ref s.heap.objs.size)))).get? b = some o := fun b o hb e => (Heap.get?_update_other _ _ (Ne.symm hb)).trans e
      refine wpAny_bind (wpAny_updateSeq hS' rfl (wpAny_pure ⟨plainId_quiet F.plain_extend_loop _, ih (i + 1) _ (acc.push (Value.ref s.heap.objs.size)) _ (by omega) hlt (hz.keep L oth) (Heap.get?_update_self _ hS' rfl) (hacc'.keep fun b o hb e => oth b o (Nat.ne_of_gt hb) e) fun h'' acc' c' k2 g1 g2 => ?_⟩)
        (by rw [hacc.1]; omega) (by show (acc.push _).size ≤ sizeLine + 1; rw [Array.size_push, hacc.1]; omega))
      exact hR h'' acc' c' (fun b o b0 b1 b2 b3 b4 e => k2 b o b0 b1 b2 b3 b4 (oth b o b0 (kk b o b1 b2 b3 b4 e))) g1 g2
    rcases hst.zp with ⟨q1, a, b, q2⟩ | ⟨T, oT, q1, q2, q3⟩
    · refine wpAny_pyNext_zip_item D q1 hst.ti q2 hst.h1 hst.h2 hst.l1 hst.l2 hx hy fun h' a1 a2 a3 a4 a5 a6 kk => ?_
      refine turn h' kk a5 ⟨.inr ⟨_, _, ⟨false, a1⟩, a5, hST⟩, kk _ _ D.TIz D.TITO D.TIi1 D.TIi2 hst.ti, a3, a4, hst.l1.at fun o e => kk _ o D.l1z D.l1TO D.l1i1 D.l1i2 e, hst.l2.at fun o e => kk _ o D.l2z D.l2TO D.l2i1 D.l2i2 e⟩
    · refine py_item D q1 q2 hst.ti hst.h1 hst.h2 hst.l1 hst.l2 hx hy fun h' a1 a3 a4 a5 a6 kk => ?_
      refine turn h' (fun b o b1 _ b3 b4 e => kk b o b1 b3 b4 e) a5 ⟨.inr ⟨T, oT, a1, kk _ _ (up q3).1 (up q3).2.2.1 (up q3).2.2.2 q2, q3⟩, kk _ _ D.TIz D.TIi1 D.TIi2 hst.ti, a3, a4, hst.l1.at fun o e => kk _ o D.l1z D.l1i1 D.l1i2 e, hst.l2.at fun o e => kk _ o D.l2z D.l2i1 D.l2i2 e⟩
end
end ZK
set_option maxHeartbeats 1000000
namespace ZK
open PySem PySem.Spec PyProof.Rows
theorem zip_nolen : typeLookup (.type "zip") "__len__" = pure none := by rw [typeLookup_type, builtinLookup_eq_fast]; kernel_rfl
theorem zip_nohint : typeLookup (.type "zip") "__length_hint__" = pure none := by rw [typeLookup_type, builtinLookup_eq_fast]; kernel_rfl
variable {z TI TO i1 i2 l1 l2 S : Addr} {xs ys : Array Value}
theorem ZS.isZip {s : Shared} {i : Nat} (q : ZS z TI TO i1 i2 l1 l2 S xs ys s.heap i) : s.TypeIs (.ref z) "zip" := by
  rcases q.zp with ⟨h1, _⟩ | ⟨_, _, ⟨_, h1⟩, _⟩ <;> exact ⟨_, h1, rfl⟩
section
variable {prog : Program} {w : World} {A : Around} {R : Result → Shared → Prop} {s : Shared} {E : Value → Shared → Prop}
theorem init_zip (hh : A.handled = none) (D : ZipApart z TI TO i1 i2 l1 l2) (L : Lo z TI TO i1 i2 l1 l2 S) (hn : min xs.size ys.size ≤ sizeLine) (hst : ZS z TI TO i1 i2 l1 l2 S xs ys s.heap 0) (hf : IsZip s.heap z TI TO .none)
    (hS : s.heap.get? S = some { cls := .type "list", data := .seq #[] })
    (hR : ∀ h' acc c, (∀ b o, b ≠ S → b ≠ z → b ≠ TO → b ≠ i1 → b ≠ i2 → s.heap.get? b = some o → h'.get? b = some o) → h'.get? S = some { cls := .type "list", dict := none, data := .seq acc c, slots := #[] } → AccAt S xs ys h' acc (min xs.size ys.size) → R (.ok (.ret .none)) { s with heap := h' }) :
    wpAny (model prog w) A.in1 (Builtin.«list.__init__» ⟨[.ref S, .ref z], []⟩)
      (fun fin s' => match fin with | .done f => R (.ok f) s' | .again c' => c'.quiet = true ∧ codeAny (model prog w) A c' R s') (fun e s' => R (.error e) s') s := by
  have hSz : S ≠ z := Nat.ne_of_gt L.z
  show wpAny _ A.in1 (do let old ← Builtin.List.listItems (.ref S); Builtin.List.listUpdate (.ref S) (fun _ => #[]); letGo old.toList.reverse; Builtin.List.listExtendWith (.ref S) (.ref z) .none) _ _ s
  refine wpAny_bind ?_
  unfold Builtin.List.listItems
  refine wpAny_bind (wpAny_seqItems hS rfl (wpAny_pure ?_))
  show wpAny _ A.in1 (updateSeq S (fun _ => #[]) >>= fun _ => letGo (#[] : Array Value).toList.reverse >>= fun _ => Builtin.List.listExtendWith (.ref S) (.ref z) .none) _ _ s
  refine wpAny_bind (wpAny_updateSeq hS rfl ?_)
  have hS1 := Heap.get?_update_self (Obj.mapSeq (fun _ => (#[] : Array Value))) hS rfl
  have o1 : ∀ b o, b ≠ S → s.heap.get? b = some o → (s.heap.update S (Obj.mapSeq (fun _ => (#[] : Array Value)))).get? b = some o :=
    fun b o hb e => (Heap.get?_update_other _ _ (Ne.symm hb)).trans e
  refine wpAny_bind (wpAny_letGo ?_)
  have st1 := hst.keep L o1
  unfold Builtin.List.listExtendWith
  refine wpAny_bind (wpAny_typeOf (ZS.isZip (s := { s with heap := _ }) st1) ?_)
  have h1 : Builtin.List.listSameRef (.ref S) (.ref z) = false := by simp [Builtin.List.listSameRef, hSz]
  have h2 : (Value.type "zip" == Value.type "list") = false := by decide
  have h3 : (Value.type "zip" == Value.type "tuple") = false := by decide
  simp only [h1, h2, h3, Bool.or_false, Bool.false_eq_true, if_false]
  refine wpAny_bind (wpAny_pyIter_zip (f0 := .none) (s := { s with heap := _ }) (o1 _ _ hSz.symm hf) ?_)
  refine wpAny_bind (wpAny_holding ?_)
  unfold Builtin.List.listLengthHint
  refine wpAny_bind (wpAny_specialOf (ZS.isZip (s := { s with heap := _ }) st1) zip_nolen ?_)
  show wpAny _ A.in1 (specialOf (Value.ref z) (Str.ofString "__length_hint__") >>= _) _ _ _
  refine wpAny_bind (wpAny_specialOf (ZS.isZip (s := { s with heap := _ }) st1) zip_nohint ?_)
  refine wpAny_pure ?_
  show wpAny _ A.in1 (rule "list.extend.makes-room" >>= fun _ => Builtin.List.listTouch (.ref S) >>= fun _ =>
    again (.builtin "list.extend.loop" ⟨[.ref S, .ref z, .none], []⟩)) _ _ _
  refine wpAny_bind (wpAny_rule ?_)
  refine wpAny_bind ?_
  show wpAny _ A.in1 (updateSeq S (·.push .none) >>= fun _ => updateSeq S (·.pop)) _ _ _
  refine wpAny_bind (wpAny_updateSeq hS1 rfl ?_)
  have hS2 := Heap.get?_update_self (Obj.mapSeq (·.push Value.none)) hS1 rfl
  refine wpAny_updateSeq (hz := by seq_fits) hS2 rfl ?_
  have hS3 := Heap.get?_update_self (Obj.mapSeq (·.pop)) hS2 rfl
  have o3 : ∀ b o, b ≠ S → s.heap.get? b = some o → (((s.heap.update S (Obj.mapSeq (fun _ => (#[] : Array Value)))).update S (Obj.mapSeq (·.push Value.none))).update S (Obj.mapSeq (·.pop))).get? b = some o :=
    fun b o hb e => (Heap.get?_update_other _ _ (Ne.symm hb)).trans ((Heap.get?_update_other _ _ (Ne.symm hb)).trans (o1 b o hb e))
  refine wpAny_pure ⟨plainId_quiet F.plain_extend_loop _, loop hh D L rfl hn .none _ 0 _ #[] _ rfl (Nat.zero_le _) (hst.keep L o3) hS3 ⟨rfl, (fun j v e => by simp at e), fun j _ v e => by simp at e⟩ fun h' acc c k g1 g2 => ?_⟩
  exact hR h' acc c (fun b o b0 b1 b2 b3 b4 e => k b o b0 b1 b2 b3 b4 (o3 b o b0 e)) g1 g2
theorem call_list_zip {Q : Value → Shared → Prop} (hh : A.handled = none) (D : ZipApart z TI TO i1 i2 l1 l2) (L : Lo z TI TO i1 i2 l1 l2 s.heap.objs.size) (hn : min xs.size ys.size ≤ sizeLine) (hst : ZS z TI TO i1 i2 l1 l2 s.heap.objs.size xs ys s.heap 0) (hf : IsZip s.heap z TI TO .none)
    (hQ : ∀ h' acc c, (∀ b o, b ≠ z → b ≠ TO → b ≠ i1 → b ≠ i2 → s.heap.get? b = some o → h'.get? b = some o) → h'.get? s.heap.objs.size = some { cls := .type "list", dict := none, data := .seq acc c, slots := #[] } → AccAt s.heap.objs.size xs ys h' acc (min xs.size ys.size) → Q (.ref s.heap.objs.size) { s with heap := h' }) :
    wpAny (model prog w) A (call (.type "list") [.ref z]) Q E s := by
  refine callType_codes (Q₁ := fun obj s₁ => obj = .ref s.heap.objs.size ∧ s₁ = { s with heap := s.heap.push { cls := .type "list", data := .seq #[] } }) F.called_list (F.typeCall_list_1 _) F.entry_list_init
    (code_list_new _ ⟨rfl, rfl⟩) fun obj s₁ h₁ => ?_
  obtain ⟨rfl, rfl⟩ := h₁
  have hS : (s.heap.push { cls := .type "list", data := .seq #[] }).get? s.heap.objs.size = some { cls := .type "list", data := .seq #[] } := Heap.get?_push_size _ rfl
  have up : ∀ b o, s.heap.get? b = some o → (s.heap.push { cls := .type "list", data := .seq #[] }).get? b = some o := fun b o e => Heap.get?_push_of_some _ e
  refine ⟨⟨_, hS, rfl⟩, F.args_list_init_2 _ _, init_zip (s := { s with heap := _ }) hh D L hn (hst.keep L fun b o _ e => up b o e) (up _ _ hf) hS fun h' acc c k g1 g2 => ?_⟩
  exact ⟨rfl, hQ h' acc c (fun b o b1 b2 b3 b4 e => k b o (Nat.ne_of_lt (Heap.lt_size e)) b1 b2 b3 b4 (up b o e)) g1 g2⟩
end
end ZK
set_option maxHeartbeats 1000000
namespace ZK
open PySem L2
/-- many objects laid at once -/
theorem many {X : Cx} {pins : List (Addr × Obj)} {σ : L2.St} {H H' : Hp} {s : Shared} {h' : Heap} (I : Inv X pins σ H s) (k : ∀ b u, s.heap.get? b = some u → h'.get? b = some u) (hx : ∀ a o, H a = some o → H' a = some o) (hl : ∀ a, a < s.heap.objs.size → H a = none → H' a = none)
    (hok : HOk X.prog X.w H' h') : Inv X pins σ H' { s with heap := h' } :=
  I.un (t' := s.toks) { keep := fun b u q _ _ _ => k b u q
                        slot := fun b u q _ _ _ => ⟨u.slots, k b u q⟩
                        free := fun b u q n _ => hl b (Heap.lt_size q) n
                        there := fun b u q _ => ⟨u, k b u q⟩
                        tups := fun b xs q => hx _ _ q
                        frzs := fun b u xs q => hx _ _ q
                        tbls := fun b ps q => ⟨#[], by rw [hx _ _ q]; simp⟩ } hok
end ZK
set_option maxHeartbeats 1000000
namespace ZK
open PySem L2
/-- the pairs' addresses with what they hold -/
def pairsH : List (Addr × V × V) → Hp → Hp
  | [], H => H
  | (T, x, y) :: r, H => upd (pairsH r H) T (.tup [x, y])
theorem pairsH_old {a : Addr} {H : Hp} : ∀ {ps : List (Addr × V × V)}, (∀ p ∈ ps, p.1 ≠ a) → pairsH ps H a = H a
  | [], _ => rfl
  | (T, x, y) :: r, h => by
    unfold pairsH
    rw [upd_ne (fun e => h _ (.head _) e.symm), pairsH_old fun p m => h p (.tail _ m)]
theorem pairsH_new {H : Hp} : ∀ {ps : List (Addr × V × V)} {p : Addr × V × V}, (ps.map (·.1)).Nodup → p ∈ ps → pairsH ps H p.1 = some (.tup [p.2.1, p.2.2])
  | (T, x, y) :: r, p, nd, m => by
    have nd := List.nodup_cons.mp nd
    unfold pairsH
    cases m with
    | head => exact upd_same
    | tail _ m =>
      rw [upd_ne (fun e => nd.1 (by rw [← e]; exact List.mem_map.mpr ⟨p, m, rfl⟩)), pairsH_new nd.2 m]
end ZK
set_option maxHeartbeats 1000000
namespace ZK
open PySem PySem.Spec PyProof.Rows L2
theorem pairsH_inv {H : Hp} {a : Addr} {o : HO} : ∀ {ps : List (Addr × V × V)}, pairsH ps H a = some o → H a = some o ∨ ∃ p ∈ ps, p.1 = a ∧ o = .tup [p.2.1, p.2.2]
  | [], h => .inl h
  | (T, x, y) :: r, h => by
    unfold pairsH at h
    by_cases e : a = T
    · subst e
      rw [upd_same] at h
      cases h
      exact .inr ⟨_, .head _, rfl, rfl⟩
    · rw [upd_ne e] at h
      rcases pairsH_inv h with q | ⟨p, m, q⟩
      · exact .inl q
      · exact .inr ⟨p, .tail _ m, q⟩
theorem pairsH_keep {H : Hp} {a : Addr} {o : HO} (h : H a = some o) {ps : List (Addr × V × V)} (n : ∀ p ∈ ps, H p.1 = none) : pairsH ps H a = some o := by
  rw [pairsH_old fun p m e => by have := n p m; rw [e, h] at this; cases this]
  exact h
def adr : Value → Addr
  | .ref T => T
  | _ => 0
theorem vals_refs : ∀ {us : List Value}, (∀ v ∈ us, ∃ T, v = Value.ref T) → Vals ((us.map adr).map V.ref) us
  | [], _ => .nil
  | v :: r, h => .cons (by obtain ⟨T, rfl⟩ := h v (.head _); rfl) (vals_refs fun v m => h v (.tail _ m))
theorem zip_inv {X : Cx} {pins : List (Addr × Obj)} {σ : L2.St} {H : Hp} {s : Shared} {h' : Heap} {S : Addr} {vs ws : List V} {us us' : List Value} {acc : Array Value} {c : Nat} (I : Inv X pins σ H s) (hS0 : s.heap.objs.size ≤ S)
    (k : ∀ b u, s.heap.get? b = some u → h'.get? b = some u) (r1 : Vals vs us) (r2 : Vals ws us') (hA : AccAt S us.toArray us'.toArray h' acc (min us.toArray.size us'.toArray.size)) (hS : h'.get? S = some { cls := .type "list", dict := none, data := .seq acc c, slots := #[] }) (hz : min us.toArray.size us'.toArray.size ≤ sizeLine) :
    ∃ ps : List (Addr × V × V), ps.map (·.2) = vs.zip ws ∧ (ps.map (·.1)).Nodup ∧ (∀ p ∈ ps, p.1 ≠ S ∧ H p.1 = none) ∧ H S = none ∧ Inv X pins σ (upd (pairsH ps H) S (.lst (ps.map fun p => V.ref p.1))) { s with heap := h' } := by
  have l1 := r1.length
  have l2 := r2.length
  have hn : acc.toList.length = (vs.zip ws).length := by
    have := hA.1
    simp only [List.size_toArray] at this
    rw [Array.length_toList, this, List.length_zip, l1, l2]
  have hlen : ((acc.toList).map adr).length = (vs.zip ws).length := by rw [List.length_map, hn]
  have isR : ∀ v ∈ acc.toList, ∃ T, v = Value.ref T := fun v m => by
    obtain ⟨j, hj⟩ := List.mem_iff_getElem?.mp m
    obtain ⟨T, _, _, e, _⟩ := hA.2.1 j v (by simpa using hj)
    exact ⟨T, e⟩
  refine ⟨((acc.toList).map adr).zip (vs.zip ws), List.map_snd_zip (by omega), ?_, ?_, I.hok.fresh hS0, ?_⟩
  · rw [List.map_fst_zip (by omega)]
    refine List.pairwise_iff_getElem.mpr fun i j hi hj hij e => ?_
    rw [List.getElem_map, List.getElem_map] at e
    rw [List.length_map] at hi hj
    obtain ⟨T, hT⟩ := isR _ (List.getElem_mem hi)
    obtain ⟨T', hT'⟩ := isR _ (List.getElem_mem hj)
    rw [hT, hT'] at e
    have e : T = T' := e
    subst e
    have q1 : acc[i]? = some (Value.ref T) := by rw [← Array.getElem?_toList, List.getElem?_eq_getElem hi, hT]
    have q2 : acc[j]? = some (Value.ref T) := by rw [← Array.getElem?_toList, List.getElem?_eq_getElem hj, hT']
    exact absurd (hA.2.2 i j _ q1 q2) (Nat.ne_of_lt hij)
  · intro p hp
    obtain ⟨m, _⟩ := List.of_mem_zip hp
    obtain ⟨v, hv, e⟩ := List.mem_map.mp m
    obtain ⟨j, hj⟩ := List.mem_iff_getElem?.mp hv
    obtain ⟨T, _, _, e2, hT, _⟩ := hA.2.1 j v (by simpa using hj)
    subst e2
    rw [← e]
    exact ⟨Nat.ne_of_gt hT, I.hok.fresh (Nat.le_trans hS0 (Nat.le_of_lt hT))⟩
  · have nn : ∀ p ∈ ((acc.toList).map adr).zip (vs.zip ws), p.1 ≠ S ∧ H p.1 = none := by
      intro p hp
      obtain ⟨m, _⟩ := List.of_mem_zip hp
      obtain ⟨v, hv, e⟩ := List.mem_map.mp m
      obtain ⟨j, hj⟩ := List.mem_iff_getElem?.mp hv
      obtain ⟨T, _, _, e2, hT, _⟩ := hA.2.1 j v (by simpa using hj)
      subst e2
      rw [← e]
      exact ⟨Nat.ne_of_gt hT, I.hok.fresh (Nat.le_trans hS0 (Nat.le_of_lt hT))⟩
    have hSn : H S = none := I.hok.fresh hS0
    have hx : ∀ a o, H a = some o → upd (pairsH (((acc.toList).map adr).zip (vs.zip ws)) H) S (.lst ((((acc.toList).map adr).zip (vs.zip ws)).map fun p => V.ref p.1)) a = some o := fun a o e => by
      rw [upd_ne (ne_of_none e hSn)]
      exact pairsH_keep e fun p m => (nn p m).2
    refine many I k hx (fun a ha e => ?_) fun a o e => ?_
    · rw [upd_ne (Nat.ne_of_lt (Nat.lt_of_lt_of_le ha hS0)), pairsH_old fun p m q => ?_]
      · exact e
      · obtain ⟨m1, _⟩ := List.of_mem_zip m
        obtain ⟨v, hv, e⟩ := List.mem_map.mp m1
        obtain ⟨j, hj⟩ := List.mem_iff_getElem?.mp hv
        obtain ⟨T, _, _, e2, hT, _⟩ := hA.2.1 j v (by simpa using hj)
        subst e2
        have e : T = p.1 := e
        exact absurd (Nat.lt_of_lt_of_le ha (Nat.le_trans hS0 (Nat.le_of_lt hT))) (by rw [e, q]; exact Nat.lt_irrefl _)
    · by_cases hb : a = S
      · subst hb
        rw [upd_same] at e
        cases e
        refine ⟨?_, acc.toList, c, ?_, by rw [hS]⟩
        · rw [List.length_map, List.length_zip, hlen, Nat.min_self, ← hn, Array.length_toList, hA.1]
          exact hz
        · have : ((((acc.toList).map adr).zip (vs.zip ws)).map fun p => V.ref p.1) = ((acc.toList).map adr).map V.ref := by
            rw [show (fun p : Addr × V × V => V.ref p.1) = V.ref ∘ Prod.fst from rfl, ← List.map_map, List.map_fst_zip (by omega)]
          rw [this]
          exact vals_refs isR
      · rw [upd_ne hb] at e
        rcases pairsH_inv e with q | ⟨p, m, rfl, rfl⟩
        · exact (I.hok a o q).stay (fun b u _ z => k b u z) (fun b z => hx _ _ z) fun b xs z => hx _ _ z
        · obtain ⟨i, hi⟩ := List.mem_iff_getElem?.mp m
          rw [List.getElem?_zip_eq_some] at hi
          obtain ⟨h1, h2⟩ := hi
          rw [List.getElem?_map] at h1
          obtain ⟨v, hv, e1⟩ := Option.map_eq_some_iff.mp h1
          obtain ⟨T, x, y, e2, hT, hp, hx1, hy1⟩ := hA.2.1 i v (by simpa using hv)
          subst e2
          rw [List.getElem?_zip_eq_some] at h2
          obtain ⟨u1, z1, g1⟩ := r1.get h2.1
          obtain ⟨u2, z2, g2⟩ := r2.get h2.2
          have x1 : us[i]? = some x := by simpa using hx1
          have y1 : us'[i]? = some y := by simpa using hy1
          rw [z1] at x1; cases x1
          rw [z2] at y1; cases y1
          have e1 : T = p.1 := e1
          rw [← e1]
          exact ⟨by show 2 ≤ sizeLine; decide, [x, y], .cons g1 (.cons g2 .nil), _, hp, rfl, _, rfl⟩
end ZK
set_option maxHeartbeats 1000000
namespace ZK
open PySem PySem.Spec PyProof.Rows L2
/-- list(zip(a, b)) of two lists: new pairs in a new list -/
def tLZip (K : PySem.W.Frag) (ta : TA) : TE := fun σ H Q => ta σ H fun vs H1 => ∃ a b xs ys, vs = [.ref a, .ref b] ∧ SqL K H1 a xs ∧ SqL K H1 b ys ∧ min xs.length ys.length ≤ sizeLine ∧
  ∀ S ps, ps.map (·.2) = xs.zip ys → (ps.map (·.1)).Nodup → (∀ p ∈ ps, p.1 ≠ S ∧ H1 p.1 = none) → H1 S = none → Q (.ref S) (upd (pairsH ps H1) S (.lst (ps.map fun p => V.ref p.1)))
theorem pe_listZip {X : Cx} (hc : X.calm = true) {e e2 : Expr} {ta : TA} {p q pos pos2 : Pos} (hgl : Gl X "list") (hml : X.mg "list" = none) (hgz : Gl X "zip") (hmz : X.mg "zip" = none) (ha : PA X [e, e2] ta)
    (hs : starEach [e, e2] X.env = (false, eval e X.env) :: starEach [e2] X.env := by rfl) (hpl : (backTo pos2 (starEach [e2] X.env)).any (·.1) = false := by rfl) :
    PE X (.Call (.Name "list" p) [.Call (.Name "zip" q) [e, e2] [] pos2] [] pos) (tLZip X.K ta) := by
  refine ⟨fun pins s σ H Q I h => ?_⟩
  refine wpAny_Call_Name_kw (ld_blt I hgl hml boot_list (PyProof.Rows.callWith_type1 ?_ (by rfl) (by rfl)))
  refine Calls.spliced_cons ?_
  refine Call_ (ld_blt I hgz hmz boot_zip (PyProof.Rows.callWith_type1 (thn (ha.run pos2 pins s σ H _ I h) fun us s1 ⟨vs, H1, I1, r1, q1⟩ => ?_) hs hpl))
  obtain ⟨a, b, xs, ys, ex, hqx, hqy, hz, q1⟩ := q1
  subst ex
  cases r1 with
  | cons r rr =>
    cases rr with
    | cons r' rr =>
      cases rr
      cases r
      cases r'
      obtain ⟨its, rv, p1, _⟩ := I1.list hqx
      obtain ⟨its2, rv2, p2, _⟩ := I1.list hqy
      refine call_zip_2 p1.isList p2.isList fun h' hz' hTI hTO h1 h2 hsz hk => Calls.spliced_nil ?_
      have hL : Lo (s1.heap.objs.size + 4) (s1.heap.objs.size + 2) (s1.heap.objs.size + 3) s1.heap.objs.size (s1.heap.objs.size + 1) a b (s1.heap.objs.size + 5) :=
        ⟨Nat.lt_succ_self _, Nat.add_lt_add_left (by decide : 2 < 5) _, Nat.add_lt_add_left (by decide : 3 < 5) _, Nat.lt_add_of_pos_right (by decide : 0 < 5), Nat.add_lt_add_left (by decide : 1 < 5) _,
          Nat.lt_of_lt_of_le p1.lt (Nat.le_add_right _ _), Nat.lt_of_lt_of_le p2.lt (Nat.le_add_right _ _)⟩
      have hm : min its.toArray.size its2.toArray.size ≤ sizeLine := by
        rw [List.size_toArray, List.size_toArray, ← rv.length, ← rv2.length]; exact hz
      refine thn (call_list_zip (s := { s1 with heap := h' }) (I1.ok.hd hc) (PySem.W.ktu_apart s1.heap.objs.size a b p1.lt p2.lt) (by show Lo _ _ _ _ _ _ _ h'.objs.size; rw [hsz]; exact hL) hm
        ⟨.inl ⟨hz', _, _, hTO⟩, hTI, h1, h2, p1.isList.at fun o e => hk _ o e, p2.isList.at fun o e => hk _ o e⟩ hz' (Q := EP X pins σ Q) fun h'' acc c k g1 g2 => ?_) fun _ _ z => z
      have kk : ∀ b u, s1.heap.get? b = some u → h''.get? b = some u := fun b u e => by
        have hb : b < s1.heap.objs.size := Heap.lt_size e
        exact k b u (Nat.ne_of_lt (Nat.lt_of_lt_of_le hb (Nat.le_add_right _ _))) (Nat.ne_of_lt (Nat.lt_of_lt_of_le hb (Nat.le_add_right _ _))) (Nat.ne_of_lt hb) (Nat.ne_of_lt (Nat.lt_of_lt_of_le hb (Nat.le_add_right _ _))) (hk b u e)
      obtain ⟨ps, e1, e2, e3, e4, I2⟩ := zip_inv I1 (h' := h'') (S := h'.objs.size) (by rw [hsz]; exact Nat.le_add_right _ _) kk rv rv2 g2 g1 hm
      exact ⟨.ref h'.objs.size, _, I2, rfl, q1 _ ps e1 e2 e3 e4⟩
end ZK
set_option maxHeartbeats 4000000
namespace RX
open PySem L2
variable {G : GC} {B : Option Addr} {O Oe O' : Addr → Prop} {H H' H1 : Hp} {X : Cx}
variable {F F' : FC} {env env' env2 envw : En} {cup cup' c c2 : Cup} {σ σ' σ2 σw : L2.St} {W : WX} {D : Addr} {acc : List PV} {vs : List Nat}

theorem PostF.mono {Q : VK} {r : R} (h : PostF G F W env σ H Q r) (e : ExE F H H1) (nb : ∀ p, NN H1 p → NN H p) : PostF G F W env σ H1 Q r := by
  cases r with
  | ok y c2 => exact fun q vs xs H2 ex hq h1 S2 e2 r => h q vs xs H2 ex (nb q hq) h1 S2 (e.trans e2) r
  | exc k2 c2 => exact fun H2 S2 e2 => h H2 S2 (e.trans e2)
  | stuck => exact h
/-- the pairs of two lists as a list of its own -/
def bZipL : List PV → Option PV
  | [.lst xs, .lst ys] => okLen (zipL xs ys).length (.lst (zipL xs ys))
  | _ => none
theorem pairs_ex {H : Hp} : ∀ {ps : List (Addr × V × V)}, (∀ p ∈ ps, H p.1 = none) → Evl.Ex H (ZK.pairsH ps H) := fun h a o e => ZK.pairsH_keep e h
theorem pairs_reps {H2 : Hp} : ∀ {us ws : List V} {xs ys : List PV} {ps : List (Addr × V × V)}, ps.map (·.2) = us.zip ws → (∀ p ∈ ps, H2 p.1 = some (.tup [p.2.1, p.2.2]) ∧ ¬ O p.1) → Reps G B O H2 us xs → Reps G B O H2 ws ys → Reps G B O H2 (ps.map fun p => V.ref p.1) (zipL xs ys)
  | us, ws, xs, ys, ps, e, hp, r1, r2 => by
    cases r1 with
    | nil =>
      cases ps with
      | nil => exact .nil
      | cons _ _ => cases e
    | cons a r1 =>
      cases r2 with
      | nil =>
        cases ps with
        | nil => exact .nil
        | cons _ _ => cases e
      | cons b r2 =>
        cases ps with
        | nil => cases e
        | cons p ps =>
          simp only [List.zip_cons_cons, List.map_cons, List.cons.injEq] at e
          obtain ⟨h1, h2⟩ := hp p (.head _)
          rw [e.1] at h1
          exact .cons (.tup (.inl (.inl h1)) (fun z => absurd z h2) (.cons a (.cons b .nil))) (pairs_reps e.2 (fun q m => hp q (.tail _ m)) r1 r2)
theorem pf_zip {e e2 : Expr} {ds : E} {p q pos pos2 : Pos} (hc : X.calm = true) (hgl : Gl X "list") (hml : X.mg "list" = none) (hgz : Gl X "zip") (hmz : X.mg "zip" = none) (ha : PA X [e, e2] (tDAB (gOf X) F W ds)) (hs : isStar e = false) (hs2 : isStar e2 = false) :
    PE X (.Call (.Name "list" p) [.Call (.Name "zip" q) [e, e2] [] pos2] [] pos) (tDF (gOf X) F W (dBi bZipL ds)) := by
  refine PE.imp (ZK.pe_listZip hc hgl hml hgz hmz ha (star_cons hs) (star_all (by simp [hs2]) _)) fun σ H Q ⟨env, cup, S, q⟩ => ⟨env, cup, S, post_bindF q fun x cup1 vs H1 S1 e1 p1 q1 => ?_⟩
  obtain ⟨xs, rfl, rs⟩ := p1
  have q0 : PostF (gOf X) F W env σ H1 Q (ofO (bZipL xs) env cup1) := q1
  have hz : ∃ z, bZipL xs = some z := by
    unfold ofO at q0
    cases e : bZipL xs with
    | none => rw [e] at q0; exact False.elim q0
    | some z => exact ⟨z, rfl⟩
  obtain ⟨z, hz⟩ := hz
  have hz' := hz
  unfold bZipL at hz
  split at hz
  · rename_i as bs
    obtain ⟨rfl, hl⟩ := okLen_some hz
    obtain ⟨v, w, rfl, h1, h2⟩ := rs.two
    obtain ⟨a, us, rfl, ha, ra⟩ := h1.lst_of
    obtain ⟨b, ws, rfl, hb, rb⟩ := h2.lst_of
    refine ⟨a, b, us, ws, rfl, SqL.of ha, SqL.of hb, by rw [ra.length, rb.length, ← zipL_len]; exact le_line hl, fun D ps m1 m2 m3 m4 => ?_⟩
    have ex : Evl.Ex H1 (ZK.pairsH ps H1) := pairs_ex fun p m => (m3 p m).2
    have S2 := S1.ex ex
    have nb : ∀ p, NN (ZK.pairsH ps H1) p → NN H1 p := fun p hp o h t => hp o (ex _ _ h) t
    rw [hz'] at q0
    have q2 : PostF (gOf X) F W env σ (ZK.pairsH ps H1) Q (ofO (some (.lst (zipL as bs))) env cup1) := q0.mono (ExE.of_ex ex) nb
    obtain ⟨z2, hz2, kk⟩ := post_ofF q2 S2
    cases hz2
    have hD : ZK.pairsH ps H1 D = none := by rw [ZK.pairsH_old fun p m => (m3 p m).1]; exact m4
    exact kk D _ _ rfl hD (pairs_reps m1 (fun p m => ⟨ZK.pairsH_new m2 m, S1.fresh (m3 p m).2⟩) (reps_kp (Kp.of_ex ex) ra) (reps_kp (Kp.of_ex ex) rb))
  · cases hz
end RX
set_option maxHeartbeats 4000000
namespace RX
open PySem L2
variable {G : GC} {B : Option Addr} {O Oe O' : Addr → Prop} {H H' H1 H2 : Hp} {X : Cx}
variable {F F' : FC} {env env' env1 env2 envw : En} {cup cup' c c2 : Cup} {σ σ' σ1 σ2 σw : L2.St} {W : WX} {D : Addr} {acc : List PV} {vs : List Nat} {st : Stmt} {sts : List Stmt}

/-! ### outcomes of statements -/
inductive Oc where
  | nx (e : En) (c : Cup) | bk (e : En) (c : Cup) | ct (e : En) (c : Cup) | rt (v : PV) (c : Cup) | ex (k : Str) (c : Cup) | st
abbrev Sd := En → Cup → Oc
/-- what a def leaves: the box, all but the box stands -/
structure EndOk (G : GC) (F : FC) (c : Cup) (H : Hp) : Prop where
  box : BoxOk G F F.Oc H c
  trk : ∀ a, F.Oc a → ∃ o, H a = some o ∧ NT o
  ent : ExE F F.H0 H
  tab : LamX.Tabs F.tl H
theorem Ss.ends (S : Ss G F env cup σ H) : EndOk G F cup H :=
  ⟨fun a h => by obtain ⟨vs, q1, q2⟩ := S.box a h; exact ⟨vs, q1, reps_less (fun a z => .inl z) q2⟩, S.trk, S.ent, S.tab⟩
structure Step (F : FC) (env : En) (σ : L2.St) (H : Hp) (env' : En) (σ' : L2.St) (H' : Hp) : Prop where
  kp : Kp (OO F env σ) H H'
  sub : ∀ a, OO F env' σ' a → OO F env σ a ∨ NN H a
theorem Step.refl : Step F env σ H env σ H := ⟨fun _ _ h _ _ => h, fun _ h => .inl h⟩
theorem Step.trans (a : Step F env σ H env1 σ1 H1) (b : Step F env1 σ1 H1 env2 σ2 H2) : Step F env σ H env2 σ2 H2 := by
  refine ⟨fun x o h n t => b.kp x o (a.kp x o h n t) (fun z => ?_) t, fun x h => ?_⟩
  · rcases a.sub x z with q | q
    · exact n q
    · exact q _ h t
  · rcases b.sub x h with q | q
    · exact a.sub x q
    · by_cases n : OO F env σ x
      · exact .inl n
      · exact .inr fun o e t => q _ (a.kp x o e n t) t
theorem Step.ofE (S : Ss G F env cup σ H) (e : ExE F H H') : Step F env σ H env σ H' := ⟨kp_oo S e, fun _ h => .inl h⟩
theorem Step.ofSub (m : ∀ a, OO F env' σ' a → OO F env σ a) : Step F env σ H env' σ' H := ⟨fun _ _ h _ _ => h, fun a h => .inl (m a h)⟩
def PostS (G : GC) (F : FC) (W : WX) (env : En) (σ : L2.St) (H : Hp) (D : Ends) : Oc → Prop
  | .nx e c => ∀ σ' H', Ss G F e c σ' H' → Step F env σ H e σ' H' → D.nx σ' H'
  | .bk e c => ∀ σ' H', Ss G F e c σ' H' → Step F env σ H e σ' H' → D.bk σ' H'
  | .ct e c => ∀ σ' H', Ss G F e c σ' H' → Step F env σ H e σ' H' → D.ct σ' H'
  | .rt x c => ∀ v H', EndOk G F c H' → Rep G F.B F.Oc H' v x → D.rt v H'
  | .ex k c => ∀ σ' H', EndOk G F c H' → wx G W k σ' H'
  | .st => False
theorem PostS.mono {D : Ends} {r : Oc} (h : PostS G F W env σ H D r) (s : Step F env σ H env1 σ1 H1) : PostS G F W env1 σ1 H1 D r := by
  cases r with
  | nx e c => exact fun σ' H' S t => h σ' H' S (s.trans t)
  | bk e c => exact fun σ' H' S t => h σ' H' S (s.trans t)
  | ct e c => exact fun σ' H' S t => h σ' H' S (s.trans t)
  | rt x c => exact h
  | ex k c => exact h
  | st => exact h
abbrev tS (G : GC) (F : FC) (W : WX) (d : Sd) : TS := fun D σ H => ∃ env cup, Ss G F env cup σ H ∧ PostS G F W env σ H D (d env cup)
def toS (r : R) (k : PV → Cup → Oc) : Oc := match r with
  | .ok x c => k x c
  | .exc k c => .ex k c
  | .stuck => .st
/-- an expression at the head of a statement -/
theorem post_toS {α : Type} {Pa : PV → α → Hp → Prop} {Q1 : α → Hp → Prop} {D : Ends} {a : E} {k : PV → Cup → Oc} (h : PostS G F W env σ H D (toS (a env cup) k))
    (hk : ∀ x cup1 v H1, Ss G F env cup1 σ H1 → ExE F H H1 → Step F env σ H env σ H1 → Pa x v H1 → PostS G F W env σ H1 D (k x cup1) → Q1 v H1) (S : Ss G F env cup σ H) : PostA G F W Pa env σ H Q1 (a env cup) := by
  unfold toS at h
  cases e : a env cup with
  | ok x c =>
    rw [e] at h
    exact fun v H1 S1 e1 p => hk x c v H1 S1 e1 (Step.ofE S e1) p (h.mono (Step.ofE S e1))
  | exc k c => rw [e] at h; exact fun H1 S1 e1 => h σ H1 S1.ends
  | stuck => rw [e] at h; exact h
/-! ### sequence, if -/
def dSeq (a b : Sd) : Sd := fun env c => match a env c with
  | .nx e c => b e c
  | .bk e c => .bk e c
  | .ct e c => .ct e c
  | .rt v c => .rt v c
  | .ex k c => .ex k c
  | .st => .st
def dNext : Sd := fun env c => .nx env c
theorem pds_nil : PSs X [] (tS G F W dNext) := PSs.imp pss_nil fun D σ H ⟨env, cup, S, q⟩ => q σ H S Step.refl
theorem pds_cons {a b : Sd} (h1 : PS X st (tS G F W a)) (h2 : PSs X sts (tS G F W b)) : PSs X (st :: sts) (tS G F W (dSeq a b)) :=
  PSs.imp (pss_cons h1 h2) fun D σ H ⟨env, cup, S, q⟩ => ⟨env, cup, S, by
    unfold dSeq at q
    cases e : a env cup with
    | nx env1 c1 => rw [e] at q; exact fun σ1 H1 S1 s1 => ⟨env1, c1, S1, q.mono s1⟩
    | bk _ _ => rw [e] at q; exact q
    | ct _ _ => rw [e] at q; exact q
    | rt _ _ => rw [e] at q; exact q
    | ex _ _ => rw [e] at q; exact q
    | st => rw [e] at q; exact q⟩
def dStk : Sd := fun _ _ => .st
theorem pds_stk : PS X st (tS G F W dStk) := ⟨fun _ _ _ _ _ _ ⟨_, _, _, q⟩ => False.elim q⟩
theorem pss_stk : PSs X sts (tS G F W dStk) := ⟨fun _ _ _ _ _ _ ⟨_, _, _, q⟩ => False.elim q⟩
theorem pd_stk {e : Expr} : PE X e (tD G F W stk) := ⟨fun _ _ _ _ _ _ ⟨_, _, _, q⟩ => False.elim q⟩
def kIfS (a b : Sd) (env : En) : PV → Cup → Oc
  | .bl true, c => a env c
  | .bl false, c => b env c
  | _, _ => .st
def dIfS (t : E) (a b : Sd) : Sd := fun env c => toS (t env c) (kIfS a b env)
theorem pds_if {ct : Expr} {xs ys : List Stmt} {t : E} {a b : Sd} {pos : Pos} (h : PT X ct (tDT G F W t)) (ha : PSs X xs (tS G F W a)) (hb : PSs X ys (tS G F W b)) : PS X (.If ct xs ys pos) (tS G F W (dIfS t a b)) :=
  PS.imp (ps_if h ha hb) fun D σ H ⟨env, cup, S, q⟩ => ⟨env, cup, S, post_toS q (fun x c1 b1 H1 S1 e1 s1 p1 q1 => by
    subst p1
    cases b1 with
    | true => simp only [if_true]; exact ⟨env, c1, S1, q1⟩
    | false => simp only [Bool.false_eq_true, if_false]; exact ⟨env, c1, S1, q1⟩) S⟩
theorem pds_pass {pos : Pos} : PS X (.Pass pos) (tS G F W dNext) := PS.imp ps_pass fun D σ H ⟨env, cup, S, q⟩ => q σ H S Step.refl
def dBrk : Sd := fun env c => .bk env c
def dCnt : Sd := fun env c => .ct env c
theorem pds_brk {pos : Pos} : PS X (.Break pos) (tS G F W dBrk) := PS.imp ps_break fun D σ H ⟨env, cup, S, q⟩ => q σ H S Step.refl
theorem pds_cnt {pos : Pos} : PS X (.Continue pos) (tS G F W dCnt) := PS.imp ps_continue fun D σ H ⟨env, cup, S, q⟩ => q σ H S Step.refl
theorem pds_doc {x j pos pos'} : PS X (.Expr (.Constant (.str x) j pos) pos') (tS G F W dNext) := PS.imp ps_doc fun D σ H ⟨env, cup, S, q⟩ => q σ H S Step.refl
def dDrop (e : E) : Sd := fun env c => toS (e env c) fun _ c => .nx env c
theorem pds_expr {e : Expr} {d : E} {pos : Pos} (h : PE X e (tD G F W d)) (hs : swapsWith e none pos.line X.env = pure false) : PS X (.Expr e pos) (tS G F W (dDrop d)) :=
  PS.imp (ps_expr h hs) fun D σ H ⟨env, cup, S, q⟩ => ⟨env, cup, S, post_toS q (fun x c1 v H1 S1 e1 s1 p1 q1 => q1 σ H1 S1 Step.refl) S⟩
/-! ### lists of one's own become values -/
def frzS : Sl → Sl
  | .own xs => .va (.lst xs)
  | s => s
def frz (env : En) (i : Nat) : En := env.set i (frzS (getS env i))
theorem Ss.freeze (S : Ss G F env cup σ H) (i : Nat) : Ss G F (frz env i) cup σ H ∧ ∀ a, OO F (frz env i) σ a → OO F env σ a := by
  have key : ∀ (j : Nat) (s : Sl), (frz env i)[j]? = some s → (env[j]? = some s) ∨ (j = i ∧ ∃ xs, env[i]? = some (.own xs) ∧ s = .va (.lst xs)) := fun j s h => by
    unfold frz at h
    by_cases e : i = j
    · subst e
      rw [List.getElem?_set] at h
      simp only [if_true] at h
      split at h
      · rename_i hl
        cases h
        have e1 := List.getElem?_eq_getElem hl
        have e2 := getS_get e1
        rw [e2]
        cases q : env[i] with
        | own xs => rw [q] at e1; exact .inr ⟨rfl, xs, e1, rfl⟩
        | va x => rw [q] at e1; exact .inl e1
        | no => rw [q] at e1; exact .inl e1
      · cases h
    · rw [List.getElem?_set_ne e] at h
      exact .inl h
  have m : ∀ a, OO F (frz env i) σ a → OO F env σ a := oo_mono fun a ⟨j, xs, h1, h2⟩ => by
    rcases key j _ h1 with h | ⟨_, ys, _, h⟩
    · exact ⟨j, xs, h, h2⟩
    · cases h
  refine ⟨⟨by simp [frz, S.len], fun j x h => ?_, fun j xs h => ?_, fun j k xs ys p a b c d => ?_, fun a h => ?_, S.trk, S.bOc, S.ent, S.tab⟩, m⟩
  · rcases key j _ h with h | ⟨ej, ys, hy, e⟩
    · obtain ⟨v, q1, q2⟩ := S.va j x h
      exact ⟨v, q1, rep_less m q2⟩
    · cases e
      subst ej
      obtain ⟨p, vs, q1, q2, q3, q4, q5⟩ := S.own j ys hy
      refine ⟨_, q1, .lst q2 (fun z => ?_) (reps_less m q3)⟩
      rcases z with z | ⟨k, zs, z1, z2⟩
      · exact q4 z
      · rcases key k _ z1 with z3 | ⟨_, _, _, z3⟩
        · have := S.apart j k ys zs p hy z3 q1 z2
          subst this
          rw [h] at z1
          cases z1
        · cases z3
  · rcases key j _ h with h | ⟨_, ys, _, h⟩
    · obtain ⟨p, vs, q1, q2, q3, q4⟩ := S.own j xs h
      exact ⟨p, vs, q1, q2, reps_less m q3, q4⟩
    · cases h
  · rcases key j _ a with a | ⟨_, _, _, a⟩
    · rcases key k _ b with b | ⟨_, _, _, b⟩
      · exact S.apart j k xs ys p a b c d
      · cases b
    · cases a
  · obtain ⟨vs, q1, q2⟩ := S.box a h
    exact ⟨vs, q1, reps_less m q2⟩
def frzL (env : En) : List Nat → En
  | [] => env
  | i :: is => frzL (frz env i) is
theorem Ss.freezeL : ∀ (is : List Nat) {env : En}, Ss G F env cup σ H → Ss G F (frzL env is) cup σ H ∧ ∀ a, OO F (frzL env is) σ a → OO F env σ a
  | [], _, S => ⟨S, fun _ h => h⟩
  | i :: is, env, S => by
    obtain ⟨S1, m1⟩ := S.freeze i
    obtain ⟨S2, m2⟩ := Ss.freezeL is S1
    exact ⟨S2, fun a h => m1 a (m2 a h)⟩
def dFrz (is : List Nat) (s : Sd) : Sd := fun env c => s (frzL env is) c
theorem pds_frz {is : List Nat} {s : Sd} (h : PS X st (tS G F W s)) : PS X st (tS G F W (dFrz is s)) :=
  PS.imp h fun D σ H ⟨env, cup, S, q⟩ => by
    obtain ⟨S1, m1⟩ := S.freezeL is
    exact ⟨_, cup, S1, q.mono (Step.ofSub m1)⟩
def frzA : En → En := fun env => env.map frzS
theorem frzA_get {i : Nat} {s : Sl} (h : (frzA env)[i]? = some s) : ∃ s', env[i]? = some s' ∧ s = frzS s' := by
  unfold frzA at h
  rw [List.getElem?_map] at h
  cases e : env[i]? with
  | none => rw [e] at h; cases h
  | some s' => rw [e] at h; cases h; exact ⟨s', rfl, rfl⟩
theorem frzA_oo : ∀ a, OO F (frzA env) σ a → F.Oc a := fun a h => by
  rcases h with h | ⟨i, xs, h1, h2⟩
  · exact h
  · obtain ⟨s, e1, e2⟩ := frzA_get h1
    cases s <;> cases e2
theorem Ss.freezeA (S : Ss G F env cup σ H) : Ss G F (frzA env) cup σ H := by
  have m : ∀ a, OO F (frzA env) σ a → OO F env σ a := fun a h => .inl (frzA_oo a h)
  refine ⟨by simp [frzA, S.len], fun j x h => ?_, fun j xs h => ?_, fun j k xs ys p a b c d => ?_, fun a h => ?_, S.trk, S.bOc, S.ent, S.tab⟩
  · obtain ⟨s, e1, e2⟩ := frzA_get h
    cases s with
    | no => cases e2
    | va y => cases e2; obtain ⟨v, q1, q2⟩ := S.va j _ e1; exact ⟨v, q1, rep_less m q2⟩
    | own ys =>
      cases e2
      obtain ⟨p, vs, q1, q2, q3, q4, q5⟩ := S.own j ys e1
      exact ⟨_, q1, .lst q2 (fun z => q4 (frzA_oo p z)) (reps_less m q3)⟩
  · obtain ⟨s, e1, e2⟩ := frzA_get h
    cases s <;> cases e2
  · obtain ⟨s, e1, e2⟩ := frzA_get a
    cases s <;> cases e2
  · obtain ⟨vs, q1, q2⟩ := S.box a h
    exact ⟨vs, q1, reps_less m q2⟩
/-! ### return, raise -/
def dRet (e : E) : Sd := fun env c => toS (e (frzA env) c) fun x c => .rt x c
theorem pds_ret {e : Expr} {d : E} {pos : Pos} (h : PE X e (tD G F W d)) : PS X (.Return (some e) pos) (tS G F W (dRet d)) :=
  PS.imp (ps_ret h) fun D σ H ⟨env, cup, S, q⟩ => by
    have S1 := S.freezeA
    have q := q.mono (Step.ofSub (env' := frzA env) (σ' := σ) fun a h => .inl (frzA_oo a h))
    exact ⟨_, cup, S1, post_toS q (fun x c1 v H1 S2 e1 s1 p1 q1 => q1 v H1 S2.ends (rep_less (fun a h => .inl h) p1)) S1⟩
def dRetN : Sd := fun _ c => .rt .non c
theorem pds_retN {pos : Pos} : PS X (.Return none pos) (tS G F W dRetN) := PS.imp ps_retN fun D σ H ⟨env, cup, S, q⟩ => q .non H S.ends .non
def dRaise (k : Str) : Sd := fun _ c => .ex k c
/-- an own exception with a text -/
def MkOk (X : Cx) (e : Expr) (k : Str) : Prop := ∃ C, X.mg k = some (.ref C) ∧ L2N.PMk X e (fun _ H Q => Q (.ref C) none H)
theorem pds_raise {e : Expr} {k : Str} {pos : Pos} (hc : X.calm = true) (tk : L2N.Takes X W) (h : MkOk X e k) : PS X (.Raise (some e) none pos) (tS (gOf X) F W (dRaise k)) := by
  obtain ⟨C, h1, h2⟩ := h
  exact PS.imp (L2N.ps_raise hc tk h2) fun D σ H ⟨env, cup, S, q⟩ => q σ H S.ends C h1
/-! ### names set -/
def dAsg (t : Tg) (e : E) : Sd := fun env c => toS (e env c) fun x c => match t x env with
  | some env' => .nx env' c
  | none => .st
theorem asg_sem {vs : List Nat} {t : Tg} {d : E} {D : Ends} (h : tS G F W (dAsg t d) D σ H) : tAsg (tD G F W d) (tG G F vs t) D σ H := by
  obtain ⟨env, cup, S, q⟩ := h
  refine ⟨env, cup, S, post_toS q (fun x c1 v H1 S1 e1 s1 p1 q1 => ?_) S⟩
  cases e : t x env with
  | none => rw [e] at q1; exact False.elim q1
  | some env' => rw [e] at q1; exact ⟨env, c1, x, S1, p1, env', e, fun σ' S' w m n => q1 σ' H1 S' (Step.ofSub m)⟩
/-- by a transformer of stores that the target's reading serves -/
theorem pds_asg {vs : List Nat} {tg e : Expr} {t : Tg} {d : E} {g : TG} {pos : Pos} (h : PS X st (tAsg (tD G F W d) g)) (i : ∀ v σ H Q, tG G F vs t v σ H Q → g v σ H Q) : PS X st (tS G F W (dAsg t d)) := by
  refine PS.imp h fun D σ H q => ?_
  obtain ⟨env, cup, S, q⟩ := asg_sem (vs := vs) q
  exact ⟨env, cup, S, q.impQ fun v H' hq => i _ _ _ _ hq⟩
theorem gName_i {i : Nat} {vs : List Nat} (hi : i ∈ vs) (v : V) (σ : L2.St) (H : Hp) (Q : L2.St → Hp → Prop) (h : tG G F vs (gS i) v σ H Q) : gName i v σ H Q := by
  obtain ⟨env, cup, x, S, r, env', e, k⟩ := h
  cases e
  exact k _ (S.set_va r) (wipe_set hi) (oo_set (fun _ => nofun) S.len) fun j hj => List.getElem?_set_ne fun e => by subst e; exact hj hi
/-! ### a list of one's own -/
theorem Ss.set_own {i : Nat} {p : Addr} {vs : List V} {xs : List PV} (S : Ss G (F.bar p) env cup σ H) (hb : ∀ a, F.B = some a → F.Oc a) (hn : ¬ F.Oc p) (h0 : NN F.H0 p) (hp : H p = some (.lst vs)) (r : Reps G F.B (OO (F.bar p) env σ) H vs xs) :
    Ss G F (env.set i (.own xs)) cup (σ.set i (some (.ref p))) H ∧ ∀ a, OO F (env.set i (.own xs)) (σ.set i (some (.ref p))) a → OO (F.bar p) env σ a := by
  have hl : env.length = σ.length := S.len
  have m : ∀ a, OO F (env.set i (.own xs)) (σ.set i (some (.ref p))) a → OO (F.bar p) env σ a := fun a h => by
    rcases h with h | ⟨j, ys, h1, h2⟩
    · exact .inl (.inl h)
    · by_cases e : i = j
      · subst e
        rw [List.getElem?_set] at h2
        simp only [if_true] at h2
        split at h2
        · cases h2; exact .inl (.inr rfl)
        · cases h2
      · rw [List.getElem?_set_ne e] at h1 h2
        exact .inr ⟨j, ys, h1, h2⟩
  refine ⟨⟨by simp [hl], fun j x h => ?_, fun j ys h => ?_, fun j k ys zs q a b c d => ?_, fun a h => ?_, fun a h => S.trk a (.inl h), hb, S.ent, S.tab⟩, m⟩
  · by_cases e : i = j
    · subst e
      rw [List.getElem?_set] at h
      simp only [if_true] at h
      split at h <;> cases h
    · rw [List.getElem?_set_ne e] at h
      obtain ⟨v, q1, q2⟩ := S.va j x h
      exact ⟨v, by rw [List.getElem?_set_ne e]; exact q1, rep_less m q2⟩
  · by_cases e : i = j
    · subst e
      rw [List.getElem?_set] at h
      simp only [if_true] at h
      split at h
      · rename_i hil
        cases h
        exact ⟨p, vs, List.getElem?_set_self (hl ▸ hil), hp, reps_less m r, hn, h0⟩
      · cases h
    · rw [List.getElem?_set_ne e] at h
      obtain ⟨q, ws, q1, q2, q3, q4, q5⟩ := S.own j ys h
      exact ⟨q, ws, by rw [List.getElem?_set_ne e]; exact q1, q2, reps_less m q3, fun z => q4 (.inl z), q5⟩
  · have key : ∀ (j : Nat) (ys : List PV), (env.set i (.own xs))[j]? = some (.own ys) → (σ.set i (some (.ref p)))[j]? = some (some (.ref q)) → (j = i ∧ q = p) ∨ (j ≠ i ∧ env[j]? = some (.own ys) ∧ σ[j]? = some (some (.ref q)) ∧ q ≠ p) := fun j ys h1 h2 => by
      by_cases e : i = j
      · subst e
        rw [List.getElem?_set] at h2
        simp only [if_true] at h2
        split at h2
        · cases h2; exact .inl ⟨rfl, rfl⟩
        · cases h2
      · rw [List.getElem?_set_ne e] at h1 h2
        refine .inr ⟨fun z => e z.symm, h1, h2, fun z => ?_⟩
        subst z
        obtain ⟨q', ws, q1, q2, q3, q4, q5⟩ := S.own j ys h1
        rw [h2] at q1; cases q1
        exact q4 (.inr rfl)
    rcases key j ys a c with ⟨j1, j2⟩ | ⟨j1, j2, j3, j4⟩
    · rcases key k zs b d with ⟨k1, k2⟩ | ⟨k1, k2, k3, k4⟩
      · rw [j1, k1]
      · exact absurd j2 k4
    · rcases key k zs b d with ⟨k1, k2⟩ | ⟨k1, k2, k3, k4⟩
      · exact absurd k2 j4
      · exact S.apart j k ys zs q j2 k2 j3 k3
  · obtain ⟨ws, q1, q2⟩ := S.box a h
    exact ⟨ws, q1, reps_less m q2⟩
def dAsgF (i : Nat) (e : E) : Sd := fun env c => toS (e env c) fun x c => match x with
  | .lst xs => .nx (env.set i (.own xs)) c
  | _ => .st
theorem asgF_sem {i : Nat} {d : E} {D : Ends} (h : tS G F W (dAsgF i d) D σ H) : tAsg (tDF G F W d) (gName i) D σ H := by
  obtain ⟨env, cup, S, q⟩ := h
  refine ⟨env, cup, S, ?_⟩
  unfold dAsgF toS at q
  cases e : d env cup with
  | ok x c =>
    rw [e] at q
    intro p vs xs H1 ex hp h1 S1 e1 r
    subst ex
    obtain ⟨S2, m⟩ := S1.set_own (i := i) S.bOc (fun z => S.freshN hp (.inl z)) (S.h0N hp) h1 r
    refine q _ _ S2 ⟨kp_oo S e1, fun a h => ?_⟩
    rcases m a h with (z | z) | z
    · exact .inl (.inl z)
    · subst z; exact .inr hp
    · exact .inl (.inr z)
  | exc k c => rw [e] at q; exact fun H1 S1 e1 => q σ H1 S1.ends
  | stuck => rw [e] at q; exact q
end RX
set_option maxHeartbeats 4000000
namespace RX
open PySem L2
variable {G : GC} {B : Option Addr} {O Oe O' : Addr → Prop} {H H' H1 H2 : Hp} {X : Cx}
variable {F F' : FC} {env env' env1 env2 envw : En} {cup cup' c c2 : Cup} {σ σ' σ1 σ2 σw : L2.St} {W : WX} {D : Addr} {acc : List PV} {vs : List Nat} {st : Stmt} {sts : List Stmt}

/-! ### for -/
def loopS (t : Tg) (b : Sd) : List PV → En → Cup → Oc
  | [], env, c => .nx env c
  | x :: r, env, c => match t x env with
    | none => .st
    | some env2 => match b env2 c with
      | .nx e c => loopS t b r e c
      | .ct e c => loopS t b r e c
      | .bk e c => .nx e c
      | .rt v c => .rt v c
      | .ex k c => .ex k c
      | .st => .st
def dFor (wi : E) (t : Tg) (b : Sd) : Sd := fun env c => toS (wi env c) fun x c => match x with
  | .lst xs => loopS t b xs env c
  | _ => .st
theorem pds_for {iter tg : Expr} {body : List Stmt} {wi : E} {t : Tg} {vs : List Nat} {b : Sd} {pos : Pos} (hp : PassesOwn (model X.prog X.w) X.A X.env X.xe) (hc : X.calm = true) (hi : PI X tg iter (tDI true (gOf X) F W wi)) (hg : PG X tg (tG (gOf X) F vs t)) (hb : PSs X body (tS (gOf X) F W b))
    (hs : ∀ x, foldedSetIterable iter X.env x = pure x) : PS X (.For tg iter body [] pos) (tS (gOf X) F W (dFor wi t b)) := by
  refine PS.imp (ps_for hp hc hi hg hb hs) fun D σ H ⟨env, cup, S, q⟩ => ⟨env, cup, S, post_toS q (fun x c1 J H1 S1 e1 s1 ⟨xs, ex, hl, Gd, Y, wk, hY⟩ q1 => ?_) S⟩
  subst ex
  have gd : ∀ {env' σ' H'}, Step F env σ H1 env' σ' H' → Trk (OO F env' σ') H' → Gd H' ∧ ∀ i v H2, i < xs.length → Y i H' v H2 → Evl.Ex H' H2 ∧ ∃ x, xs[i]? = some x ∧ Rep (gOf X) F.B (OO F env' σ') H2 v x := fun {env' σ' H'} s t => hY _ H' s.kp s.sub t
  refine for_it wk (fun i σ' H' => ∃ env' c', Ss (gOf X) F env' c' σ' H' ∧ Step F env σ H1 env' σ' H' ∧ PostS (gOf X) F W env' σ' H' D (loopS t b (xs.drop i) env' c')) ⟨env, c1, S1, Step.refl, q1⟩ ?_ ?_ ?_
  · rintro i σ' H' hi ⟨env', c', S', s', q'⟩
    exact (gd s' (fun a h => S'.oo_trk h)).1
  · rintro i v σ' H' H2 hi ⟨env', c', S', s', q'⟩ y
    obtain ⟨g1, g2⟩ := gd s' (fun a h => S'.oo_trk h)
    obtain ⟨ex, x, hx, hr⟩ := g2 i v H2 hi y
    rw [drop_get hx] at q'
    simp only [loopS] at q'
    cases et : t x env' with
    | none => rw [et] at q'; exact False.elim q'
    | some env2 =>
      rw [et] at q'
      refine ⟨env', c', x, S'.ex ex, hr, env2, et, fun σ2 S2 hw m n => ⟨env2, c', S2, ?_⟩⟩
      have st2 : Step F env' σ' H' env2 σ2 H2 := (Step.ofE S' (ExE.of_ex ex)).trans (Step.ofSub m)
      simp only at q'
      cases eb : b env2 c' with
      | nx e c =>
        rw [eb] at q'
        exact fun σ3 H3 S3 s3 => ⟨e, c, S3, s'.trans (st2.trans s3), q'.mono (st2.trans s3)⟩
      | ct e c =>
        rw [eb] at q'
        exact fun σ3 H3 S3 s3 => ⟨e, c, S3, s'.trans (st2.trans s3), q'.mono (st2.trans s3)⟩
      | bk e c => rw [eb] at q'; exact fun σ3 H3 S3 s3 => q' σ3 H3 S3 (st2.trans s3)
      | rt v c => rw [eb] at q'; exact q'
      | ex k c => rw [eb] at q'; exact q'
      | st => rw [eb] at q'; exact q'
  · rintro σ' H' ⟨env', c', S', s', q'⟩
    rw [List.drop_length] at q'
    exact q' σ' H' S' Step.refl
/-! ### while -/
def loopW (t : E) (b : Sd) : Nat → Sd
  | 0 => dStk
  | n + 1 => fun env c => match t env c with
    | .ok (.bl true) c => (match b env c with
      | .nx e c => loopW t b n e c
      | .ct e c => loopW t b n e c
      | .bk e c => .nx e c
      | .rt v c => .rt v c
      | .ex k c => .ex k c
      | .st => .st)
    | .ok (.bl false) c => .nx env c
    | .exc k c => .ex k c
    | _ => .st
def dWhl (n : Nat) (t : E) (b : Sd) : Sd := loopW t b n
theorem pds_while {ct : Expr} {body : List Stmt} {t : E} {b : Sd} {pos : Pos} {n : Nat} (hp : PassesOwn (model X.prog X.w) X.A X.env X.xe) (hc : PT X ct (tDT (gOf X) F W t)) (hb : PSs X body (tS (gOf X) F W b)) : PS X (.While ct body [] pos) (tS (gOf X) F W (dWhl n t b)) := by
  refine PS.imp (ps_while hp hc hb) fun D σ H ⟨env, cup, S, q⟩ => ?_
  refine ⟨fun m σ H => ∃ env cup, Ss (gOf X) F env cup σ H ∧ PostS (gOf X) F W env σ H D (loopW t b m env cup), ⟨n, env, cup, S, q⟩, ?_⟩
  rintro m σ1 H1 ⟨env1, c1, S1, q1⟩
  cases m with
  | zero => exact False.elim q1
  | succ m =>
    refine ⟨env1, c1, S1, ?_⟩
    simp only [loopW] at q1
    cases et : t env1 c1 with
    | ok x c2 =>
      rw [et] at q1
      intro d H2 S2 e2 hx
      subst hx
      have s2 := Step.ofE S1 e2
      cases d with
      | false =>
        simp only [Bool.false_eq_true, if_false]
        exact q1 σ1 H2 S2 s2
      | true =>
        simp only [if_true]
        simp only at q1
        refine ⟨fun σ' H' => ∃ env cup, Ss (gOf X) F env cup σ' H' ∧ PostS (gOf X) F W env σ' H' D (loopW t b m env cup), fun σ' H' h => ⟨m, Nat.lt_succ_self m, h⟩, env1, c2, S2, ?_⟩
        cases eb : b env1 c2 with
        | nx e c => rw [eb] at q1; exact fun σ3 H3 S3 s3 => ⟨e, c, S3, q1.mono (s2.trans s3)⟩
        | ct e c => rw [eb] at q1; exact fun σ3 H3 S3 s3 => ⟨e, c, S3, q1.mono (s2.trans s3)⟩
        | bk e c => rw [eb] at q1; exact fun σ3 H3 S3 s3 => q1 σ3 H3 S3 (s2.trans s3)
        | rt v c => rw [eb] at q1; exact q1
        | ex k c => rw [eb] at q1; exact q1
        | st => rw [eb] at q1; exact q1
    | exc k c => rw [et] at q1; exact fun H2 S2 e2 => q1 σ1 H2 S2.ends
    | stuck => rw [et] at q1; exact q1
end RX
set_option maxHeartbeats 4000000
namespace RX
open PySem L2
variable {G : GC} {B : Option Addr} {O Oe O' : Addr → Prop} {H H' H1 H2 : Hp} {X : Cx}
variable {F F' : FC} {env env' env1 env2 envw : En} {cup cup' c c2 : Cup} {σ σ' σ1 σ2 σw : L2.St} {W : WX} {D : Addr} {acc : List PV} {vs : List Nat} {st : Stmt} {sts : List Stmt}

/-! ### a list of one's own is rewritten -/
theorem Ss.mut_own {i : Nat} {p : Addr} {vs us : List V} {xs ys : List PV} (S : Ss G F env cup σ H) (he : env[i]? = some (.own xs)) (hs : σ[i]? = some (some (.ref p))) (hp : H p = some (.lst vs)) (r : Reps G F.B (OO F env σ) H us ys) :
    Ss G F (env.set i (.own ys)) cup σ (upd H p (.lst us)) ∧ Step F env σ H (env.set i (.own ys)) σ (upd H p (.lst us)) := by
  obtain ⟨p', vs', q1, q2, q3, hn, h0⟩ := S.own i xs he
  rw [hs] at q1; cases q1
  have hi : i < env.length := by
    rcases Nat.lt_or_ge i env.length with h | h
    · exact h
    · rw [List.getElem?_eq_none h] at he; cases he
  have key : ∀ (j : Nat) (s : Sl), (env.set i (.own ys))[j]? = some s → (j = i ∧ s = .own ys) ∨ (j ≠ i ∧ env[j]? = some s) := fun j s h => by
    by_cases e : i = j
    · subst e; rw [List.getElem?_set_self hi] at h; cases h; exact .inl ⟨rfl, rfl⟩
    · rw [List.getElem?_set_ne e] at h; exact .inr ⟨fun z => e z.symm, h⟩
  have m : ∀ a, OO F (env.set i (.own ys)) σ a → OO F env σ a := oo_mono fun a ⟨j, zs, h1, h2⟩ => by
    rcases key j _ h1 with ⟨e, _⟩ | ⟨_, e⟩
    · subst e; exact ⟨j, xs, he, h2⟩
    · exact ⟨j, zs, e, h2⟩
  have hO : OO F env σ p := .inr ⟨i, xs, he, hs⟩
  have kp : Kp (OO F env σ) H (upd H p (.lst us)) := fun a o h n _ => by rw [upd_ne (fun e => by subst e; exact n hO)]; exact h
  refine ⟨⟨by simp [S.len], fun j x h => ?_, fun j zs h => ?_, fun j k zs ws q a b c d => ?_, fun a h => ?_, fun a h => ?_, S.bOc, fun a o h n t => ?_, tabs_upd S.tab fun u hu => by rw [hp] at hu; cases hu; exact ⟨vs, rfl⟩⟩, kp, fun a h => .inl (m a h)⟩
  · rcases key j _ h with ⟨_, e⟩ | ⟨_, e⟩
    · cases e
    · obtain ⟨v, z1, z2⟩ := S.va j x e
      exact ⟨v, z1, rep_less m (rep_kp kp z2)⟩
  · rcases key j _ h with ⟨e, e2⟩ | ⟨hne, e⟩
    · cases e2
      subst e
      exact ⟨p, us, hs, upd_same, reps_less m (reps_kp kp r), hn, h0⟩
    · obtain ⟨q, ws, z1, z2, z3, z4⟩ := S.own j zs e
      have : q ≠ p := fun z => by subst z; exact hne (S.apart j i zs xs q e he z1 hs)
      exact ⟨q, ws, z1, by rw [upd_ne this]; exact z2, reps_less m (reps_kp kp z3), z4⟩
  · have e1 : ∃ zs', env[j]? = some (.own zs') := by exact (key j _ a).elim (fun z => ⟨xs, by rw [z.1]; exact he⟩) fun z => ⟨_, z.2⟩
    have e2 : ∃ zs', env[k]? = some (.own zs') := by exact (key k _ b).elim (fun z => ⟨xs, by rw [z.1]; exact he⟩) fun z => ⟨_, z.2⟩
    obtain ⟨_, e1⟩ := e1
    obtain ⟨_, e2⟩ := e2
    exact S.apart j k _ _ q e1 e2 c d
  · obtain ⟨ws, z1, z2⟩ := S.box a h
    have : a ≠ p := fun z => by subst z; exact hn (S.bOc a h)
    exact ⟨ws, by rw [upd_ne this]; exact z1, reps_less m (reps_kp kp z2)⟩
  · by_cases e : a = p
    · subst e; exact absurd h hn
    · obtain ⟨o, z, t⟩ := S.trk a h; exact ⟨o, by rw [upd_ne e]; exact z, t⟩
  · rw [upd_ne (fun e => by subst e; exact h0 _ h t)]
    exact S.ent a o h n t
/-- the box is rewritten -/
theorem Ss.mut_box {a : Addr} {vs us : List V} {ys : List PV} (S : Ss G F env cup σ H) (ha : F.B = some a) (hp : H a = some (.lst vs)) (r : Reps G F.B (OO F env σ) H us ys) :
    Ss G F env ys σ (upd H a (.lst us)) ∧ ExE F H (upd H a (.lst us)) := by
  have e : ExE F H (upd H a (.lst us)) := fun b o h n _ => by rw [upd_ne (fun e => by subst e; exact n ha)]; exact h
  refine ⟨S.ext e (fun b hb => ?_) (tabs_upd S.tab fun u hu => by rw [hp] at hu; cases hu; exact ⟨vs, rfl⟩), e⟩
  rw [ha] at hb; cases hb
  exact ⟨us, upd_same, reps_kp (kp_oo S e) r⟩
def setIx (xs : List PV) (k : Int) (x : PV) : Option (List PV) := match ixN xs.length k with
  | some j => some (xs.set j x)
  | none => none
def kSet (i : Nat) (x : PV) (env : En) : PV → Cup → Oc
  | .int k, c => (match getS env i with
    | .own xs => (match setIx xs k x with
      | some ys => .nx (env.set i (.own ys)) c
      | none => .st)
    | .va .box => (match setIx c k x with
      | some ys => .nx env ys
      | none => .st)
    | _ => .st)
  | _, _ => .st
/-- name[k] = e -/
def mutS : Sl → Bool
  | .own _ => true
  | .va .box => true
  | _ => false
def dSetIx (i : Nat) (ie e : E) : Sd := fun env c => bif mutS (getS env i) then toS (e env c) fun x c1 => toS (ie env c1) (kSet i x env) else .st
theorem mutS_some (S : Ss G F env cup σ H) {i : Nat} (h : mutS (getS env i) = true) : ∃ p, σ[i]? = some (some (.ref p)) ∧ ∃ vs, H p = some (.lst vs) := by
  cases e : getS env i with
  | no => rw [e] at h; cases h
  | own xs => obtain ⟨p, vs, z1, z2, _⟩ := S.own i xs (getS_own e); exact ⟨p, z1, vs, z2⟩
  | va y =>
    cases y with
    | box =>
      obtain ⟨v, z1, z2⟩ := S.va i _ (getS_va e)
      cases z2 with
      | box hb => obtain ⟨vs, z3, _⟩ := S.box _ hb; exact ⟨_, z1, vs, z3⟩
    | _ => rw [e] at h; cases h
theorem setIx_some {xs ys : List PV} {k : Int} {x : PV} (h : setIx xs k x = some ys) : ∃ j, ixN xs.length k = some j ∧ ys = xs.set j x := by
  unfold setIx at h
  cases e : ixN xs.length k with
  | none => rw [e] at h; cases h
  | some j => rw [e] at h; cases h; exact ⟨j, rfl, rfl⟩
theorem pds_setIx {i : Nat} {d ie : E} (h : PS X st (tAsg (tD G F W d) (gSub (tVar i) (tDB G F W ie) rSetL))) : PS X st (tS G F W (dSetIx i ie d)) :=
  PS.imp h fun D σ H ⟨env, cup, S, q⟩ => by
    unfold dSetIx at q
    cases em : mutS (getS env i) with
    | false => rw [em] at q; exact False.elim q
    | true =>
      rw [em] at q
      simp only [cond_true] at q
      refine ⟨env, cup, S, post_toS q (fun x c1 v H1 S1 e1 s1 p1 q1 => ?_) S⟩
      obtain ⟨p0, hv, _⟩ := mutS_some S1 em
      refine ⟨.ref p0, hv, env, c1, S1, post_toS q1 (fun y c2 w H2 S2 e2 s2 p2 q2 => ?_) S1⟩
      cases y with
      | int k =>
        have hw : w = .int k := RB.int_of p2
        subst hw
        simp only [kSet] at q2
        cases es : getS env i with
        | no => rw [es] at q2; exact False.elim q2
        | own xs =>
          rw [es] at q2
          simp only at q2
          cases er : setIx xs k x with
          | none => rw [er] at q2; exact False.elim q2
          | some ys =>
            rw [er] at q2
            obtain ⟨j, hj, rfl⟩ := setIx_some er
            obtain ⟨p, vs, z1, z2, z3, _⟩ := S2.own i xs (getS_own es)
            rw [hv] at z1; cases z1
            obtain ⟨T1, T2⟩ := S2.mut_own (getS_own es) hv z2 (z3.set j (rep_kp (kp_oo S1 e2) p1))
            exact ⟨_, vs, k, j, rfl, rfl, z2, by rw [z3.length]; exact hj, q2 _ _ T1 T2⟩
        | va y =>
          cases y with
          | box =>
            rw [es] at q2
            simp only at q2
            cases er : setIx c2 k x with
            | none => rw [er] at q2; exact False.elim q2
            | some ys =>
              rw [er] at q2
              obtain ⟨j, hj, rfl⟩ := setIx_some er
              obtain ⟨w, z1, z2⟩ := S2.va i _ (getS_va es)
              rw [hv] at z1; cases z1
              cases z2 with
              | box hb =>
                obtain ⟨vs, z3, z4⟩ := S2.box _ hb
                obtain ⟨T1, T2⟩ := S2.mut_box hb z3 (z4.set j (rep_kp (kp_oo S1 e2) p1))
                exact ⟨_, vs, k, j, rfl, rfl, z3, by rw [z4.length]; exact hj, q2 _ _ T1 (Step.ofE S2 T2)⟩
          | _ => rw [es] at q2; exact False.elim q2
      | _ => exact False.elim q2
/-! ### append, pop -/
def kApp (i : Nat) (env : En) (x : PV) (c : Cup) : Oc := match getS env i with
  | .own xs => bif lenOk xs then .nx (env.set i (.own (xs ++ [x]))) c else .st
  | .va .box => bif lenOk c then .nx env (c ++ [x]) else .st
  | _ => .st
def dApp (i : Nat) (e : E) : Sd := fun env c => bif mutS (getS env i) then toS (e env c) (kApp i env) else .st
theorem pds_app {i : Nat} {d : E} {e : Expr} (h : PS X st (tDrop (tBM (gOf X).K "list" rAppend (tVar i) (tCons (tD (gOf X) F W d) tNil)))) : PS X st (tS (gOf X) F W (dApp i d)) :=
  PS.imp h fun D σ H ⟨env, cup, S, q⟩ => by
    unfold dApp at q
    cases em : mutS (getS env i) with
    | false => rw [em] at q; exact False.elim q
    | true =>
      rw [em] at q
      simp only [cond_true] at q
      obtain ⟨p0, hv, us0, hu0⟩ := mutS_some S em
      refine ⟨.ref p0, hv, .inl ⟨rfl, us0, SqL.of hu0⟩, env, cup, S, post_toS q (fun x c1 v H1 S1 e1 s1 p1 q1 => ?_) S⟩
      unfold kApp at q1
      cases es : getS env i with
      | no => rw [es] at q1; exact False.elim q1
      | own xs =>
        rw [es] at q1
        simp only at q1
        cases el : lenOk xs with
        | false => rw [el] at q1; exact False.elim q1
        | true =>
          rw [el] at q1
          obtain ⟨p, vs, z1, z2, z3, _⟩ := S1.own i xs (getS_own es)
          rw [hv] at z1; cases z1
          obtain ⟨T1, T2⟩ := S1.mut_own (getS_own es) hv z2 (z3.append (.cons p1 .nil))
          exact ⟨_, vs, v, rfl, rfl, z2, by rw [z3.length]; exact lt_line (lenOk_le el), q1 _ _ T1 T2⟩
      | va y =>
        cases y with
        | box =>
          rw [es] at q1
          simp only at q1
          cases el : lenOk c1 with
          | false => rw [el] at q1; exact False.elim q1
          | true =>
            rw [el] at q1
            obtain ⟨w, z1, z2⟩ := S1.va i _ (getS_va es)
            rw [hv] at z1; cases z1
            cases z2 with
            | box hb =>
              obtain ⟨vs, z3, z4⟩ := S1.box _ hb
              obtain ⟨T1, T2⟩ := S1.mut_box hb z3 (z4.append (.cons p1 .nil))
              exact ⟨_, vs, v, rfl, rfl, z3, by rw [z4.length]; exact lt_line (lenOk_le el), q1 _ _ T1 (Step.ofE S1 T2)⟩
        | _ => rw [es] at q1; exact False.elim q1
/-- target = name.pop() -/
def kPop (i : Nat) (t : Tg) (env : En) (c : Cup) : Oc := match getS env i with
  | .own xs => (match getL xs (xs.length - 1) with
    | some x => (match t x (env.set i (.own xs.dropLast)) with
      | some env' => .nx env' c
      | none => .st)
    | none => .st)
  | .va .box => (match getL c (c.length - 1) with
    | some x => (match t x env with
      | some env' => .nx env' c.dropLast
      | none => .st)
    | none => .st)
  | _ => .st
def dPop (i : Nat) (t : Tg) : Sd := kPop i t
theorem pds_pop {i : Nat} {t : Tg} {vs : List Nat} {g : TG} (h : PS X st (tAsg (tBM0 (gOf X).K "list" rPop (tVar i)) g)) (hg : ∀ v σ H Q, tG (gOf X) F vs t v σ H Q → g v σ H Q) : PS X st (tS (gOf X) F W (dPop i t)) :=
  PS.imp h fun D σ H ⟨env, cup, S, q⟩ => by
    unfold dPop kPop at q
    cases es : getS env i with
    | no => rw [es] at q; exact False.elim q
    | own xs =>
      rw [es] at q
      simp only at q
      cases el : getL xs (xs.length - 1) with
      | none => rw [el] at q; exact False.elim q
      | some x =>
        rw [el] at q
        simp only at q
        cases et : t x (List.set env i (.own xs.dropLast)) with
        | none => rw [et] at q; exact False.elim q
        | some env2 =>
          rw [et] at q
          obtain ⟨p, us, z1, z2, z3, _⟩ := S.own i xs (getS_own es)
          rw [getL_eq] at el
          obtain ⟨y, y1, y2⟩ := z3.get el
          obtain ⟨T1, T2⟩ := S.mut_own (getS_own es) z1 z2 z3.dropLast
          refine ⟨.ref p, z1, .inl ⟨rfl, us, SqL.of z2⟩, p, us, y, rfl, rfl, z2, by rw [z3.length]; exact y1, ?_⟩
          refine hg _ _ _ _ ⟨_, cup, x, T1, ?_, env2, et, fun σ2 S2 w m n => q σ2 _ S2 (T2.trans (Step.ofSub m))⟩
          have kp : Rep (gOf X) F.B (OO F env σ) (upd H p (.lst us.dropLast)) y x := rep_kp T2.kp y2
          exact rep_bar (fun a h => (T2.sub a h).elim .inl fun z => .inr (fun o ho t => by
            rw [upd_ne (fun e => by subst e; exact z _ z2 nt_lst)] at ho; exact z _ ho t)) kp
    | va y =>
      cases y with
      | box =>
        rw [es] at q
        simp only at q
        cases el : getL cup (cup.length - 1) with
        | none => rw [el] at q; exact False.elim q
        | some x =>
          rw [el] at q
          simp only at q
          cases et : t x env with
          | none => rw [et] at q; exact False.elim q
          | some env2 =>
            rw [et] at q
            obtain ⟨w, z1, z2⟩ := S.va i _ (getS_va es)
            cases z2 with
            | box hb =>
              obtain ⟨us, z3, z4⟩ := S.box _ hb
              rw [getL_eq] at el
              obtain ⟨y, y1, y2⟩ := z4.get el
              obtain ⟨T1, T2⟩ := S.mut_box hb z3 z4.dropLast
              refine ⟨_, z1, .inl ⟨rfl, us, SqL.of z3⟩, _, us, y, rfl, rfl, z3, by rw [z4.length]; exact y1, ?_⟩
              exact hg _ _ _ _ ⟨_, _, x, T1, rep_kp (kp_oo S T2) y2, env2, et, fun σ2 S2 w m n => q σ2 _ S2 ((Step.ofE S T2).trans (Step.ofSub m))⟩
      | _ => rw [es] at q; exact False.elim q
/-! ### several names at once -/
def bars (F : FC) : List Addr → FC
  | [] => F
  | p :: ps => bars (F.bar p) ps
def frL (G : GC) (B : Option Addr) (Z : Addr → Prop) (H : Hp) : List Bool → List V → List PV → List Addr → Prop
  | [], vs, xs, ps => vs = [] ∧ xs = [] ∧ ps = []
  | false :: fl, vs, xs, ps => ∃ v vr x xr, vs = v :: vr ∧ xs = x :: xr ∧ Rep G B Z H v x ∧ frL G B Z H fl vr xr ps
  | true :: fl, vs, xs, ps => ∃ p vr ys xr pr ws, vs = .ref p :: vr ∧ xs = .lst ys :: xr ∧ ps = p :: pr ∧ H p = some (.lst ws) ∧ Reps G B Z H ws ys ∧ frL G B Z H fl vr xr pr
def PostL (fl : List Bool) (G : GC) (F : FC) (W : WX) (env : En) (σ : L2.St) (H : Hp) (Q : List V → Hp → Prop) : R → Prop
  | .ok x cup' => ∀ vs H' ps xs, x = .tup xs → (∀ p ∈ ps, NN H p) → ps.Nodup → Ss G (bars F ps) env cup' σ H' → ExE F H H' → frL G F.B (OO (bars F ps) env σ) H' fl vs xs ps → Q vs H'
  | .exc c cup' => ∀ H', Ss G F env cup' σ H' → ExE F H H' → wx G W c σ H'
  | .stuck => False
abbrev tDL (fl : List Bool) (G : GC) (F : FC) (W : WX) (d : E) : TA := fun σ H Q => ∃ env cup, Ss G F env cup σ H ∧ PostL fl G F W env σ H Q (d env cup)
theorem pal_nil : PA X [] (tDL [] G F W dNil) := PA.imp pa_nil fun σ H Q ⟨env, cup, S, q⟩ => q [] H [] [] rfl (fun _ h => by cases h) List.nodup_nil S ExE.refl ⟨rfl, rfl, rfl⟩
theorem bars_B : ∀ (ps : List Addr) (F : FC), (bars F ps).B = F.B
  | [], _ => rfl
  | p :: ps, F => bars_B ps (F.bar p)
theorem bars_H0 : ∀ (ps : List Addr) (F : FC), (bars F ps).H0 = F.H0
  | [], _ => rfl
  | p :: ps, F => bars_H0 ps (F.bar p)
theorem bars_Oc : ∀ (ps : List Addr) (F : FC) (a : Addr), (bars F ps).Oc a ↔ F.Oc a ∨ a ∈ ps
  | [], F, a => by simp [bars]
  | p :: ps, F, a => by
    rw [bars, bars_Oc ps (F.bar p) a]
    simp only [List.mem_cons]
    show (F.Oc a ∨ a = p) ∨ a ∈ ps ↔ F.Oc a ∨ a = p ∨ a ∈ ps
    rw [or_assoc]
end RX
set_option maxHeartbeats 4000000
namespace RX
open PySem L2
variable {G : GC} {B : Option Addr} {O Oe O' Z Z' : Addr → Prop} {H H' H1 H2 : Hp} {X : Cx}
variable {F F' : FC} {env env' env1 env2 envw : En} {cup cup' c c2 : Cup} {σ σ' σ1 σ2 σw : L2.St} {W : WX} {D : Addr} {acc : List PV} {vs : List Nat} {st : Stmt} {sts : List Stmt}

theorem FC.ext {F F' : FC} (hB : F.B = F'.B) (hO : ∀ a, F.Oc a ↔ F'.Oc a) (h0 : F.H0 = F'.H0) (ht : F.tl = F'.tl) : F = F' := by
  cases F; cases F'
  simp only at hB hO h0 ht
  subst hB h0 ht
  congr 1
  exact funext fun a => propext (hO a)
theorem bars_tl : ∀ (ps : List Addr) (F : FC), (bars F ps).tl = F.tl
  | [], _ => rfl
  | p :: ps, F => bars_tl ps (F.bar p)
theorem bars_comm (p : Addr) (ps : List Addr) : bars (F.bar p) ps = (bars F ps).bar p := by
  refine FC.ext ?_ (fun a => ?_) ?_ ?_
  · rw [bars_B]; exact (bars_B ps F).symm
  · rw [bars_Oc]
    show (F.Oc a ∨ a = p) ∨ a ∈ ps ↔ (bars F ps).Oc a ∨ a = p
    rw [bars_Oc, or_assoc, or_assoc, or_comm (a := a = p)]
  · rw [bars_H0]; exact (bars_H0 ps F).symm
  · rw [bars_tl]; exact (bars_tl ps F).symm
theorem frL_imp {fl : List Bool} (hr : ∀ v x, Rep G B Z H v x → Rep G B Z' H v x) (hrs : ∀ v x, Reps G B Z H v x → Reps G B Z' H v x) : ∀ {vs xs ps}, frL G B Z H fl vs xs ps → frL G B Z' H fl vs xs ps := by
  induction fl with
  | nil => exact fun h => h
  | cons b fl ih =>
    intro vs xs ps h
    cases b with
    | false => obtain ⟨v, vr, x, xr, e1, e2, r, h⟩ := h; exact ⟨v, vr, x, xr, e1, e2, hr _ _ r, ih h⟩
    | true => obtain ⟨p, vr, ys, xr, pr, ws, e1, e2, e3, e4, r, h⟩ := h; exact ⟨p, vr, ys, xr, pr, ws, e1, e2, e3, e4, hrs _ _ r, ih h⟩
theorem oo_bars {ps : List Addr} {a : Addr} : OO (bars F ps) env σ a ↔ OO F env σ a ∨ a ∈ ps := by
  unfold OO
  rw [bars_Oc]
  constructor
  · rintro ((h | h) | h)
    · exact .inl (.inl h)
    · exact .inr h
    · exact .inl (.inr h)
  · rintro ((h | h) | h)
    · exact .inl (.inl h)
    · exact .inr h
    · exact .inl (.inr h)
theorem PostL.mono {fl : List Bool} {Q : List V → Hp → Prop} {r : R} (S : Ss G F env cup σ H1) (h : PostL fl G F W env σ H Q r) (e : ExE F H H1) : PostL fl G F W env σ H1 Q r := by
  cases r with
  | ok x c =>
    intro vs H' ps xs ex hn nd S' e' fr
    exact h vs H' ps xs ex (fun p hp => S.nnBack e (hn p hp)) nd S' (e.trans e') fr
  | exc k c => exact fun H' S' e' => h H' S' (e.trans e')
  | stuck => exact h
theorem pal_cons {e : Expr} {es : List Expr} {d ds : E} {fl : List Bool} (h : PE X e (tD G F W d)) (hs : PA X es (tDL fl G F W ds)) (st : starEach (e :: es) X.env = (false, eval e X.env) :: starEach es X.env) : PA X (e :: es) (tDL (false :: fl) G F W (dCons d ds)) :=
  PA.imp (pa_cons h hs st) fun σ H Q ⟨env, cup, S, q⟩ => ⟨env, cup, S, by
    unfold dCons bindE at q
    cases e : d env cup with
    | stuck => rw [e] at q; exact q
    | exc k c => rw [e] at q; exact q
    | ok x c =>
      rw [e] at q
      intro v H1 S1 e1 r1
      refine ⟨env, c, S1, ?_⟩
      have q := q.mono S1 e1
      simp only at q
      cases e2 : ds env c with
      | stuck => rw [e2] at q; exact q
      | exc k c => rw [e2] at q; exact q
      | ok y c2 =>
        rw [e2] at q
        intro vs H2 ps xs ex hn nd S2 e3 fr
        subst ex
        refine q (v :: vs) H2 ps (x :: xs) rfl hn nd S2 e3 ⟨v, vs, x, xs, rfl, rfl, ?_, fr⟩
        exact rep_on (fun _ h => h) r1 (kp_oo S1 e3) fun a h => (oo_bars.mp h).elim .inl fun z => .inr (hn a z)⟩
theorem pal_consF {e : Expr} {es : List Expr} {d ds : E} {fl : List Bool} (h : PE X e (tDF G F W d)) (hs : ∀ F', F'.tl = F.tl → PA X es (tDL fl G F' W ds)) (st : starEach (e :: es) X.env = (false, eval e X.env) :: starEach es X.env) : PA X (e :: es) (tDL (true :: fl) G F W (dCons d ds)) := by
  have hs' : PA X es (fun σ H Q => ∃ F', F'.tl = F.tl ∧ tDL fl G F' W ds σ H Q) := ⟨fun pos pins s σ H Q I ⟨F', hT, hq⟩ => (hs F' hT).run pos pins s σ H Q I hq⟩
  refine PA.imp (pa_cons h hs' st) fun σ H Q ⟨env, cup, S, q⟩ => ⟨env, cup, S, ?_⟩
  unfold dCons bindE at q
  cases e : d env cup with
  | stuck => rw [e] at q; exact q
  | exc k c => rw [e] at q; exact q
  | ok x c =>
    rw [e] at q
    intro p us ys H1 ex hp h1 S1 e1 r1
    subst ex
    refine ⟨F.bar p, rfl, env, c, S1, ?_⟩
    simp only at q
    have S1' : Ss G F env c σ H1 := S1.unbar S.bOc
    have back : ∀ a, NN H1 a → NN H a := fun a ha => S1'.nnBack e1 ha
    have nb : F.B ≠ some p := fun e => S.freshN hp (.inl (S.bOc p e))
    cases e2 : ds env c with
    | stuck => rw [e2] at q; exact q
    | exc k c => rw [e2] at q; exact fun H2 S2 e2 => q H2 (S2.unbar S.bOc) (e1.trans e2)
    | ok y c2 =>
      rw [e2] at q
      intro vs H2 ps xs ex hn nd S2 e3 fr
      subst ex
      have hpn : p ∉ ps := fun z => hn p z _ h1 nt_lst
      refine q (.ref p :: vs) H2 (p :: ps) (.lst ys :: xs) rfl (fun b hb => ?_) (List.nodup_cons.mpr ⟨hpn, nd⟩) S2 (e1.trans e3) ⟨p, vs, ys, xs, ps, us, rfl, rfl, rfl, e3 p _ h1 nb nt_lst, ?_, fr⟩
      · cases hb with
        | head => exact hp
        | tail _ hb => exact back b (hn b hb)
      · exact reps_on (fun _ h => h) r1 (kp_oo S1 e3) fun a h => (oo_bars (F := F.bar p) |>.mp h).elim .inl fun z => .inr (hn a z)
/-! ### names set from such a list -/
def setP : List (Nat × Bool) → List PV → En → Option En
  | [], [], env => some env
  | (i, false) :: r, x :: xs, env => setP r xs (env.set i (.va x))
  | (i, true) :: r, .lst ys :: xs, env => setP r xs (env.set i (.own ys))
  | _, _, _ => none
def setV : List (Nat × Bool) → List V → L2.St → L2.St
  | (i, _) :: r, v :: vs, σ => setV r vs (σ.set i (some v))
  | _, _, σ => σ
theorem setP_sem {c : Cup} : ∀ {ts : List (Nat × Bool)} {vs : List V} {xs : List PV} {ps : List Addr} {env env' : En} {σ : L2.St}, Ss G (bars F ps) env c σ H → (∀ a, F.B = some a → F.Oc a) → (∀ p ∈ ps, ¬ F.Oc p ∧ NN F.H0 p) → ps.Nodup → (∀ a, OO (bars F ps) env σ a → Z a) →
    frL G F.B Z H (ts.map (·.2)) vs xs ps → setP ts xs env = some env' → Ss G F env' c (setV ts vs σ) H ∧ ∀ a, OO F env' (setV ts vs σ) a → Z a
  | [], vs, xs, ps, env, env', σ, S, hb, hf, nd, hz, fr, e => by
    obtain ⟨rfl, rfl, rfl⟩ := fr
    cases e
    exact ⟨S, hz⟩
  | (i, false) :: r, vs, xs, ps, env, env', σ, S, hb, hf, nd, hz, fr, e => by
    obtain ⟨v, vr, x, xr, rfl, rfl, rv, fr⟩ := fr
    have rv' : Rep G (bars F ps).B (OO (bars F ps) env σ) H v x := by rw [bars_B]; exact rep_less hz rv
    have S' := S.set_va (i := i) rv'
    exact setP_sem (ts := r) S' hb hf nd (fun a h => hz a (oo_set (fun _ h => by cases h) S.len a h)) fr e
  | (i, true) :: r, vs, xs, ps, env, env', σ, S, hb, hf, nd, hz, fr, e => by
    obtain ⟨p, vr, ys, xr, pr, ws, rfl, rfl, rfl, hp, rs, fr⟩ := fr
    have S0 : Ss G ((bars F pr).bar p) env c σ H := by rw [← bars_comm]; exact S
    have hz' : ∀ a, OO ((bars F pr).bar p) env σ a → Z a := fun a h => hz a (by rw [bars, bars_comm]; exact h)
    have nd' := List.nodup_cons.mp nd
    have h1 := hf p (.head _)
    obtain ⟨S1, m1⟩ := S0.set_own (i := i) (xs := ys) (vs := ws) (fun a h => (bars_Oc pr F a).mpr (.inl (hb a (by rw [← h, bars_B])))) (fun z => ((bars_Oc pr F p).mp z).elim h1.1 nd'.1) (by rw [bars_H0]; exact h1.2) hp (by rw [bars_B]; exact reps_less hz' rs)
    exact setP_sem (ts := r) S1 hb (fun q hq => hf q (.tail _ hq)) nd'.2 (fun a h => hz' a (m1 a h)) fr e
def dPar (ts : List (Nat × Bool)) (ds : E) : Sd := fun env c => toS (ds env c) fun x c => match x with
  | .tup xs => (match setP ts xs env with
    | some env' => .nx env' c
    | none => .st)
  | _ => .st
theorem par_sem {ts : List (Nat × Bool)} {d : E} {D : Ends} (h : tS G F W (dPar ts d) D σ H) : tDL (ts.map (·.2)) G F W d σ H fun vs H1 => vs.length = ts.length ∧ D.nx (setV ts vs σ) H1 := by
  obtain ⟨env, cup, S, q⟩ := h
  refine ⟨env, cup, S, ?_⟩
  unfold dPar toS at q
  cases e : d env cup with
  | stuck => rw [e] at q; exact q
  | exc k c => rw [e] at q; exact fun H1 S1 e1 => q σ H1 S1.ends
  | ok x c =>
    rw [e] at q
    intro vs H1 ps xs ex hn nd S1 e1 fr
    subst ex
    simp only at q
    have hl : ∀ {ts : List (Nat × Bool)} {vs xs ps} {Z : Addr → Prop}, frL G F.B Z H1 (ts.map (·.2)) vs xs ps → vs.length = ts.length := by
      intro ts
      induction ts with
      | nil => intro vs xs ps Z h; rw [h.1]; rfl
      | cons t ts ih =>
        obtain ⟨i, b⟩ := t
        intro vs xs ps Z h
        cases b with
        | false => obtain ⟨v, vr, x, xr, rfl, rfl, rv, fr⟩ := h; simp [ih fr]
        | true => obtain ⟨p, vr, ys, xr, pr, ws, rfl, rfl, rfl, hp, rs, fr⟩ := h; simp [ih fr]
    refine ⟨hl fr, ?_⟩
    cases es : setP ts xs env with
    | none => rw [es] at q; exact False.elim q
    | some env' =>
      rw [es] at q
      obtain ⟨S2, m⟩ := setP_sem S1 S.bOc (fun p hp => ⟨fun z => S.freshN (hn p hp) (.inl z), S.h0N (hn p hp)⟩) nd (fun a h => h) fr es
      refine q _ H1 S2 ⟨kp_oo S e1, fun a h => ?_⟩
      exact (oo_bars.mp (m a h)).elim .inl fun z => .inr (hn a z)
theorem pds_par2 {i j : Nat} {bi bj : Bool} {d : E} (h : PS X st (tPar i j (tDL [bi, bj] G F W d))) : PS X st (tS G F W (dPar [(i, bi), (j, bj)] d)) :=
  PS.imp h fun D σ H q => by
    obtain ⟨env, cup, S, k⟩ := par_sem q
    refine ⟨env, cup, S, ?_⟩
    revert k
    have imp : ∀ vs H1, (vs.length = 2 ∧ D.nx (setV [(i, bi), (j, bj)] vs σ) H1) → ∃ v w, vs = [v, w] ∧ D.nx ((σ.set i (some v)).set j (some w)) H1 := fun vs H1 ⟨hl, hx⟩ => by
      match vs, hl with
      | [v, w], _ => exact ⟨v, w, rfl, hx⟩
    cases d env cup with
    | stuck => exact fun k => k
    | exc k c => exact fun k => k
    | ok x c => exact fun k vs H1 ps xs ex hn nd S1 e1 fr => imp _ _ (k vs H1 ps xs ex hn nd S1 e1 fr)
theorem pds_par3 {i j l : Nat} {bi bj bl : Bool} {d : E} (h : PS X st (tPar3 i j l (tDL [bi, bj, bl] G F W d))) : PS X st (tS G F W (dPar [(i, bi), (j, bj), (l, bl)] d)) :=
  PS.imp h fun D σ H q => by
    obtain ⟨env, cup, S, k⟩ := par_sem q
    refine ⟨env, cup, S, ?_⟩
    revert k
    have imp : ∀ vs H1, (vs.length = 3 ∧ D.nx (setV [(i, bi), (j, bj), (l, bl)] vs σ) H1) → ∃ u v w, vs = [u, v, w] ∧ D.nx (((σ.set i (some u)).set j (some v)).set l (some w)) H1 := fun vs H1 ⟨hl, hx⟩ => by
      match vs, hl with
      | [u, v, w], _ => exact ⟨u, v, w, rfl, hx⟩
    cases d env cup with
    | stuck => exact fun k => k
    | exc k c => exact fun k => k
    | ok x c => exact fun k vs H1 ps xs ex hn nd S1 e1 fr => imp _ _ (k vs H1 ps xs ex hn nd S1 e1 fr)
/-- a list of one's own goes to another name -/
def dMove (i j : Nat) : Sd := fun env c => match getS env j with
  | .own xs => .nx ((env.set j .no).set i (.own xs)) c
  | _ => .st
end RX
set_option maxHeartbeats 4000000
namespace RX
open PySem L2
variable {G : GC} {B : Option Addr} {O Oe O' Z Z' : Addr → Prop} {H H' H1 H2 : Hp} {X : Cx}
variable {F F' : FC} {env env' env1 env2 envw : En} {cup cup' c c2 : Cup} {σ σ' σ1 σ2 σw : L2.St} {W : WX} {D : Addr} {acc : List PV} {vs : List Nat} {st : Stmt} {sts : List Stmt}

/-! ### what a def promises, calls -/
def PostC (G : GC) (F : FC) (Q : VK) (E : XK) : R → Prop
  | .ok x c => ∀ v H', EndOk G F c H' → Rep G F.B F.Oc H' v x → Q v H'
  | .exc k c => ∀ H', EndOk G F c H' → ∀ a, G.mg k = some (.ref a) → E (.ref a) none H'
  | .stuck => False
def spF (G : GC) (tl : Tl) (f : Fn) (n : Nat) : Sp := fun vs H Q E => vs.length = n ∧ ∃ B Oc xs cup, Reps G B Oc H vs xs ∧ (∀ a, B = some a → Oc a) ∧ EndOk G ⟨B, Oc, H, tl⟩ cup H ∧ PostC G ⟨B, Oc, H, tl⟩ Q E (f xs cup)
def fnE (f : Fn) (n : Nat) : PV → E
  | .tup xs => fun _ c => bif Nat.beq xs.length n then f xs c else .stuck
  | _ => stk
def dCall (f : Fn) (n : Nat) (ds : E) : E := bindE ds (fnE f n)
/-- a global def as the text calls it -/
structure CallOkA (P : Program) (w : World) (K : PySem.W.Frag) (mg : Str → Option Value) (base : Heap) (A : Around) (tl : Tl) (x : Str) (f : Fn) (n : Nat) : Prop where
  dbg : (x == ("__debug__" : Str)) = false
  ok : ∃ (k : Nat) (a : Addr) (fd : FuncData) (ps : List Str), FnOk P w K mg base (L2N.CX P w) k a fd ps (spF ⟨K, mg⟩ tl f n) ∧ Room k A ∧ mg x = some (.ref a) ∧ PySem.W.keepIn K (.ref a) = true ∧ Binds K fd ps []
abbrev CallOk (X : Cx) (tl : Tl) (x : Str) (f : Fn) (n : Nat) : Prop := CallOkA X.prog X.w X.K X.mg X.base X.A tl x f n
theorem pd_call {x : Str} {f : Fn} {n : Nat} {e : Expr} {es : List Expr} {ds : E} {p pos : Pos} (tk : L2N.Takes X W) (C : CallOk X F.tl x f n) (hg : Gl X x) (ha : PA X (e :: es) (tDA (gOf X) F W ds)) (hs : (e :: es).all (fun e => !isStar e) = true) :
    PE X (.Call (.Name x p) (e :: es) [] pos) (tD (gOf X) F W (dCall f n ds)) := by
  obtain ⟨hdb, k, a, fd, ps, FO, hr, hm, hk, hb⟩ := C
  have hs' := hs
  rw [List.all_cons, Bool.and_eq_true, Bool.not_eq_true'] at hs'
  refine PE.imp (pe_callS FO hr hg hm hk hb (fun σ => L2N.passAt tk σ) ha hdb (star_cons hs'.1) (star_all hs'.2 _)) fun σ H Q ⟨env, cup, S, q⟩ => ⟨env, cup, S, post_bind q fun y cup1 vs H1 S1 e1 p1 q1 => ?_⟩
  obtain ⟨xs, rfl, rs⟩ := p1
  simp only [fnE] at q1
  cases hl : Nat.beq xs.length n with
  | false => rw [hl] at q1; exact False.elim q1
  | true =>
    rw [hl] at q1
    simp only [cond_true] at q1
    refine ⟨by rw [rs.length]; exact Nat.eq_of_beq_eq_true hl, F.B, OO F env σ, xs, cup1, rs, fun a h => .inl (S1.bOc a h), ⟨S1.box, fun a h => S1.oo_trk h, ExE.refl, S1.tab⟩, ?_⟩
    have back : ∀ {c H'}, EndOk (gOf X) ⟨F.B, OO F env σ, H1, F.tl⟩ c H' → Ss (gOf X) F env c σ H' ∧ ExE F H1 H' := fun {c H'} h => ⟨S1.ext h.ent h.box h.tab, h.ent⟩
    revert q1
    cases f xs cup1 with
    | ok z c => exact fun q1 v H' h r => q1 v H' (back h).1 (back h).2 r
    | exc k c => exact fun q1 H' h a ha => q1 H' (back h).1 (back h).2 a ha
    | stuck => exact fun q1 => q1
/-- a def's promise by its body's reading -/
def runS (b : Sd) (m : Nat) : Fn := fun xs c => match b (xs.map .va ++ List.replicate m .no) c with
  | .nx _ c => .ok .non c
  | .rt v c => .ok v c
  | .ex k c => .exc k c
  | _ => .stuck
theorem start_S {N : List Str} {vs : List V} {xs : List PV} {Oc : Addr → Prop} {m : Nat} {tl : List (Addr × Str)} (r : Reps G B Oc H vs xs) (hb : ∀ a, B = some a → Oc a) (e : EndOk G ⟨B, Oc, H, tl⟩ cup H) (hm : xs.length + m = N.length) :
    Ss G ⟨B, Oc, H, tl⟩ (xs.map .va ++ List.replicate m .no) cup (L2.start N vs) H := by
  have noown : ∀ (i : Nat) (ys : List PV), (xs.map Sl.va ++ List.replicate m Sl.no)[i]? ≠ some (.own ys) := fun i ys h => by
    have := List.mem_of_getElem? h
    rw [List.mem_append, List.mem_map, List.mem_replicate] at this
    rcases this with ⟨x, _, e⟩ | ⟨_, e⟩ <;> cases e
  have m1 : ∀ a, OO ⟨B, Oc, H, tl⟩ (xs.map Sl.va ++ List.replicate m Sl.no) (L2.start N vs) a → Oc a := fun a h => by
    rcases h with h | ⟨i, ys, h, _⟩
    · exact h
    · exact absurd h (noown i ys)
  have hst : L2.start N vs = vs.map some ++ List.replicate m none := by
    unfold L2.start
    rw [r.length]
    congr 2
    omega
  refine ⟨by rw [hst]; simp [r.length], fun i x h => ?_, fun i ys h => absurd h (noown i ys), fun i j xs' ys p h _ _ _ => absurd h (noown i xs'), fun a h => ?_, e.trk, hb, ExE.refl, e.tab⟩
  · have hi : i < xs.length := by
      rcases Nat.lt_or_ge i xs.length with z | z
      · exact z
      · rw [List.getElem?_append_right (by simpa using z)] at h
        have := List.mem_of_getElem? h
        rw [List.mem_replicate] at this
        cases this.2
    rw [List.getElem?_append_left (by simpa using hi), List.getElem?_map] at h
    cases ex : xs[i]? with
    | none => rw [ex] at h; cases h
    | some y =>
      rw [ex] at h
      cases h
      obtain ⟨v, q1, q2⟩ := r.get ex
      refine ⟨v, ?_, rep_less m1 q2⟩
      rw [hst, List.getElem?_append_left (by rw [List.length_map, r.length]; exact hi), List.getElem?_map, q1]
      rfl
  · obtain ⟨ws, q1, q2⟩ := e.box a h
    exact ⟨ws, q1, reps_less m1 q2⟩

theorem body_sem {b : Sd} {N : List Str} {vs : List V} {H : Hp} {Q : VK} {E : XK} {n : Nat} {tl : Tl} (hn : n ≤ N.length) (h : spF G tl (runS b (N.length - n)) n vs H Q E) :
    ∃ F, F.tl = tl ∧ tS G F (fun cls d _ H => E cls d H) b { nx := fun _ H' => Q .non H', rt := Q } (L2.start N vs) H := by
  obtain ⟨hl, B, Oc, xs, cup, r, hb, eo, q⟩ := h
  have hx : xs.length = n := by rw [← r.length]; exact hl
  refine ⟨⟨B, Oc, H, tl⟩, rfl, xs.map .va ++ List.replicate (N.length - n) .no, cup, start_S r hb eo (by omega), ?_⟩
  unfold runS at q
  revert q
  cases b (xs.map .va ++ List.replicate (N.length - n) .no) cup with
  | nx e c => exact fun q σ' H' S s => q .non H' S.ends .non
  | rt v c => exact fun q v' H' e r => q v' H' e r
  | ex k c => exact fun q σ' H' e a ha => q H' e a ha
  | bk e c => exact fun q => False.elim q
  | ct e c => exact fun q => False.elim q
  | st => exact fun q => q
abbrev WE0 (E : XK) : WX := fun cls d _ H => E cls d H
/-- where the text of a def runs -/
structure BCx (P : Program) (w : World) (K : PySem.W.Frag) (mg : Str → Option Value) (base : Heap) (N : List Str) (scope : Scope) (qual : Str) (code : Value) (k : Nat) (X : Cx) (E : XK) : Prop where
  prog : X.prog = P
  w : X.w = w
  K : X.K = K
  mg : X.mg = mg
  base : X.base = base
  N : X.N = N
  scope : X.env.scope = scope
  qual : X.env.qual = qual ++ ".<locals>."
  code : X.env.code = code
  calm : X.calm = true
  fn : X.fn = (fun _ => true)
  room : Room k X.A
  tk : L2N.Takes X (WE0 E)
  own : PassesOwn (model X.prog X.w) X.A X.env X.xe
theorem bcx_of {P : Program} {w : World} {K : PySem.W.Frag} {mg : Str → Option Value} {base : Heap} {qual : Str} {scope : Scope} {k : Nat} {f : Addr} {N : List Str} {cdv : Value} {A : Around} {outer : List Env} {s : Shared} {H : Hp} {E : XK} (hr : Room k (A.deeper (PyProof.Rows.envOfC qual scope s.heap.objs.size f cdv))) :
    BCx P w K mg base N scope qual cdv k (cxOf (L2N.CX P w) P w K mg base N qual scope f cdv A outer s H E) E := ⟨rfl, rfl, rfl, rfl, rfl, rfl, rfl, rfl, rfl, rfl, rfl, hr, L2N.takes_of rfl rfl rfl rfl, passes_of rfl⟩
theorem fn_ok {P : Program} {w : World} {K : PySem.W.Frag} {mg : Str → Option Value} {base : Heap} {name qual : Str} {params : Arguments} {body : List Stmt} {scope : Scope} {k : Nat} {f : Addr} {fd : FuncData} {N ps : List Str} {b : Sd} {tl : Tl} (FD : FunD K name qual params body scope [] [] f fd) (S : FnScope N ps scope)
    (hb : ∀ (X : Cx) (E : XK) (F : FC), F.tl = tl → BCx P w K mg base N scope qual fd.code k X E → PSs X body (tS (gOf X) F (WE0 E) b)) :
    FnOk P w K mg base (L2N.CX P w) (k + 1) f fd ps (spF ⟨K, mg⟩ tl (runS b (N.length - ps.length)) ps.length) := by
  obtain ⟨oc, od, dV, kV, doc, pm, an, cdv, ct, osl, rfl, lk, hcd, _, _⟩ := FD.ex
  refine fn_of lk hcd S (fun vs H Q E h => h.1) (fun A outer s H vs Q E hr h => ?_)
  have hpl : ps.length ≤ N.length := by have := congrArg List.length S.pre; rw [List.length_take] at this; omega
  obtain ⟨F, hT, hF⟩ := body_sem hpl h
  exact ⟨_, hb (cxOf (L2N.CX P w) P w K mg base N qual scope f cdv A outer s H E) E F hT (bcx_of hr), hF⟩
end RX
set_option maxHeartbeats 4000000
/-! A lambda handed to a def: what its call does in any frame, its exceptions told with their context. -/
namespace RX
open PySem PySem.Spec PyProof.Rows L2 LamX
/-- where the lambda's body runs: as the library has it, another wish about exceptions -/
def lamN (X : Cx) (A : Around) (outer : List Env) (s : Shared) (H : Hp) (E : XK) (scope : Scope) (f c' : Addr) : Cx :=
  let le := lamEnv X scope s.heap.objs.size f c'
  let out : Value → Shared → Prop := fun e s'' => L2N.CX X.prog X.w outer H s E e s''
  (lamCx X A outer s H E scope f c').wish fun e s' => wpAny (model X.prog X.w) (A.deeper le) (leaving le e) (fun _ => out e) out s'
/-- the object of the lambda that X's text makes -/
abbrev lamO (X : Cx) (params : Arguments) (body : Expr) (scope : Scope) (pm ctv : Value) (c' : Addr) : Obj :=
  PySem.W.kla_obj "<lambda>" (X.env.qual ++ "<lambda>") params body scope (cloFrom X.env.cells scope.names []) pm c' ctv
abbrev lamQ (X : Cx) : Str := X.env.qual ++ "<lambda>"
/-- it takes no argument -/
abbrev Bare (params : Arguments) (body : Expr) (scope : Scope) : Prop := ∀ (q : Str) (cl : List (Str × Addr)) (m c t : Value), bindArgs (PySem.W.kla_fn "<lambda>" q params body scope cl m c t) ⟨[], []⟩ = pure []
section
variable {X : Cx} {pins : List (Addr × Obj)} {σ : L2.St} {H Hn : Hp} {s sn : Shared} {params : Arguments} {body : Expr} {scope : Scope} {pm ctv : Value} {f c' : Addr} {k : Nat} {E : XK} {tb : TE} {Q : VK}
/-- the call, from any frames outer, later than the making -/
theorem lam_run (I : Inv X pins σ H s) (L : LamS X.env.scope scope) (hB : Bare params body scope) {A : Around} {outer : List Env} (e0 : Env0 X.prog X.w X.K X.mg X.base A outer sn Hn) (hr : Room (k + 1) A) (lim : sn.heap.NoLimit) (un : Un (frs X.stack) [] H Hn s.heap sn.heap)
    (hf : sn.heap.get? f = some (lamO X params body scope pm ctv c')) (hc : HOk X.prog X.w Hn sn.heap) (hcc : Hn c' = some (CodeO c' (lamQ X)))
    (hb : ∀ (A : Around) (outer : List Env) (s : Shared) (H : Hp), Room k (A.deeper (lamEnv X scope s.heap.objs.size f c')) → PE (lamN X A outer s H E scope f c') body tb) (ht : tb σ Hn Q) :
    codeAny (model X.prog X.w) A (.call (.ref f) ⟨[], []⟩) (CR (L2N.CX X.prog X.w) outer X.prog X.w Hn sn Q E) sn := by
  obtain ⟨⟨oc, vs, t, w1, w2, w3⟩, -, -⟩ := hc c' _ hcc
  apply PySem.W.kla_callFunE hr.depth hf rfl L.co L.gen rfl ⟨c', oc, vs, t, rfl, w1, w2, w3⟩
  rw [hB]
  apply wpAny_pure
  apply wpAny_newFunctionEnv (fun y hy => (L.own y hy).2) (fun y hy => absurd hy List.not_mem_nil) _ L.kind
  intro hp ns sb
  have old : ∀ b o, sn.heap.get? b = some o → hp.get? b = some o := by
    intro b o q
    exact sb.extBut b o (Nat.ne_of_lt (Heap.lt_size q)) (Heap.get?_push_of_some _ q)
  refine ⟨lim.fresh _ sb, ?_⟩
  have J0 := lam_start2 (tk := sn.toks + ([] : List (Str × Value)).length) (f := f) (c' := c') (E := E) I L e0 hr.hd un ns old
  have run := (hb A outer sn Hn (hr.deeper _)).run [] _ _ Hn Q (J0.wish _) ht
  refine PySem.W.kla_codeExpr (wpAny_mono run ?_ fun _ _ q => q)
  rintro v s2 ⟨w, H2, J2, rv, q⟩
  exact ⟨w, H2, J2.os, J2.bare, J2.base, J2.hok, rv, q⟩
end
/-- the frame of the def that calls what it got, entered at s with H -/
abbrev inDef (X : Cx) (CXg : CXT) (Eg : XK) (Ng : List Str) (qg : Str) (sg : Scope) (g : Addr) (cdg : Value) (s : Shared) (H : Hp) : Cx := cxOf CXg X.prog X.w X.K X.mg X.base Ng qg sg g cdg X.A X.stack s H Eg
section
variable {X : Cx} {pins : List (Addr × Obj)} {σ : L2.St} {H : Hp} {s : Shared} {params : Arguments} {body : Expr} {scope : Scope} {pm ctv : Value} {f c' : Addr} {k i : Nat} {E Eg : XK} {tb : TE} {CXg : CXT} {Ng : List Str} {qg a : Str} {sg : Scope} {g : Addr} {cdg : Value} {pn : List (Addr × Obj)} {xe : Value → Shared → Prop} {W : WX} {p1 p2 : Pos}
theorem pe_actN (I : Inv X pins σ H s) (L : LamS X.env.scope scope) (hB : Bare params body scope) (hf : s.heap.get? f = some (lamO X params body scope pm ctv c')) (hn : H f = none) (hfr : f ∉ frs X.stack)
    (tk : L2N.Takes ((inDef X CXg Eg Ng qg sg g cdg s H).tr pn xe) W) (hW : ∀ c d τ H', E c d H' → W c d τ H') (hr : Room (k + 1) (X.A.deeper (envOfC qg sg s.heap.objs.size g cdg)))
    (hb : ∀ (A : Around) (outer : List Env) (s : Shared) (H : Hp), Room k (A.deeper (lamEnv X scope s.heap.objs.size f c')) → PE (lamN X A outer s H E scope f c') body tb)
    (hN : Ng[i]? = some a) (hv : Vis sg a) (d1 : (a == ("__debug__" : Str)) = false) (d2 : (a == ("__classdict__" : Str)) = false) :
    PE ((inDef X CXg Eg Ng qg sg g cdg s H).tr pn xe) (.Call (.Name a p1) [] [] p2) fun τ Hn R => τ[i]? = some (some (.ref f)) ∧ Hn c' = some (CodeO c' (lamQ X)) ∧ tb σ Hn R := by
  constructor
  rintro pinsZ sZ τ Hn R IZ ⟨hs, hc, ht⟩
  have nm := (pe_var (X := (inDef X CXg Eg Ng qg sg g cdg s H).tr pn xe) (pos := p1) (i := i) hN hv d1 d2).run pinsZ sZ τ Hn (fun v H1 => v = .ref f ∧ H1 = Hn) IZ ⟨.ref f, hs, rfl, rfl⟩
  refine wpAny_Call_Name_kw (thn nm ?_)
  rintro u s1 ⟨v, H1, I1, r1, rfl, rfl⟩
  cases (show u = Value.ref f from r1)
  have hf1 : s1.heap.get? f = some (lamO X params body scope pm ctv c') := I1.base.keep f _ hf hn hfr fun z => by cases (show f ∈ ([] : List Addr) from z)
  refine PySem.W.callWith_F0 ⟨_, _, _, _, hf1⟩ (wpAny_call (codeAny_mono (lam_run (E := E) (Q := R) I L hB I1.env0 hr I1.nolimit I1.base hf1 I1.hok hc hb ht) ?_))
  rintro (e | fl) s' hq
  · exact L2N.passes_call tk hW pinsZ τ _ s1 _ s' I1 hq
  · cases fl with
    | ret u => exact I1.after hq
    | next => exact hq.elim
    | brk => exact hq.elim
    | cont => exact hq.elim
end
/-- what the def makes of the lambda: TT, told by its own body bg (a: its parameter) -/
def GivesN (X : Cx) (Ng : List Str) (x : Str) (sg : Scope) (g : Addr) (cdg : Value) (bg : List Stmt) (a : Str) (q : Str) (TT : (XK → Hp → VK → Prop) → Hp → VK → Prop) : Prop :=
  ∀ (f c' : Addr) (s : Shared) (H : Hp) (Q : VK) (tl : XK → Hp → VK → Prop),
    (∀ (W : WX) (pn : List (Addr × Obj)) (xe : Value → Shared → Prop) (E : XK) (p1 p2 : Pos), L2N.Takes ((inDef X C8.CX0 C8.E0 Ng x sg g cdg s H).tr pn xe) W → (∀ c d τ H', E c d H' → W c d τ H') →
      PE ((inDef X C8.CX0 C8.E0 Ng x sg g cdg s H).tr pn xe) (.Call (.Name a p1) [] [] p2) fun τ Hn R => τ[0]? = some (some (.ref f)) ∧ Hn c' = some (CodeO c' q) ∧ tl E Hn R) →
    H c' = some (CodeO c' q) → TT tl H Q →
    ∃ t, PSs (inDef X C8.CX0 C8.E0 Ng x sg g cdg s H).nox bg t ∧ t { nx := fun _ H' => Q .non H', rt := Q } (L2.start Ng [.ref f]) H
section
variable {X : Cx} {T : List (Addr × Str)} {TT : (XK → Hp → VK → Prop) → Hp → VK → Prop} {x a : Str} {g c P : Addr} {k : Nat} {pg : Arguments} {bg : List Stmt} {sg : Scope} {dV kV doc pm cdv ct oc : Value} {an od : Option Addr} {osl : Array (Option Value)} {Ng : List Str}
  {params : Arguments} {body : Expr} {scope : Scope} {t : XK → TE} {p lpos pos : Pos}
/-- x(lambda: body), x the def that calls it -/
theorem pe_lamN (hg : Gl X x) (hm : X.mg x = some (.ref g)) (hk : PySem.W.keepIn X.K (.ref g) = true) (lk : X.K.lookup g = some ⟨oc, od, .func (PySem.W.fnOf x x pg bg sg dV kV doc pm an cdv ct), osl⟩) (hcg : PySem.W.codeIn X.K cdv x = true)
    (hb : L2.Binds X.K (PySem.W.fnOf x x pg bg sg dV kV doc pm an cdv ct) [a] []) (Sg : FnScope Ng [a] sg) (hNg : Ng[0]? = some a) (hva : Vis sg a) (hG : GivesN X Ng x sg g cdv bg a (lamQ X) TT) (TB : TabB X.base X.mg c P) (hcode : X.env.code = .ref c) (hmT : (P, lamQ X) ∈ T)
    (hu : ∀ q ∈ T, q.1 = P → q.2 = lamQ X) (hr : Room (k + 2) X.A) (L : LamS X.env.scope scope) (hdef : defaultsOf params X.env = ([], [])) (hB : Bare params body scope)
    (hbody : ∀ (A : Around) (outer : List Env) (s : Shared) (H : Hp) (E : XK) (f c' : Addr), Room k (A.deeper (lamEnv X scope s.heap.objs.size f c')) → PE (lamN X A outer s H E scope f c') body (t E))
    (d0 : (x == ("__debug__" : Str)) = false) (d1 : (a == ("__debug__" : Str)) = false) (d2 : (a == ("__classdict__" : Str)) = false) : PE X (.Call (.Name x p) [.Lambda params body scope lpos] [] pos) (tLam T TT t) := by
  constructor
  rintro pins s σ H Q I ⟨hT, h⟩
  refine wpAny_Call_Name_kw (ld_glob I hg hm (PySem.W.callWith_K (h₀ := X.base) I.ok.mod.kin hk ?_ (by rfl) (by rfl)) d0)
  show wpAny _ _ (spliced ((false, eval (.Lambda params body scope lpos) X.env) :: backTo pos (starEach [] X.env))) _ _ s
  apply Calls.spliced_cons
  apply lam_make2 I TB hcode hmT hu hT hdef (L.has I.ok)
  intro f c' pm' ctv H1 s1 I1 eN T1 hf hn hfr hco
  refine Calls.spliced_nil ⟨I1.kIn, wpAny_call (codeAny_mono (run_ofS (CX := C8.CX0) (Q := Q) (E := C8.E0) (H := H1) (N := Ng) (ps := [a]) (us := [.ref f]) (vs := [.ref f]) lk hcg Sg hr I1.env0 (hb s1 [.ref f] I1.kIn rfl) (.cons rfl .nil) rfl fun hr' => ?_) ?_)⟩
  · obtain ⟨t', ht', hq'⟩ := hG f c' s1 H1 Q (fun E H' R => t E σ H' R) (fun W pn xe E p1 p2 tk hW => pe_actN (i := 0) I1 L hB hf hn hfr tk hW hr' (fun A outer s H r2 => hbody A outer s H E f c' r2) hNg hva d1 d2) hco (h H1 eN T1)
    exact ⟨t', ht'.nox, hq'⟩
  · rintro (e | fl) s2 hq
    · exact (show False from hq).elim
    · cases fl with
      | ret u => exact I1.after hq
      | next => exact hq.elim
      | brk => exact hq.elim
      | cont => exact hq.elim
end
end RX
set_option maxHeartbeats 4000000
namespace RX
open PySem L2
variable {G : GC} {X : Cx} {F : FC} {W : WX}

/-! ### what is known where a def's text stands -/
/-- what a def makes of the end of the lambda that it calls within try: a text, a text for each class -/
abbrev Er := Str × List (Str × Str)
structure Gam where
  N : List Str
  sc : Scope
  cells : List Str
  fns : List (Str × Fn × Nat)
  ers : List (Str × Er)
  con : List (Str × PV)
  exs : List Str
  free : List Str
  xt : List Str
def lkp {α : Type} : List (Str × α) → Str → Option α
  | [], _ => none
  | (y, a) :: r, x => bif decide (y = x) then some a else lkp r x
def has : List Str → Str → Bool
  | [], _ => false
  | y :: r, x => decide (y = x) || has r x
def ixOf : List Str → Str → Option Nat
  | [], _ => none
  | y :: r, x => bif decide (y = x) then some 0 else (ixOf r x).map (· + 1)
theorem ixOf_ok : ∀ {l : List Str} {x : Str} {i : Nat}, ixOf l x = some i → l[i]? = some x
  | y :: r, x, i, h => by
    unfold ixOf at h
    cases e : decide (y = x) with
    | true => rw [e] at h; cases h; rw [decide_eq_true_eq] at e; subst e; rfl
    | false =>
      rw [e] at h
      simp only [cond_false] at h
      cases q : ixOf r x with
      | none => rw [q] at h; cases h
      | some j => rw [q] at h; cases h; simpa using ixOf_ok q
theorem has_mem : ∀ {l : List Str} {x : Str}, has l x = true → x ∈ l
  | y :: r, x, h => by
    unfold has at h
    rw [Bool.or_eq_true, decide_eq_true_eq] at h
    rcases h with h | h
    · subst h; exact .head _
    · exact .tail _ (has_mem h)
def visB (g : Gam) (x : Str) : Bool := (match g.sc.names.lookup x with
  | some .local => true
  | some .cell => true
  | some .free => true
  | _ => false) && !(x == ("__debug__" : Str)) && !(x == ("__classdict__" : Str))
def glB (g : Gam) (x : Str) : Bool := (match g.sc.names.lookup x with
  | some .globalImplicit => true
  | _ => false) && !(x == ("__debug__" : Str)) && !(x == ("__name__" : Str))
/-- a def that calls the lambda it gets, within try: what comes of the lambda's end -/
def TTer (mg : Str → Option Value) (T : Tl) (h : Er) : (XK → Hp → VK → Prop) → Hp → VK → Prop := fun tl H Q =>
  tl (fun cls d H' => d = none ∧ LamX.Tabs T H' ∧ ∃ k C w, mg k = some (.ref C) ∧ cls = .ref C ∧ lkp h.2 k = some w ∧ ∀ H2, LamX.ExtN H' H2 → LamX.Tabs T H2 → Q (.str w) H2) H (fun _ H' => Q (.str h.1) H')
structure LamOk (X : Cx) (fns : List (Str × Fn × Nat)) (x : Str) (h : Er) (T : Tl) : Prop where
  ok : ∃ (a : Str) (g c P : Addr) (k : Nat) (pg : Arguments) (bg : List Stmt) (sg : Scope) (dV kV doc pm cdv ct oc : Value) (an od : Option Addr) (osl : Array (Option Value)) (Ng : List Str),
    X.mg x = some (.ref g) ∧ PySem.W.keepIn X.K (.ref g) = true ∧ X.K.lookup g = some ⟨oc, od, .func (PySem.W.fnOf x x pg bg sg dV kV doc pm an cdv ct), osl⟩ ∧ PySem.W.codeIn X.K cdv x = true ∧ L2.Binds X.K (PySem.W.fnOf x x pg bg sg dV kV doc pm an cdv ct) [a] [] ∧
    FnScope Ng [a] sg ∧ Ng[0]? = some a ∧ Vis sg a ∧ GivesN X Ng x sg g cdv bg a (X.env.qual ++ "<lambda>") (TTer X.mg T h) ∧ LamX.TabB X.base X.mg c P ∧ X.env.code = .ref c ∧ (P, X.env.qual ++ "<lambda>") ∈ T ∧ (∀ p ∈ T, p.1 = P → p.2 = X.env.qual ++ "<lambda>") ∧ Room (k + 2) X.A ∧
    (a == ("__debug__" : Str)) = false ∧ (a == ("__classdict__" : Str)) = false ∧ ∀ A, Room k A → ∀ y f n, lkp fns y = some (f, n) → CallOkA X.prog X.w X.K X.mg X.base A T y f n
theorem LamOk.blk {X : Cx} {fns : List (Str × Fn × Nat)} {x : Str} {h : Er} {T : Tl} (l : LamOk X fns x h T) {s : Shared} {H : Hp} {scope : Scope} {C : Addr} {cl : List (Str × Addr)} {fp : List Addr} : LamOk (X.blk s H scope (compEnvC scope cl C X.env) fp) fns x h T := ⟨l.ok⟩
structure Ok (X : Cx) (W : WX) (g : Gam) (F : FC) : Prop where
  N : X.N = g.N
  nd : X.N.Nodup
  sc : X.env.scope = g.sc
  calm : X.calm = true
  cells : ∀ x, x ∈ g.cells → X.fn x = true
  un : X.A.units + 66 < cLine
  tk : L2N.Takes X W
  fns : ∀ x f n, lkp g.fns x = some (f, n) → CallOk X F.tl x f n
  con : ∀ x p, lkp g.con x = some p → ∃ v u, X.mg x = some u ∧ RelV v u ∧ ∀ B O H, Rep (gOf X) B O H v p
  free : ∀ x, x ∈ g.free → X.mg x = none
  lam : ∀ x h, lkp g.ers x = some h → LamOk X g.fns x h F.tl
theorem Ok.same {X : Cx} {W : WX} {g : Gam} {F F' : FC} (k : Ok X W g F) (h : F'.tl = F.tl) : Ok X W g F' := ⟨k.N, k.nd, k.sc, k.calm, k.cells, k.un, k.tk, fun x f n q => by rw [h]; exact k.fns x f n q, k.con, k.free, fun x e q => by rw [h]; exact k.lam x e q⟩
variable {g : Gam}
theorem vis_of (k : Ok X W g F) {x : Str} (h : visB g x = true) : Vis X.env.scope x ∧ (x == ("__debug__" : Str)) = false ∧ (x == ("__classdict__" : Str)) = false := by
  unfold visB at h
  rw [Bool.and_eq_true, Bool.and_eq_true, Bool.not_eq_true', Bool.not_eq_true'] at h
  obtain ⟨⟨h, h2⟩, h3⟩ := h
  refine ⟨?_, h2, h3⟩
  unfold Vis
  rw [k.sc]
  split at h <;> first | (rename_i e; simp [e]; done) | cases h
theorem gl_of (k : Ok X W g F) {x : Str} (h : glB g x = true) : Gl X x ∧ (x == ("__debug__" : Str)) = false ∧ x ≠ "__name__" := by
  unfold glB at h
  rw [Bool.and_eq_true, Bool.and_eq_true, Bool.not_eq_true', Bool.not_eq_true'] at h
  obtain ⟨⟨h, h2⟩, h3⟩ := h
  refine ⟨?_, h2, fun e => by rw [e] at h3; cases h3⟩
  unfold Gl Env.kindOf
  rw [k.sc]
  split at h
  · assumption
  · cases h
/-- the scope of a comprehension's block -/
def cellK : NameKind → Bool
  | .cell => true
  | _ => false
def Gam.blk (g : Gam) (scope : Scope) : Gam := { g with sc := relS scope g.sc, cells := (scope.names.filter fun y => cellK y.2).map (·.1) }
theorem takes0 : L2N.Takes X W0 := fun u s' ⟨_, _, _, _, _, _, _, _, _, _, _, _, _, _, _, _, w⟩ => False.elim w
theorem Ok.blk (k : Ok X W g F) {scope : Scope} (hu : ∀ y ∈ scope.names, scope.names.lookup y.1 = some y.2) : Blks X scope fun Y => Ok Y W0 (g.blk scope) F := fun s H C cl fp => by
  refine ⟨k.N, k.nd, ?_, k.calm, fun x hx => ?_, k.un, takes0, fun x f n h => ?_, k.con, k.free, fun x h e => ?_⟩
  · show (compEnvC scope cl C X.env).scope = relS scope g.sc
    rw [← k.sc]
    rfl
  · obtain ⟨y, hy, rfl⟩ := List.mem_map.mp hx
    obtain ⟨h1, h2⟩ := List.mem_filter.mp hy
    show (scope.names.lookup y.1 == some .cell) = true
    rw [hu y h1]
    cases e : y.2 with
    | cell => rfl
    | _ => rw [e] at h2; cases h2
  · exact ⟨(k.fns x f n h).dbg, (k.fns x f n h).ok⟩
  · exact (k.lam x h e).blk
end RX
set_option maxHeartbeats 4000000
namespace RX
open PySem L2
variable {X : Cx} {F : FC} {W : WX} {G : GC} {B : Option Addr} {O : Addr → Prop} {H : Hp}
/-! ### tuples whose object is known -/
mutual
def nrm : PV → PV
  | .tup xs => .tup (nrmL xs)
  | .lst xs => .lst (nrmL xs)
  | .xt xs => .tup (nrmL xs)
  | x => x
def nrmL : List PV → List PV
  | [] => []
  | x :: r => nrm x :: nrmL r
end
theorem rep_nrm {v : V} {x : PV} (h : Rep G B O H v x) : Rep G B O H v (nrm x) := by
  refine Rep.rec (motive_1 := fun v x _ => Rep G B O H v (nrm x)) (motive_2 := fun v x _ => Reps G B O H v (nrmL x)) ?_ ?_ ?_ ?_ ?_ ?_ ?_ ?_ ?_ ?_ ?_ ?_ h
  · exact .non
  · exact .bl
  · exact .int
  · exact .str
  · exact .ty
  · exact fun h n _ ih => .tup h n ih
  · exact fun h n _ ih => .lst h n ih
  · exact fun h n _ ih => .tup (.inl (.inr ⟨_, h⟩)) (fun z => absurd z n) ih
  · exact fun h => .box h
  · exact fun h => .gl h
  · exact .nil
  · exact fun _ _ a b => .cons a b
theorem reps_nrm {vs : List V} {xs : List PV} (h : Reps G B O H vs xs) : Reps G B O H vs (nrmL xs) := by
  induction vs generalizing xs with
  | nil => cases h; exact .nil
  | cons v vs ih => cases h with | cons a b => exact .cons (rep_nrm a) (ih b)
theorem rb_nrm {v : V} {x : PV} (h : RB G B O H v x) : RB G B O H v (nrm x) := by
  rcases h with h | ⟨p, vs, xs, rfl, rfl, h1, h2, h3⟩
  · exact .inl (rep_nrm h)
  · exact .inr ⟨p, vs, nrmL xs, rfl, rfl, h1, h2, reps_nrm h3⟩
def dNrm (a : E) : E := bindE a fun x => dC (nrm x)
theorem pd_nrm {e : Expr} {a : E} (h : PE X e (tD G F W a)) : PE X e (tD G F W (dNrm a)) :=
  PE.imp h fun σ H Q ⟨env, cup, S, q⟩ => ⟨env, cup, S, post_bind q fun x c1 v H1 S1 e1 p1 q1 => q1 v H1 S1 ExE.refl (rep_nrm p1)⟩
theorem pdb_nrm {e : Expr} {a : E} (h : PE X e (tDB G F W a)) : PE X e (tDB G F W (dNrm a)) :=
  PE.imp h fun σ H Q ⟨env, cup, S, q⟩ => ⟨env, cup, S, post_bind q fun x c1 v H1 S1 e1 p1 q1 => q1 v H1 S1 ExE.refl (rb_nrm p1)⟩
/-- such an object -/
abbrev tupO' (its : Array Value) (n : Nat) : Obj := { cls := .type "tuple", dict := none, data := .seq its n, slots := #[] }
theorem call_tupleX : CallR X (.type "tuple") (fun xs H Q => ∃ p ys, xs = [.ref p] ∧ SqL X.K H p ys ∧ ∀ l its n, H l = none → Q (.ref l) (upd H l (.frz (tupO' its n) (.tup ys)))) := by
  intro pins s σ H xs us Q I r ⟨p, ys, e, hq, q⟩
  subst e
  obtain ⟨u, rfl, rx⟩ := vals1 r
  cases rx
  obtain ⟨its, r', pl, hz⟩ := I.list hq
  have hlen := r'.length
  refine call_tuple_list pl.isList (fun h' kp => ?_) (by simp only [List.size_toArray] <;> omega)
  have I1 : Inv X pins σ H { s with heap := h' } := I.kept (t' := s.toks) kp
  refine ⟨.ref h'.objs.size, _, I1.laid (t' := s.toks) (fun b o e => Heap.get?_push_of_some _ e) (Nat.le_refl _) (o := .frz (tupO' its.toArray 0) (.tup ys)) ⟨Heap.get?_push_size _ rfl, hz, its, r', PyProof.Rows.IsTup.new _ _⟩, rfl, q _ _ _ (I1.hok.fresh (Nat.le_refl _))⟩
def bXt : List PV → Option PV
  | [.lst xs] => some (.xt xs)
  | _ => none
theorem bf_xt : BF X (.type "tuple") bXt := by
  intro B pins s σ H vs us Q I r ⟨O, xs, z, rs, hf, t, k⟩
  unfold bXt at hf
  split at hf
  · cases hf
    obtain ⟨v, rfl, h⟩ := rs.one
    obtain ⟨a, ws, rfl, h1, h2⟩ := h.lst_of
    refine call_tupleX pins s σ H _ us Q I r ⟨a, ws, rfl, SqL.of h1, fun l its n hl => k _ _ (Evl.Ex.new hl) (.xt upd_same (fun z => ?_) (reps_kp (Kp.of_ex (Evl.Ex.new hl)) h2))⟩
    obtain ⟨o, e, _⟩ := t l z
    rw [hl] at e
    cases e
  · cases hf
end RX
set_option maxHeartbeats 4000000
/-! sorted of tuples that unlike ints at their heads tell apart. -/
namespace RX
open PySem L2
/-! ### the order -/
theorem lexL_irr : ∀ x, HT.lexLt x x = false
  | [] => rfl
  | a :: r => by
    show (if a = a then HT.lexLt r r else _) = false
    rw [if_pos rfl, lexL_irr r]
/-- sorted and strictly sorted, of the same items: the same -/
theorem sorted_uniq {α : Type} {lt : α → α → Bool} : ∀ {m l : List α}, l.Perm m → l.Pairwise (fun x y => lt y x = false) → m.Pairwise (fun x y => lt x y = true) → l = m
  | [], l, hp, _, _ => List.Perm.eq_nil hp
  | b :: t, l, hp, hl, hm => by
    cases l with
    | nil => exact absurd hp.length_eq (by simp)
    | cons a r =>
      have hab : a = b := by
        by_cases e : a = b
        · exact e
        · exfalso
          have ha : a ∈ b :: t := hp.mem_iff.mp (.head _)
          have hb : b ∈ a :: r := hp.mem_iff.mpr (.head _)
          have h1 : lt b a = true := by
            cases ha with
            | head => exact absurd rfl e
            | tail _ ha => exact (List.pairwise_cons.mp hm).1 a ha
          have h2 : lt b a = false := by
            cases hb with
            | head => exact absurd rfl e
            | tail _ hb => exact (List.pairwise_cons.mp hl).1 b hb
          rw [h1] at h2
          cases h2
      subst hab
      rw [sorted_uniq (List.Perm.cons_inv hp) (List.pairwise_cons.mp hl).2 (List.pairwise_cons.mp hm).2]
/-! ### what is asked of two tuples -/
inductive SIt where
  | i (n : Int) | t (ns : List Int)
def SIt.fl : SIt → List Int
  | .i n => [n]
  | .t ns => ns
/-- all the ints, one after the other -/
def flI (l : List SIt) : List Int := l.flatMap SIt.fl
def cmpI : List SIt → List SIt → Option Bool
  | .i a :: r, .i b :: t => if a = b then cmpI r t else some (decide (a < b))
  | .t a :: r, .t b :: t => if a = b then cmpI r t else if a.length = b.length then some (HT.lexLt a b) else none
  | _, _ => none
theorem lexL_app : ∀ (a : List Int) (x y : List Int), HT.lexLt (a ++ x) (a ++ y) = HT.lexLt x y
  | [], _, _ => rfl
  | n :: a, x, y => by
    show (if n = n then HT.lexLt (a ++ x) (a ++ y) else _) = _
    rw [if_pos rfl, lexL_app a]
theorem lexL_ne : ∀ {a b : List Int} (x y : List Int), a.length = b.length → a ≠ b → HT.lexLt (a ++ x) (b ++ y) = HT.lexLt a b
  | [], [], _, _, _, h => absurd rfl h
  | [], _ :: _, _, _, h, _ => by cases h
  | _ :: _, [], _, _, h, _ => by cases h
  | n :: a, m :: b, x, y, h, e => by
    show (if n = m then HT.lexLt (a ++ x) (b ++ y) else decide (n < m)) = if n = m then HT.lexLt a b else decide (n < m)
    by_cases q : n = m
    · rw [if_pos q, if_pos q]
      exact lexL_ne x y (by simpa using h) fun z => e (by rw [q, z])
    · rw [if_neg q, if_neg q]
theorem cmpI_ok : ∀ {x y : List SIt} {b : Bool}, cmpI x y = some b → b = HT.lexLt (flI x) (flI y)
  | .i n :: r, .i m :: t, b, h => by
    simp only [cmpI] at h
    show b = if n = m then HT.lexLt (flI r) (flI t) else decide (n < m)
    by_cases q : n = m
    · rw [if_pos q] at h ⊢
      exact cmpI_ok h
    · rw [if_neg q] at h ⊢
      cases h
      rfl
  | .t a :: r, .t c :: t, b, h => by
    simp only [cmpI] at h
    show b = HT.lexLt (a ++ flI r) (c ++ flI t)
    by_cases q : a = c
    · rw [if_pos q] at h
      rw [q, lexL_app]
      exact cmpI_ok h
    · rw [if_neg q] at h
      by_cases l : a.length = c.length
      · rw [if_pos l] at h
        cases h
        exact (lexL_ne _ _ l q).symm
      · rw [if_neg l] at h
        cases h
  | .i _ :: _, .t _ :: _, _, h => by cases h
  | .t _ :: _, .i _ :: _, _, h => by cases h
  | [], _, _, h => by cases h
  | .i _ :: _, [], _, h => by cases h
  | .t _ :: _, [], _, h => by cases h
def ItV (h : Heap) (v : Value) : SIt → Prop
  | .i n => ∃ t, v = .int n t
  | .t ns => ∃ a items, v = .ref a ∧ PyProof.Rows.IsTup h a items ∧ PyProof.Rows.IntsAre items.toList ns
/-- the first items -/
inductive Pre (h : Heap) : List Value → List SIt → Prop
  | nil (us : List Value) : Pre h us []
  | cons {u : Value} {us : List Value} {e : SIt} {es : List SIt} : ItV h u e → Pre h us es → Pre h (u :: us) (e :: es)
theorem ints_at : ∀ {us : List Value} {ns : List Int}, PyProof.Rows.IntsAre us ns → us.length = ns.length ∧ ∀ j (h1 : j < us.length) (h2 : j < ns.length), ∃ t, us[j] = .int ns[j] t
  | _, _, .nil => ⟨rfl, fun j h => by simp at h⟩
  | _, _, .cons (ns := ns) (n := n) t r => by
    obtain ⟨h1, h2⟩ := ints_at r
    refine ⟨by simp [h1], fun j g1 g2 => ?_⟩
    cases j with
    | zero => exact ⟨_, rfl⟩
    | succ j => simpa using h2 j (by simpa using g1) (by simpa using g2)
section
variable {prog : Program} {w : World} {A : Around} {s : Shared}
theorem tup_fun {h : Heap} {l : Addr} {items items2 : Array Value} (hl : PyProof.Rows.IsTup h l items) (hb : PyProof.Rows.IsTup h l items2) : items = items2 := by
  obtain ⟨o, ho, hc, n, hd⟩ := hl
  obtain ⟨o2, ho2, hc2, n2, hd2⟩ := hb
  cases ho.symm.trans ho2
  have q := hd.symm.trans hd2
  injection q
theorem ints_fun : ∀ {us : List Value} {ns ms : List Int}, PyProof.Rows.IntsAre us ns → PyProof.Rows.IntsAre us ms → ns = ms
  | _, _, _, .nil, .nil => rfl
  | _, _, _, .cons n t r, h => by
    cases h with
    | cons _ _ r' => rw [ints_fun r r']
theorem ItV.det {h : Heap} {v : Value} : ∀ {e e' : SIt}, ItV h v e → ItV h v e' → e = e'
  | .i n, .i m, ⟨t, h1⟩, ⟨t', h2⟩ => by rw [h1] at h2; cases h2; rfl
  | .i n, .t m, ⟨t, h1⟩, ⟨_, _, h2, _⟩ => by rw [h1] at h2; cases h2
  | .t n, .i m, ⟨_, _, h2, _⟩, ⟨t, h1⟩ => by rw [h1] at h2; cases h2
  | .t n, .t m, ⟨a, i, h1, h2, h3⟩, ⟨a', i', g1, g2, g3⟩ => by
    rw [h1] at g1
    cases g1
    have := tup_fun h2 g2
    subst this
    rw [ints_fun h3 g3]
theorem Pre.none {h : Heap} : ∀ {us : List Value} {x y : List SIt}, Pre h us x → Pre h us y → cmpI x y = none
  | _, _, _, .nil _, _ => by simp [cmpI]
  | _, _, _, .cons a r, .nil _ => by rename_i e es; cases e <;> simp [cmpI]
  | _, _, _, .cons a r, .cons b q => by
    have := ItV.det a b
    subst this
    rename_i e es es'
    cases e with
    | i n => simp only [cmpI, if_true]; exact r.none q
    | t n => simp only [cmpI, if_true]; exact r.none q
theorem tup_eqIn {l b : Addr} {items items2 : Array Value} {ns ms : List Int} (hl : PyProof.Rows.IsTup s.heap l items) (hb : PyProof.Rows.IsTup s.heap b items2) (hi : PyProof.Rows.IntsAre items.toList ns) (hj : PyProof.Rows.IntsAre items2.toList ms) (hn : ns.length = ms.length ∨ ns = ms) (hu : A.units < cLine) :
    SeqAt.EqIn prog w A s (.ref l) (.ref b) (decide (ns = ms)) := by
  have hn : ns.length = ms.length := hn.elim id fun e => by rw [e]
  obtain ⟨l1, g1⟩ := ints_at hi
  obtain ⟨l2, g2⟩ := ints_at hj
  by_cases e : l = b
  · subst e
    have q := tup_fun hl hb
    subst q
    have : ns = ms := by
      apply List.ext_getElem hn
      intro j h1 h2
      obtain ⟨t, e1⟩ := g1 j (by omega) h1
      obtain ⟨t', e2⟩ := g2 j (by omega) h2
      have := e1.symm.trans e2
      injection this
    rw [this, decide_eq_true rfl]
    exact (SeqAt.EqAt.same _).inModel prog w
  · refine SeqAt.EqIn.of_refs e fun E Q hq => ?_
    refine SeqAt.rcIn_tuples (e := fun j => decide (ns[j]? = ms[j]?)) hl hb hu (fun j h1 h2 => ?_) ?_
    · have i1 : j < ns.length := by simpa [← l1] using h1
      have i2 : j < ms.length := by simpa [← l2] using h2
      obtain ⟨t, e1⟩ := g1 j (by simpa using h1) i1
      obtain ⟨t', e2⟩ := g2 j (by simpa using h2) i2
      rw [Array.getElem_toList] at e1 e2
      rw [e1, e2]
      have : decide (ns[j]? = ms[j]?) = (ns[j] == ms[j]) := by
        rw [List.getElem?_eq_getElem i1, List.getElem?_eq_getElem i2, Bool.eq_iff_iff]
        simp
      rw [this]
      exact (SeqAt.EqAt.int_int _ _ _ _).inModel prog w
    · have s1 : items.size = ns.length := by rw [← l1, Array.length_toList]
      have s2 : items2.size = ms.length := by rw [← l2, Array.length_toList]
      have : ((List.range (min items.size items2.size)).all (fun j => decide (ns[j]? = ms[j]?)) && items.size == items2.size) = decide (ns = ms) := by
        rw [s1, s2, hn, Nat.min_self, Bool.eq_iff_iff]
        simp only [beq_self_eq_true, Bool.and_true, List.all_eq_true, List.mem_range, decide_eq_true_eq]
        constructor
        · intro h
          apply List.ext_getElem? 
          intro j
          by_cases hj : j < ms.length
          · exact h j hj
          · rw [List.getElem?_eq_none (by omega), List.getElem?_eq_none (by omega)]
        · intro h j _
          rw [h]
      rw [this]
      exact hq
theorem katV {fin : Bool} {Q : Bool → Shared → Prop} {b : Bool} (hu : A.units < cLine) (hq : Q b s) : ∀ {xs ys : List SIt} {us vs : List Value} {i : Nat}, Pre s.heap us xs → Pre s.heap vs ys → (i = 0 → ∃ n r, xs = .i n :: r) → cmpI xs ys = some b → PySem.W.KatLex prog w A true fin Q (us.zip vs) i s := by
  intro xs
  induction xs with
  | nil => intro ys us vs i h1 h2 h0 h; cases h
  | cons x xs ih =>
    intro ys us vs i h1 h2 h0 h
    cases ys with
    | nil => cases x <;> cases h
    | cons y ys =>
      cases h1 with
      | cons r1 t1 =>
        cases h2 with
        | cons r2 t2 =>
          cases x with
          | i n =>
            cases y with
            | i m =>
              obtain ⟨t, rfl⟩ := r1
              obtain ⟨t', rfl⟩ := r2
              simp only [cmpI] at h
              refine PySem.W.kat_cons (SeqAt.EqAt.int_int n t m t' prog w _ _ ?_)
              refine PySem.W.kat_go (fun e1 => ?_) (fun e1 => ?_)
              · have e : n = m := by simpa using e1
                rw [if_pos e] at h
                exact PySem.W.kat_yes (ih t1 t2 (by omega) h)
              · have e : ¬ n = m := by simpa using e1
                rw [if_neg e] at h
                cases h
                exact PySem.W.kat_no (TS.oneLt_ints _ hq)
            | t m => cases h
          | t n =>
            cases y with
            | i m => cases h
            | t m =>
              obtain ⟨a, ia, rfl, q1, q2⟩ := r1
              obtain ⟨c, ic, rfl, q3, q4⟩ := r2
              simp only [cmpI] at h
              have hi : (i == 0) = false := by
                cases i with
                | zero => obtain ⟨_, _, e⟩ := h0 rfl; cases e
                | succ i => rfl
              by_cases e : n = m
              · rw [if_pos e] at h
                refine PySem.W.kat_cons (tup_eqIn q1 q3 q2 q4 (.inr e) hu _ _ ?_)
                rw [decide_eq_true e]
                exact PySem.W.kat_yes (ih t1 t2 (by omega) h)
              · rw [if_neg e] at h
                by_cases l : n.length = m.length
                · rw [if_pos l] at h
                  cases h
                  refine PySem.W.kat_cons (tup_eqIn q1 q3 q2 q4 (.inl l) hu _ _ ?_)
                  rw [decide_eq_false e]
                  refine PySem.W.kat_no ?_
                  rw [hi, Bool.and_false]
                  exact PySem.W.kat_one _ _ (HT.lt_tupInts q1 q3 q2 q4 hu hq)
                · rw [if_neg l] at h
                  cases h
end
theorem katSame {prog : Program} {w : World} {A : Around} {fin : Bool} {Q : Bool → Shared → Prop} {s : Shared} (hq : Q fin s) : ∀ (us : List Value) (i : Nat), PySem.W.KatLex prog w A true fin Q (us.zip us) i s
  | [], i => PySem.W.kat_nil hq
  | u :: r, i => PySem.W.kat_cons (SeqAt.EqAt.same u prog w _ _ (PySem.W.kat_yes (katSame hq r (i + 1))))
/-- a tuple with an int at its head -/
structure TupV (h : Heap) (v : Value) (els : List SIt) : Prop where
  ex : ∃ (t : Addr) (o : Obj) (us : List Value) (n : Nat), v = .ref t ∧ h.get? t = some o ∧ o.cls = .type "tuple" ∧ o.data = .seq us.toArray n ∧ Pre h us els
  head : ∃ i r, els = .i i :: r
theorem Pre.keeps {h h' : Heap} (k : ∀ b o, h.get? b = some o → o.cls = .type "tuple" → h'.get? b = some o) {us : List Value} {es : List SIt} (p : Pre h us es) : Pre h' us es := by
  induction p with
  | nil => exact .nil _
  | @cons u us e es a _ ih =>
    refine .cons ?_ ih
    cases e with
    | i n => exact a
    | t ns =>
      obtain ⟨b, its, e, ⟨o, ho, hc, hd⟩, hi⟩ := a
      exact ⟨b, its, e, ⟨o, k _ _ ho hc, hc, hd⟩, hi⟩
theorem TupV.keeps {h h' : Heap} {v : Value} {els : List SIt} (t : TupV h v els) (k : ∀ b o, h.get? b = some o → o.cls = .type "tuple" → h'.get? b = some o) : TupV h' v els := by
  obtain ⟨⟨a, o, us, n, e, h1, h2, h3, h4⟩, hd⟩ := t
  exact ⟨⟨a, o, us, n, e, k _ _ h1 h2, h2, h3, h4.keeps k⟩, hd⟩
theorem heads_of {h : Heap} {els : Value → List SIt} : ∀ {vs : List Value}, (∀ v ∈ vs, TupV h v (els v)) → ∃ fs : List Value, PySem.W.KatTups h vs fs ∧ fs.length = vs.length ∧ ∀ f ∈ fs, ∃ x t, f = Value.int x t
  | [], _ => ⟨[], PySem.W.KatTups.nil, rfl, fun _ hm => by cases hm⟩
  | v :: vs, hp => by
    obtain ⟨fs, h1, h2, h3⟩ := heads_of (vs := vs) fun v' hm => hp v' (.tail _ hm)
    obtain ⟨⟨a, o, us, n, e, ho, hc, hd, hv⟩, i, r, he⟩ := hp v (.head _)
    rw [he] at hv
    cases hv with
    | cons r1 t1 =>
      obtain ⟨t, rfl⟩ := r1
      subst e
      refine ⟨.int i t :: fs, PySem.W.KatTups.cons ho hc hd (by simp) h1, by simp [h2], fun f hf => ?_⟩
      cases hf with
      | head => exact ⟨i, t, rfl⟩
      | tail _ hf => exact h3 f hf
section
variable {prog : Program} {w : World} {A : Around} {s : Shared} {E : Value → Shared → Prop}
theorem tup_sortable {a : Addr} {vs : List Value} {k : Value → List Int} {els : Value → List SIt} (hu : A.units < cLine) (h0 : 0 < vs.length) (hp : ∀ v ∈ vs, TupV s.heap v (els v)) (hd : ∀ u ∈ vs, ∀ v ∈ vs, u ≠ v → cmpI (els u) (els v) = some (HT.lexLt (k u) (k v)))
    (ha : ∀ o, s.heap.get? a = some o → o.cls ≠ .type "tuple") : SrtO.SortableO prog w A s a vs fun v u => HT.lexLt (k v) (k u) := by
  intro h' keep
  have hp' : ∀ v ∈ vs, TupV h' v (els v) := fun v hm => (hp v hm).keeps fun b o e c => keep b o (fun z => by subst z; exact ha o e c) e
  obtain ⟨fs, h1, h2, h3⟩ := heads_of hp'
  refine ⟨PyProof.Rows.tuples' true, fun Q E hq => ?_, fun p q hm hm' => ?_⟩
  · refine PySem.W.kat_kind (T := .type "int") h1 (by omega) (fun f hm => ?_) (by rfl) ?_
    · obtain ⟨x, t, rfl⟩ := h3 f hm
      exact PySem.W.Looks.now
    · rw [show (Value.type "int" != Value.type "tuple") = true by first | decide +kernel | rfl | decide]
      exact hq
  · show wpAny (model prog w) A (PyProof.Rows.keyLt' (PyProof.Rows.tuples' true) p.1 q.1) (fun r s' => s' = _ ∧ r = HT.lexLt (k p.1) (k q.1)) (fun _ _ => False) _
    by_cases e : p.1 = q.1
    · rw [e]
      obtain ⟨⟨t, o, us, n, e1, ho, hc, hdd, hv⟩, _⟩ := hp' _ hm'
      rw [e1]
      refine PySem.W.kat_lt ho hdd ho hdd ?_
      exact katSame ⟨rfl, by rw [← e1, lexL_irr]; simp⟩ _ _
    · obtain ⟨⟨t, o, us, n, e1, ho, hc, hdd, hv⟩, i1, r1, z1⟩ := hp' _ hm
      obtain ⟨⟨t2, o2, us2, n2, e2, ho2, hc2, hdd2, hv2⟩, _⟩ := hp' _ hm'
      have := hd _ hm _ hm' e
      rw [z1] at hv this
      rw [e1, e2] at this ⊢
      refine PySem.W.kat_lt ho hdd ho2 hdd2 (katV hu ⟨rfl, rfl⟩ ?_ ?_ (fun _ => ⟨i1, r1, rfl⟩) this)
      · simpa using hv
      · rw [← e2]; simpa using hv2
end
/-! ### sorted(xs) -/
def ItX (K : PySem.W.Frag) (H : Hp) (v : V) : SIt → Prop
  | .i n => v = .int n
  | .t ns => ∃ a, v = .ref a ∧ SqT K H a (ns.map V.int)
inductive PreX (K : PySem.W.Frag) (H : Hp) : List V → List SIt → Prop
  | nil (us : List V) : PreX K H us []
  | cons {u : V} {us : List V} {e : SIt} {es : List SIt} : ItX K H u e → PreX K H us es → PreX K H (u :: us) (e :: es)
def rSrt {α : Type} (k : α → List SIt) (K : PySem.W.Frag) : List V → Hp → VK → Prop := fun vs H Q => ∃ (a : Addr) (ps : List (V × α)), vs = [V.ref a] ∧ SqL K H a (ps.map (·.1)) ∧ (∀ p ∈ ps, ∃ t us, p.1 = V.ref t ∧ SqT K H t us ∧ PreX K H us (k p.2) ∧ (2 ≤ ps.length → ∃ i r, k p.2 = .i i :: r)) ∧
  ps.Pairwise (fun p q => cmpI (k p.2) (k q.2) ≠ none ∧ cmpI (k q.2) (k p.2) ≠ none) ∧ ∀ (qs : List (V × α)) (b : Addr), qs.Perm ps → qs.Pairwise (fun p q => HT.lexLt (flI (k q.2)) (flI (k p.2)) = false) → H b = none → Q (.ref b) (upd H b (.lst (qs.map (·.1))))
theorem pre_of {X : Cx} {pins : List (Addr × Obj)} {σ : L2.St} {H : Hp} {s : Shared} (I : Inv X pins σ H s) {us : List V} {es : List SIt} (p : PreX X.K H us es) : ∀ {its : List Value}, Vals us its → Pre s.heap its es := by
  induction p with
  | nil => intro its _; exact .nil _
  | @cons u us e es a _ ih =>
    intro its r
    cases r with
    | cons r1 r2 =>
      refine .cons ?_ (ih r2)
      cases e with
      | i n =>
        have a : u = .int n := a
        subst a
        exact r1
      | t ns =>
        obtain ⟨b, rfl, hb⟩ := a
        obtain ⟨i2, q1, q2, _⟩ := I.tuple hb
        exact ⟨b, _, r1, q2, intsAre_of q1⟩
def fstOf {α : Type} (d : α) : List (V × α) → V → α
  | [], _ => d
  | p :: r, v => if p.1 = v then p.2 else fstOf d r v
theorem fst_mem {α : Type} {d : α} : ∀ {ps : List (V × α)} {v : V}, v ∈ ps.map (·.1) → (v, fstOf d ps v) ∈ ps
  | p :: r, v, h => by
    unfold fstOf
    by_cases e : p.1 = v
    · rw [if_pos e, ← e]; exact .head _
    · rw [if_neg e]
      refine .tail _ (fst_mem ?_)
      cases h with
      | head => exact absurd rfl e
      | tail _ h => exact h
theorem fst_all {α : Type} {d : α} : ∀ {ps : List (V × α)}, (ps.map (·.1)).Nodup → (ps.map (·.1)).map (fun v => (v, fstOf d ps v)) = ps
  | [], _ => rfl
  | p :: r, h => by
    have h := List.nodup_cons.mp h
    show (p.1, fstOf d (p :: r) p.1) :: (r.map (·.1)).map (fun v => (v, fstOf d (p :: r) v)) = p :: r
    have e1 : fstOf d (p :: r) p.1 = p.2 := by unfold fstOf; rw [if_pos rfl]
    have e2 : (r.map (·.1)).map (fun v => (v, fstOf d (p :: r) v)) = (r.map (·.1)).map (fun v => (v, fstOf d r v)) := by
      apply List.map_congr_left
      intro v hv
      unfold fstOf
      rw [if_neg fun e => h.1 (by show p.1 ∈ _; rw [e]; exact hv)]
      cases r <;> rfl
    rw [e1, e2, fst_all h.2]
theorem pw_both {α : Type} {R : α → α → Prop} (hs : ∀ x y, R x y → R y x) : ∀ {l : List α}, l.Pairwise R → ∀ x ∈ l, ∀ y ∈ l, x ≠ y → R x y
  | z :: r, h, x, hx, y, hy, e => by
    have h := List.pairwise_cons.mp h
    cases hx with
    | head =>
      cases hy with
      | head => exact absurd rfl e
      | tail _ hy => exact h.1 y hy
    | tail _ hx =>
      cases hy with
      | head => exact hs _ _ (h.1 x hx)
      | tail _ hy => exact pw_both hs h.2 x hx y hy e
theorem cr_srt {α : Type} (k : α → List SIt) {X : Cx} (hu : X.A.units + 66 < cLine) : CallR X (.builtin "sorted") (rSrt k X.K) := by
  intro pins s σ H vs us Q I r h
  obtain ⟨a, ps, rfl, hs, hx, hd, q⟩ := h
  obtain ⟨its, rv, hl, hz⟩ := I.list hs
  obtain ⟨u, rfl, ru⟩ := Vals.one r
  obtain rfl : u = Value.ref a := ru
  obtain ⟨e1, e2⟩ := refs_back rv fun x m => by
    obtain ⟨p, hp, rfl⟩ := List.mem_map.mp m
    obtain ⟨t, _, e, _⟩ := hx p hp
    exact ⟨t, e⟩
  have nd : (ps.map (·.1)).Nodup := by
    refine List.pairwise_map.mpr (hd.imp_of_mem fun {p p'} m m' hc e => ?_)
    obtain ⟨t, w, f1, f2, f3, _⟩ := hx p m
    obtain ⟨t', w', g1, g2, g3, _⟩ := hx p' m'
    rw [f1, g1] at e
    cases e
    obtain ⟨i1, v1, t1, _⟩ := I.tuple f2
    obtain ⟨i2, v2, t2, _⟩ := I.tuple g2
    have := congrArg Array.toList (tup_fun t1 t2)
    have : i1 = i2 := by simpa using this
    subst this
    exact hc.1 ((pre_of I f3 v1).none (pre_of I g3 v2))
  cases its with
  | nil =>
    refine SrtO.sorted_ord (ltv := fun _ _ => false) ⟨fun _ _ h => (by cases h), fun _ _ _ _ _ => rfl⟩ hl.isList (by simp) (fun h2 => absurd h2 (by simp)) fun out h1 h2 => ?_
    have ho : out = [] := h2.perm.eq_nil
    subst ho
    have hp0 : ps = [] := by
      have : ps.map (·.1) = [] := by rw [e1]; rfl
      exact List.map_eq_nil_iff.mp this
    subst hp0
    obtain ⟨n, hn⟩ := PyProof.Rows.sortedAll_at s.heap [] (List.toArray [])
    exact ⟨.ref (s.heap.objs.size + 1), upd H (s.heap.objs.size + 1) (.lst []), I.laid (t' := s.toks) (fun b o e => PyProof.Rows.sortedAll_old e) (Nat.le_succ _) ⟨Nat.zero_le _, [], n, .nil, hn⟩, rfl, q [] _ (List.Perm.refl _) .nil (I.hok.fresh (Nat.le_succ _))⟩
  | cons u0 its0 =>
  obtain ⟨d, hd0⟩ : ∃ d : α, d = d := by
    cases ps with
    | nil => cases e1
    | cons p r => exact ⟨p.2, rfl⟩
  let els : Value → α := fun u => fstOf d ps (backV u)
  have inx : ∀ v ∈ u0 :: its0, (backV v, els v) ∈ ps := fun v hv => fst_mem (by rw [e1]; exact List.mem_map.mpr ⟨v, hv, rfl⟩)
  have inj : ∀ u ∈ u0 :: its0, ∀ v ∈ u0 :: its0, u ≠ v → backV u ≠ backV v := fun u hu v hv ne e => by
    obtain ⟨t, rfl⟩ := e2 u hu
    obtain ⟨t', rfl⟩ := e2 v hv
    cases e
    exact ne rfl
  have both : ∀ p ∈ ps, ∀ p' ∈ ps, p ≠ p' → cmpI (k p.2) (k p'.2) ≠ none := by
    exact fun p m p' m' e => (pw_both (fun _ _ h => ⟨h.2, h.1⟩) hd p m p' m' e).1
  refine SrtO.sorted_ord (NtL.swo_lexL fun u => flI (k (els u))) hl.isList (by rw [← rv.length]; exact hz) (fun h2 h₁ b hb kk => ?_) fun out h1 h2 => ?_
  · refine tup_sortable (s := { s with heap := h₁ }) (els := fun u => k (els u)) (show X.A.units + 1 + 1 < cLine by omega) (by omega) (fun v hv => ?_) (fun u hu v hv ne => ?_) fun o e => ?_
    · obtain ⟨t, rfl⟩ := e2 v hv
      obtain ⟨t', w, et, hT, hp, hhd⟩ := hx _ (inx _ hv)
      cases et
      obtain ⟨its2, r2, ⟨o, ho, hc, n, hdd⟩, _⟩ := I.tuple hT
      exact ⟨⟨t, o, its2, n, rfl, (kk t o ho).2, hc, hdd, (pre_of I hp r2).keeps fun b o e _ => (kk b o e).2⟩, hhd (by have := rv.length; rw [List.length_map] at this; omega)⟩
    · have := both _ (inx u hu) _ (inx v hv) fun e => inj u hu v hv ne (congrArg Prod.fst e)
      cases ec : cmpI (k (els u)) (k (els v)) with
      | none => exact absurd ec this
      | some c => rw [cmpI_ok ec]
    · have e' : some o = some (PyProof.Rows.seqObj "list" (u0 :: its0).toArray 0) := e.symm.trans hb
      cases e'
      intro c
      exact absurd (Value.type.inj c) (by decide)
  · have h3 : ∀ u ∈ out, ∃ a, u = Value.ref a := fun u hu => e2 u (h2.perm.mem_iff.mp hu)
    obtain ⟨n, hn⟩ := PyProof.Rows.sortedAll_at s.heap (u0 :: its0) out.toArray
    have hperm : (out.map fun u => (backV u, els u)).Perm ps := by
      have := h2.perm.map fun u => (backV u, els u)
      refine this.trans ?_
      have e3 : (u0 :: its0).map (fun u => (backV u, els u)) = ((u0 :: its0).map backV).map fun v => (v, fstOf d ps v) := by rw [List.map_map]; rfl
      rw [e3, ← e1, fst_all nd]
    have e4 : (out.map fun u => (backV u, els u)).map (·.1) = out.map backV := by rw [List.map_map]; rfl
    have := q _ (s.heap.objs.size + 1) hperm (List.pairwise_map.mpr h1) (I.hok.fresh (Nat.le_succ _))
    rw [e4] at this
    refine ⟨.ref (s.heap.objs.size + 1), upd H (s.heap.objs.size + 1) (.lst (out.map backV)), I.laid (t' := s.toks) (fun b o e => PyProof.Rows.sortedAll_old e) (Nat.le_succ _) ⟨?_, out, n, vals_back h3, hn⟩, rfl, this⟩
    have := hperm.length_eq
    rw [List.length_map] at this
    rw [List.length_map, this, ← List.length_map (f := (·.1)) (as := ps)]
    exact hz

/-! ### by values -/
variable {G : GC} {B : Option Addr} {O : Addr → Prop} {H : Hp} {X : Cx}
def itsP : List PV → List SIt
  | .int n :: r => .i n :: itsP r
  | .tup xs :: r => (match intsOf xs with
    | some ns => .t ns :: itsP r
    | none => [])
  | _ => []
def keyP : PV → List SIt
  | .tup xs => itsP xs
  | _ => []
def headI : List SIt → Bool
  | .i _ :: _ => true
  | _ => false
def insP (x : PV) : List PV → List PV
  | [] => [x]
  | y :: r => bif HT.lexLt (flI (keyP x)) (flI (keyP y)) then x :: y :: r else y :: insP x r
def srtP : List PV → List PV
  | [] => []
  | x :: r => insP x (srtP r)
def cmp2 (x y : PV) : Bool := (match cmpI (keyP x) (keyP y) with
  | some true => true
  | _ => false) && (match cmpI (keyP y) (keyP x) with
  | some false => true
  | _ => false)
def pwP : List PV → Bool
  | [] => true
  | x :: r => r.all (cmp2 x) && pwP r
theorem insP_perm (x : PV) : ∀ l, (insP x l).Perm (x :: l)
  | [] => List.Perm.refl _
  | y :: r => by
    unfold insP
    cases HT.lexLt (flI (keyP x)) (flI (keyP y)) with
    | true => exact List.Perm.refl _
    | false => exact ((insP_perm x r).cons y).trans (List.Perm.swap x y r)
theorem srtP_perm : ∀ l, (srtP l).Perm l
  | [] => List.Perm.refl _
  | x :: r => (insP_perm x _).trans ((srtP_perm r).cons x)
theorem cmp2_ok {x y : PV} (h : cmp2 x y = true) : cmpI (keyP x) (keyP y) = some true ∧ cmpI (keyP y) (keyP x) = some false := by
  unfold cmp2 at h
  rw [Bool.and_eq_true] at h
  constructor
  · have h := h.1
    split at h
    · assumption
    · cases h
  · have h := h.2
    split at h
    · assumption
    · cases h
theorem pwP_ok : ∀ {l}, pwP l = true → l.Pairwise fun x y => cmp2 x y = true
  | [], _ => .nil
  | x :: r, h => by
    unfold pwP at h
    rw [Bool.and_eq_true, List.all_eq_true] at h
    exact List.pairwise_cons.mpr ⟨h.1, pwP_ok h.2⟩
def isTupP : PV → Bool
  | .tup _ => true
  | _ => false
def bSrt : List PV → Option PV
  | [.lst xs] => bif xs.all isTupP && (Nat.ble xs.length 1 || xs.all (fun x => headI (keyP x))) && pwP (srtP xs) then some (.lst (srtP xs)) else none
  | _ => none
theorem pre_its : ∀ {us : List V} {ys : List PV}, Reps G B O H us ys → PreX G.K H us (itsP ys)
  | _, [], .nil => .nil _
  | _, _ :: _, .cons (v := v) (x := x) a b => by
    cases x with
    | int n => cases a; exact .cons rfl (pre_its b)
    | tup xs =>
      unfold itsP
      cases e : intsOf xs with
      | none => exact .nil _
      | some ns =>
        cases a with
        | tup h1 h2 h3 =>
          have hx := intsOf_some e
          subst hx
          have hu := reps_ints h3
          subst hu
          exact .cons ⟨_, rfl, h1⟩ (pre_its b)
    | _ => exact .nil _
theorem reps_zip : ∀ {us : List V} {ys : List PV}, Reps G B O H us ys → (us.zip ys).map (·.1) = us ∧ (us.zip ys).map (·.2) = ys ∧ ∀ p ∈ us.zip ys, Rep G B O H p.1 p.2
  | _, _, .nil => ⟨rfl, rfl, fun p h => by cases h⟩
  | _, _, .cons a b => by
    obtain ⟨h1, h2, h3⟩ := reps_zip b
    refine ⟨by rw [List.zip_cons_cons, List.map_cons, h1], by rw [List.zip_cons_cons, List.map_cons, h2], fun p m => ?_⟩
    rw [List.zip_cons_cons] at m
    cases m with
    | head => exact a
    | tail _ m => exact h3 p m
theorem reps_all : ∀ {l : List (V × PV)}, (∀ p ∈ l, Rep G B O H p.1 p.2) → Reps G B O H (l.map (·.1)) (l.map (·.2))
  | [], _ => .nil
  | _ :: _, h => .cons (h _ (.head _)) (reps_all fun p m => h p (.tail _ m))
theorem bf_srt (hu : X.A.units + 66 < cLine) : BF X (.builtin "sorted") bSrt := by
  intro B pins s σ H vs us Q I r ⟨O, xs, z, rs, hf, t, k⟩
  unfold bSrt at hf
  split at hf
  · rename_i xs
    obtain ⟨v, rfl, h⟩ := rs.one
    obtain ⟨a, ws, rfl, h1, h2⟩ := h.lst_of
    cases ec : (xs.all isTupP && (Nat.ble xs.length 1 || xs.all (fun x => headI (keyP x))) && pwP (srtP xs)) with
    | false => rw [ec] at hf; cases hf
    | true =>
      rw [ec] at hf
      cases hf
      rw [Bool.and_eq_true, Bool.and_eq_true, Bool.or_eq_true, List.all_eq_true, List.all_eq_true] at ec
      obtain ⟨⟨c0, c1⟩, c2⟩ := ec
      have c2 := pwP_ok c2
      obtain ⟨z1, z2, z3⟩ := reps_zip h2
      have pw : xs.Pairwise fun x y => cmpI (keyP x) (keyP y) ≠ none ∧ cmpI (keyP y) (keyP x) ≠ none := by
        refine ((srtP_perm xs).pairwise_iff (fun {x y} h => ⟨h.2, h.1⟩)).mp (c2.imp fun h => ?_)
        obtain ⟨g1, g2⟩ := cmp2_ok h
        rw [g1, g2]
        exact ⟨(fun e => by cases e), (fun e => by cases e)⟩
      refine cr_srt keyP hu pins s σ H _ us Q I r ⟨a, ws.zip xs, rfl, by rw [z1]; exact SqL.of h1, fun p m => ?_, ?_, fun qs b hp hs hb => ?_⟩
      · have hr := z3 p m
        have hm : p.2 ∈ xs := by rw [← z2]; exact List.mem_map.mpr ⟨p, m, rfl⟩
        have hh := c0 _ hm
        have hln : (ws.zip xs).length = xs.length := by have := congrArg List.length z2; rwa [List.length_map] at this
        have hc : 2 ≤ (ws.zip xs).length → headI (keyP p.2) = true := fun h => c1.elim (fun e => by rw [Nat.ble_eq] at e; omega) fun e => e _ hm
        obtain ⟨v, x⟩ := p
        cases x with
        | tup ys =>
          cases hr with
          | tup q1 q2 q3 =>
            refine ⟨_, _, rfl, q1, pre_its q3, fun h2 => ?_⟩
            have hh : headI (itsP ys) = true := hc h2
            cases e : itsP ys with
            | nil => rw [e] at hh; cases hh
            | cons i r =>
              rw [e] at hh
              cases i with
              | i n => exact ⟨n, r, e⟩
              | t _ => cases hh
        | _ => cases hh
      · exact (List.pairwise_map (f := fun p : V × PV => p.2)).mp (by rw [z2]; exact pw)
      · have e1 : qs.map (·.2) = srtP xs := by
          refine sorted_uniq (lt := fun x y => HT.lexLt (flI (keyP x)) (flI (keyP y))) ?_ (List.pairwise_map.mpr hs) (c2.imp fun h => (cmpI_ok (cmp2_ok h).1).symm)
          have := hp.map (·.2)
          rw [z2] at this
          exact this.trans (srtP_perm xs).symm
        have e2 := reps_all fun p m => z3 p (hp.mem_iff.mp m)
        rw [e1] at e2
        exact k _ _ (Evl.Ex.new hb) (rep_newL t hb e2)
  · cases hf
end RX
set_option maxHeartbeats 4000000
namespace RX
open PySem L2
variable {X : Cx} {F : FC} {W : WX} {g : Gam}

/-! ### from the text to what it does -/
structure DD where
  e : Gam → Expr → E
  b : Gam → Expr → E
  t : Gam → Expr → E
  i : Gam → Bool → Expr → Expr → E
  g : Gam → List Nat → Expr → Tg
structure Snd (d : DD) : Prop where
  e : ∀ {X W g F}, Ok X W g F → ∀ e, PE X e (tD (gOf X) F W (d.e g e))
  b : ∀ {X W g F}, Ok X W g F → ∀ e, PE X e (tDB (gOf X) F W (d.b g e))
  t : ∀ {X W g F}, Ok X W g F → ∀ e, PT X e (tDT (gOf X) F W (d.t g e))
  i : ∀ {X W g F}, Ok X W g F → ∀ s tg it, PI X tg it (tDI s (gOf X) F W (d.i g s tg it))
  g : ∀ {X W g F}, Ok X W g F → ∀ vs tg, PG X tg (tG (gOf X) F vs (d.g g vs tg))
def tgNo : Tg := fun _ _ => none
theorem pt_stk {e : Expr} {G : GC} : PT X e (tDT G F W stk) := ⟨fun _ _ _ _ _ _ ⟨_, _, _, q⟩ => False.elim q⟩
theorem pdb_stk {e : Expr} {G : GC} : PE X e (tDB G F W stk) := ⟨fun _ _ _ _ _ _ ⟨_, _, _, q⟩ => False.elim q⟩
theorem pi_stk {tg e : Expr} {G : GC} {s : Bool} : PI X tg e (tDI s G F W stk) := ⟨fun _ _ _ _ _ _ ⟨_, _, _, q⟩ => False.elim q⟩
theorem pa_stk {es : List Expr} {G : GC} : PA X es (tDA G F W stk) := ⟨fun _ _ _ _ _ _ _ ⟨_, _, _, q⟩ => False.elim q⟩
theorem pab_stk {es : List Expr} {G : GC} : PA X es (tDAB G F W stk) := ⟨fun _ _ _ _ _ _ _ ⟨_, _, _, q⟩ => False.elim q⟩
theorem paq_stk {es : List Expr} {G : GC} {s : Bool} : PA X es (tDAQ s G F W stk) := ⟨fun _ _ _ _ _ _ _ ⟨_, _, _, q⟩ => False.elim q⟩
theorem pts_stk {es : List Expr} {G : GC} : PTs X es (tDT G F W stk) := ⟨fun _ _ _ _ _ _ ⟨_, _, _, q⟩ => False.elim q⟩
theorem pg_no {tg : Expr} {G : GC} {vs : List Nat} : PG X tg (tG G F vs tgNo) := ⟨fun _ _ _ _ _ _ _ _ _ ⟨_, _, _, _, _, _, h, _⟩ => by cases h⟩
theorem pgs_no {tg : List Expr} {G : GC} {vs : List Nat} : PGs X tg (tGs G F vs (fun _ _ => none)) := ⟨fun _ _ _ _ _ _ _ _ _ ⟨_, _, _, _, _, _, h, _⟩ => by cases h⟩
def base : DD := ⟨fun _ _ => stk, fun _ _ => stk, fun _ _ => stk, fun _ _ _ _ => stk, fun _ _ _ => tgNo⟩
theorem snd_base : Snd base := ⟨fun _ _ => pd_stk, fun _ _ => pdb_stk, fun _ _ => pt_stk, fun _ _ _ _ => pi_stk, fun _ _ _ => pg_no⟩
/-! lists -/
def lisE (f : Expr → E) : List Expr → E
  | [] => dNil
  | e :: r => bif isStar e then stk else dCons (f e) (lisE f r)
theorem lis_a {G : GC} {f : Expr → E} (h : ∀ e, PE X e (tD G F W (f e))) : ∀ es, PA X es (tDA G F W (lisE f es))
  | [] => pda_nil
  | e :: r => by
    unfold lisE
    cases q : isStar e with
    | true => exact pa_stk
    | false => exact pda_cons (h e) (lis_a h r) (star_cons q)
theorem lis_ab {G : GC} {f : Expr → E} (h : ∀ e, PE X e (tDB G F W (f e))) : ∀ es, PA X es (tDAB G F W (lisE f es))
  | [] => pdab_nil
  | e :: r => by
    unfold lisE
    cases q : isStar e with
    | true => exact pab_stk
    | false => exact pdab_cons (h e) (lis_ab h r) (star_cons q)
theorem lis_aq {G : GC} {f : Expr → E} {s : Bool} (h : ∀ e, PE X e (tDQ s G F W (f e))) : ∀ es, PA X es (tDAQ s G F W (lisE f es))
  | [] => pdq_nil
  | e :: r => by
    unfold lisE
    cases q : isStar e with
    | true => exact paq_stk
    | false => exact pdq_cons (h e) (lis_aq h r) (star_cons q)
/-! names, constants -/
theorem lkp_mem {α : Type} : ∀ {l : List (Str × α)} {x : Str} {a : α}, lkp l x = some a → (x, a) ∈ l
  | (y, b) :: r, x, a, h => by
    unfold lkp at h
    cases e : decide (y = x) with
    | true => rw [e] at h; cases h; rw [decide_eq_true_eq] at e; subst e; exact .head _
    | false => rw [e] at h; exact .tail _ (lkp_mem h)
def tyTab : List (Str × Nat) := [("int", 0), ("bool", 1), ("str", 2), ("tuple", 3), ("list", 4)]
theorem tyTab_ok {x : Str} {k : Nat} (h : lkp tyTab x = some k) : bootBuiltins x = some (.type (tyN k)) := by
  have := lkp_mem h
  simp only [tyTab, List.mem_cons, List.not_mem_nil, or_false, Prod.mk.injEq] at this
  rcases this with ⟨rfl, rfl⟩ | ⟨rfl, rfl⟩ | ⟨rfl, rfl⟩ | ⟨rfl, rfl⟩ | ⟨rfl, rfl⟩ <;> rfl
def globE (g : Gam) (x : Str) : E := bif glB g x then (match lkp g.con x with
  | some p => dC p
  | none => match lkp g.fns x with
  | some _ => dC (.gl x)
  | none => bif has g.free x then (match lkp tyTab x with
    | some k => dC (.ty k)
    | none => stk) else stk) else stk
theorem pd_globE {pos : Pos} {x : Str} (k : Ok X W g F) : PE X (.Name x pos) (tD (gOf X) F W (globE g x)) := by
  unfold globE
  cases e : glB g x with
  | false => exact pd_stk
  | true =>
    obtain ⟨h1, h2, h3⟩ := gl_of k e
    simp only [cond_true]
    cases ec : lkp g.con x with
    | some p =>
      obtain ⟨v, u, q1, q2, q3⟩ := k.con x p ec
      exact pd_c (pe_glob h1 q1 q2 h2) q3
    | none =>
     simp only
     cases eg : lkp g.fns x with
     | some q =>
      obtain ⟨f, n⟩ := q
      obtain ⟨_, _, a, _, _, _, _, hm, _⟩ := k.fns x f n eg
      exact pd_c (pe_glob h1 hm (show RelV (.ref a) (.ref a) from rfl) h2) fun B O H => .gl hm
     | none =>
      simp only
      cases ef : has g.free x with
      | false => exact pd_stk
      | true =>
        simp only [cond_true]
        cases et : lkp tyTab x with
        | none => exact pd_stk
        | some j => exact pd_c (pe_bltn h1 (k.free x (has_mem ef)) (tyTab_ok et) (show RelV (.ty (tyN j)) (.type (tyN j)) from rfl) h3 h2) fun B O H => .ty j
def nrmIf (b : Bool) (e : E) : E := bif b then dNrm e else e
def nameE (g : Gam) (x : Str) : E := bif visB g x then (match ixOf g.N x with
  | some i => nrmIf (has g.xt x) (dVar i)
  | none => stk) else globE g x
def nameB (g : Gam) (x : Str) : E := bif visB g x then (match ixOf g.N x with
  | some i => nrmIf (has g.xt x) (dVarB i)
  | none => stk) else globE g x
theorem pd_nrmIf {G : GC} {b : Bool} {e : Expr} {a : E} (h : PE X e (tD G F W a)) : PE X e (tD G F W (nrmIf b a)) := by
  cases b with
  | true => exact pd_nrm h
  | false => exact h
theorem pdb_nrmIf {G : GC} {b : Bool} {e : Expr} {a : E} (h : PE X e (tDB G F W a)) : PE X e (tDB G F W (nrmIf b a)) := by
  cases b with
  | true => exact pdb_nrm h
  | false => exact h
theorem pe_slot {pos : Pos} {x : Str} {i : Nat} (k : Ok X W g F) (hv : visB g x = true) (hi : ixOf g.N x = some i) : PE X (.Name x pos) (tVar i) := by
  obtain ⟨h1, h2, h3⟩ := vis_of k hv
  exact pe_var (by rw [k.N]; exact ixOf_ok hi) h1 h2 h3
theorem pd_nameE {pos : Pos} {x : Str} (k : Ok X W g F) : PE X (.Name x pos) (tD (gOf X) F W (nameE g x)) := by
  unfold nameE
  cases e : visB g x with
  | false => exact pd_globE k
  | true =>
    simp only [cond_true]
    cases ei : ixOf g.N x with
    | none => exact pd_stk
    | some i => exact pd_nrmIf (pd_var (pe_slot k e ei))
theorem pd_nameB {pos : Pos} {x : Str} (k : Ok X W g F) : PE X (.Name x pos) (tDB (gOf X) F W (nameB g x)) := by
  unfold nameB
  cases e : visB g x with
  | false => exact weakB (pd_globE k)
  | true =>
    simp only [cond_true]
    cases ei : ixOf g.N x with
    | none => exact pdb_stk
    | some i => exact pdb_nrmIf (pd_varB (pe_slot k e ei))
def constE : Const → E
  | .none => dC .non
  | .bool b => dC (.bl b)
  | .int i => dC (.int i)
  | .str x => dC (.str x)
  | _ => stk
theorem pd_constE {c : Const} {j : Nat} {pos : Pos} {G : GC} : PE X (.Constant c j pos) (tD G F W (constE c)) := by
  cases c with
  | none => exact pd_c pe_non fun _ _ _ => .non
  | bool b => exact pd_c pe_bl fun _ _ _ => .bl b
  | int i => exact pd_c pe_int fun _ _ _ => .int i
  | str x => exact pd_c pe_str fun _ _ _ => .str x
  | _ => exact pd_stk
/-! built-in functions -/
def biTab : List (Str × Bool × String × (List PV → Option PV)) := [("len", false, "len", bLen), ("sum", false, "sum", bSum), ("all", false, "all", bAll), ("any", false, "any", bAny), ("abs", false, "abs", bAbs), ("isinstance", false, "isinstance", bIsi), ("max", false, "max", bMax), ("min", false, "min", bMin),
  ("int", true, "int", bInt), ("tuple", true, "tuple", bTup), ("list", true, "list", bLst), ("sorted", false, "sorted", bSrt)]
theorem biTab_ok {x : Str} {b : Bool} {id : String} {f : List PV → Option PV} (h : lkp biTab x = some (b, id, f)) : (bootBuiltins x = some (if b then .type id else .builtin id)) ∧ ∀ X : Cx, X.calm = true → X.A.units + 66 < cLine → BF X (if b then .type id else .builtin id) f := by
  have := lkp_mem h
  simp only [biTab, List.mem_cons, List.not_mem_nil, or_false, Prod.mk.injEq] at this
  rcases this with ⟨rfl, rfl, rfl, rfl⟩ | ⟨rfl, rfl, rfl, rfl⟩ | ⟨rfl, rfl, rfl, rfl⟩ | ⟨rfl, rfl, rfl, rfl⟩ | ⟨rfl, rfl, rfl, rfl⟩ | ⟨rfl, rfl, rfl, rfl⟩ | ⟨rfl, rfl, rfl, rfl⟩ | ⟨rfl, rfl, rfl, rfl⟩ | ⟨rfl, rfl, rfl, rfl⟩ | ⟨rfl, rfl, rfl, rfl⟩ | ⟨rfl, rfl, rfl, rfl⟩ | ⟨rfl, rfl, rfl, rfl⟩
  · exact ⟨rfl, fun X hc _ => bf_len⟩
  · exact ⟨rfl, fun X hc _ => bf_sum hc⟩
  · exact ⟨rfl, fun X hc _ => bf_all hc⟩
  · exact ⟨rfl, fun X hc _ => bf_any hc⟩
  · exact ⟨rfl, fun X hc _ => bf_abs⟩
  · exact ⟨rfl, fun X hc _ => bf_isi⟩
  · exact ⟨rfl, fun X hc _ => bf_max hc⟩
  · exact ⟨rfl, fun X hc _ => bf_min hc⟩
  · exact ⟨rfl, fun X hc _ => bf_int⟩
  · exact ⟨rfl, fun X hc _ => bf_tup⟩
  · exact ⟨rfl, fun X hc _ => bf_lst⟩
  · exact ⟨rfl, fun X _ hu => bf_srt hu⟩
def noStar (es : List Expr) : Bool := es.all fun e => !isStar e
def callE (d : DD) (g : Gam) (x : Str) (es : List Expr) : E := bif glB g x && noStar es && !es.isEmpty then (match lkp g.fns x with
  | some (f, n) => dCall f n (lisE (d.e g) es)
  | none => bif has g.free x then (match lkp biTab x with
    | some (_, _, f) => dBi f (lisE (d.b g) es)
    | none => stk) else stk) else stk
theorem pd_callE {d : DD} (D : Snd d) (k : Ok X W g F) {x : Str} {es : List Expr} {p pos : Pos} : PE X (.Call (.Name x p) es [] pos) (tD (gOf X) F W (callE d g x es)) := by
  unfold callE
  cases e : (glB g x && noStar es && !es.isEmpty) with
  | false => exact pd_stk
  | true =>
    simp only [cond_true]
    rw [Bool.and_eq_true, Bool.and_eq_true] at e
    obtain ⟨⟨e1, e2⟩, e3⟩ := e
    obtain ⟨h1, h2, h3⟩ := gl_of k e1
    cases es with
    | nil => cases e3
    | cons a r =>
      cases ef : lkp g.fns x with
      | some p =>
        obtain ⟨f, n⟩ := p
        exact pd_call k.tk (k.fns x f n ef) h1 (lis_a (D.e k) (a :: r)) e2
      | none =>
        simp only
        cases eh : has g.free x with
        | false => exact pd_stk
        | true =>
          simp only [cond_true]
          cases eb : lkp biTab x with
          | none => exact pd_stk
          | some q =>
            obtain ⟨b, id, f⟩ := q
            obtain ⟨q1, q2⟩ := biTab_ok eb
            have q2 := q2 X k.calm k.un
            cases b with
            | false => exact pd_bi q2 h1 (k.free x (has_mem eh)) q1 (lis_ab (D.b k) (a :: r)) h3 h2 e2
            | true => exact pd_biT q2 h1 (k.free x (has_mem eh)) q1 (lis_ab (D.b k) (a :: r)) h3 h2 e2
/-! a lambda handed to a def that calls it within try -/
def Gam.lam (g : Gam) (scope : Scope) : Gam := { g with sc := scope, cells := [], ers := [] }
theorem Ok.inLam (k : Ok X W g F) {scope : Scope} {A : Around} {outer : List Env} {s : Shared} {H : Hp} {E : XK} {f c' : Addr} {lv : Nat} (hr : Room lv (A.deeper (LamX.lamEnv X scope s.heap.objs.size f c')))
    (hf : ∀ A, Room lv A → ∀ y f n, lkp g.fns y = some (f, n) → CallOkA X.prog X.w X.K X.mg X.base A F.tl y f n) : Ok (lamN X A outer s H E scope f c') (WE0 E) (g.lam scope) F := by
  refine ⟨k.N, k.nd, rfl, rfl, (fun x hx => by cases hx), ?_, L2N.takes_of (X := lamN X A outer s H E scope f c') (E := E) rfl rfl rfl rfl, fun x f n h => hf _ hr x f n h, k.con, k.free, (fun x h e => by cases e)⟩
  have := hr.un
  show (A.deeper (LamX.lamEnv X scope s.heap.objs.size f c')).units + 66 < cLine
  omega
def hR (h : Er) : R → R
  | .ok _ c => .ok (.str h.1) c
  | .exc k c => (match lkp h.2 k with
    | some w => .ok (.str w) c
    | none => .stuck)
  | .stuck => .stuck
def dErr (h : Er) (b : E) : E := fun env c => hR h (b env c)
def noPar : Arguments → Bool
  | ⟨[], [], none, [], [], none, []⟩ => true
  | _ => false
theorem noPar_ok {p : Arguments} (h : noPar p = true) : p = ⟨[], [], none, [], [], none, []⟩ := by
  unfold noPar at h
  split at h
  · rfl
  · cases h
theorem pd_lam {x : Str} {h : Er} {b : Gam → Expr → E} (hD : ∀ {X W g F}, Ok X W g F → ∀ e, PE X e (tD (gOf X) F W (b g e))) (k : Ok X W g F) (l : LamOk X g.fns x h F.tl) {params : Arguments} {body : Expr} {scope : Scope} {p lpos pos : Pos} (hg : Gl X x) (hdb : (x == ("__debug__" : Str)) = false) (hp : noPar params = true) (hs : LamX.lamSB g.sc scope = true) :
    PE X (.Call (.Name x p) [.Lambda params body scope lpos] [] pos) (tD (gOf X) F W (dErr h (b (g.lam scope) body))) := by
  obtain ⟨a, ga, c, P, lv, pg, bg, sg, dV, kV, doc, pm, cdv, ct, oc, an, od, osl, Ng, h1, h2, h3, h4, h5, h6, h7, h8, h9, h10, h11, h12, h13, h14, h15, h16, h17⟩ := l.ok
  have hp := noPar_ok hp
  subst hp
  have L : LamX.LamS X.env.scope scope := by rw [k.sc]; exact LamX.lamS_by hs
  refine PE.imp (pe_lamN (T := F.tl) (t := fun E σ H Q => ∃ F', F'.tl = F.tl ∧ tD (gOf X) F' (WE0 E) (b (g.lam scope) body) σ H Q) hg h1 h2 h3 h4 h5 h6 h7 h8 h9 h10 h11 h12 h13 h14 L rfl (fun _ _ _ _ _ => rfl) (fun A outer s H E f c' hr => PE.any fun F' hF' => hD ((k.same hF').inLam hr (by rw [hF']; exact h17)) body) hdb h15 h16) ?_
  rintro σ H Q ⟨env, cup, S, q⟩
  refine ⟨S.tab, fun H1 eN T1 => ?_⟩
  have e1 : ExE F H H1 := fun a o h _ t => eN a o h t
  have S1 : Ss (gOf X) F env cup σ H1 := S.ext e1 (fun a ha => by
    obtain ⟨vs, z1, z2⟩ := S.box a ha
    exact ⟨vs, eN _ _ z1 nt_lst, reps_kp (kp_oo S e1) z2⟩) T1
  refine ⟨F, rfl, env, cup, S1, ?_⟩
  unfold dErr hR at q
  cases eb : b (g.lam scope) body env cup with
  | stuck => rw [eb] at q; exact q
  | ok v c =>
    rw [eb] at q
    exact fun w H2 S2 e2 r => q (.str h.1) H2 S2 (e1.trans e2) (.str _)
  | exc kk c =>
    rw [eb] at q
    simp only at q
    cases ew : lkp h.2 kk with
    | none => rw [ew] at q; exact False.elim q
    | some w =>
      rw [ew] at q
      refine fun H2 S2 e2 C hC => ⟨rfl, S2.tab, kk, C, w, hC, rfl, ew, fun H3 ex tb => ?_⟩
      have e3 : ExE F H2 H3 := fun a o h _ t => ex a o h t
      refine q (.str w) H3 (S2.ext e3 (fun a ha => ?_) tb) ((e1.trans e2).trans e3) (.str _)
      obtain ⟨vs, z1, z2⟩ := S2.box a ha
      exact ⟨vs, ex _ _ z1 nt_lst, reps_kp (kp_oo S2 e3) z2⟩
/-! calls without arguments, calls of a name that holds a def -/
theorem post_fn {f : Fn} {n : Nat} {env : En} {cup : Cup} {σ : L2.St} {H : Hp} {Q : VK} {vs : List V} {xs : List PV} (S : Ss (gOf X) F env cup σ H) (rs : Reps (gOf X) F.B (OO F env σ) H vs xs)
    (q : PostA (gOf X) F W (fun x v H' => Rep (gOf X) F.B (OO F env σ) H' v x) env σ H Q (fnE f n (.tup xs) env cup)) : spF (gOf X) F.tl f n vs H Q (WE W σ) := by
  simp only [fnE] at q
  cases hl : Nat.beq xs.length n with
  | false => rw [hl] at q; exact False.elim q
  | true =>
    rw [hl] at q
    simp only [cond_true] at q
    refine ⟨by rw [rs.length]; exact Nat.eq_of_beq_eq_true hl, F.B, OO F env σ, xs, cup, rs, fun a h => .inl (S.bOc a h), ⟨S.box, fun a h => S.oo_trk h, ExE.refl, S.tab⟩, ?_⟩
    have back : ∀ {c H'}, EndOk (gOf X) ⟨F.B, OO F env σ, H, F.tl⟩ c H' → Ss (gOf X) F env c σ H' ∧ ExE F H H' := fun {c H'} h => ⟨S.ext h.ent h.box h.tab, h.ent⟩
    revert q
    cases f xs cup with
    | ok z c => exact fun q1 v H' h r => q1 v H' (back h).1 (back h).2 r
    | exc k c => exact fun q1 H' h a ha => q1 H' (back h).1 (back h).2 a ha
    | stuck => exact fun q1 => q1
theorem pd_call0 {x : Str} {f : Fn} {n : Nat} {p pos : Pos} (tk : L2N.Takes X W) (C : CallOk X F.tl x f n) (hg : Gl X x) : PE X (.Call (.Name x p) [] [] pos) (tD (gOf X) F W (dCall f n dNil)) := by
  obtain ⟨hdb, k, a, fd, ps, FO, hr, hm, hk, hb⟩ := C
  refine ⟨fun pins s σ H Q I ⟨env, cup, S, q⟩ => ?_⟩
  refine wpAny_Call_Name_kw (ld_glob I hg hm (PySem.W.callWith_K0 I.kIn hk ?_) hdb)
  exact run_fnS FO hr hb (L2N.passAt tk σ) I .nil (post_fn S .nil q)
/-- a name that holds a def -/
def dCallV (fns : List (Str × Fn × Nat)) (i : Nat) (ds : E) : E := fun env c => match getS env i with
  | .va (.gl y) => (match lkp fns y with
    | some (f, n) => dCall f n ds env c
    | none => .stuck)
  | _ => .stuck
theorem pd_callV (k : Ok X W g F) {x : Str} {i : Nat} {es : List Expr} {ds : E} {p pos : Pos} (hx : visB g x = true) (hi : ixOf g.N x = some i) (ha : PA X es (tDA (gOf X) F W ds)) (hs : noStar es = true) (h0 : es = [] → ds = dNil) : PE X (.Call (.Name x p) es [] pos) (tD (gOf X) F W (dCallV g.fns i ds)) := by
  refine ⟨fun pins s σ H Q I ⟨env, cup, S, q⟩ => ?_⟩
  unfold dCallV at q
  cases es' : getS env i with
  | no => rw [es'] at q; exact False.elim q
  | own xs => rw [es'] at q; exact False.elim q
  | va y =>
    cases y with
    | gl y =>
      rw [es'] at q
      simp only at q
      cases ef : lkp g.fns y with
      | none => rw [ef] at q; exact False.elim q
      | some fp =>
        obtain ⟨f, n⟩ := fp
        rw [ef] at q
        simp only at q
        obtain ⟨hdb, kk, a, fd, ps, FO, hr, hm, hk, hb⟩ := k.fns y f n ef
        obtain ⟨v, z1, z2⟩ := S.va i _ (getS_va es')
        cases z2 with
        | gl hm' =>
          have hm' : X.mg y = some _ := hm'
          rw [hm] at hm'
          cases hm'
          refine wpAny_Call_Name_kw (thn ((pe_slot (pos := p) k hx hi).run pins s σ H (fun v H1 => v = .ref a ∧ H1 = H) I ⟨.ref a, z1, rfl, rfl⟩) fun u s1 ⟨v, H1, I1, r1, q1⟩ => ?_)
          obtain ⟨rfl, rfl⟩ := q1
          cases r1
          cases es with
          | nil =>
            cases h0 rfl
            exact PySem.W.callWith_K0 I1.kIn hk (run_fnS FO hr hb (L2N.passAt k.tk σ) I1 .nil (post_fn S .nil q))
          | cons e r =>
            have hs' := hs
            unfold noStar at hs'
            rw [List.all_cons, Bool.and_eq_true, Bool.not_eq_true'] at hs'
            refine PySem.W.callWith_K (h₀ := X.base) I1.ok.mod.kin hk (thn (ha.run pos pins s1 σ _ (fun vs H2 => spF (gOf X) F.tl f n vs H2 Q (WE W σ)) I1 ⟨env, cup, S, post_bind q fun y cup1 vs H2 S2 e1 p1 q1 => ?_⟩) fun us s2 ⟨vs, H2, I2, r, q⟩ => ⟨I2.kIn, ?_⟩) (star_cons hs'.1) (star_all hs'.2 _)
            · obtain ⟨xs, rfl, rs⟩ := p1
              exact post_fn S2 rs q1
            · exact run_fnS FO hr hb (L2N.passAt k.tk σ) I2 r q
    | _ => rw [es'] at q; exact False.elim q
def isLam : List Expr → Option (Arguments × Expr × Scope)
  | [.Lambda params body scope _] => some (params, body, scope)
  | _ => none
def callN (d : DD) (g : Gam) (x : Str) (es : List Expr) : E := bif visB g x then (match ixOf g.N x with
  | some i => bif noStar es then dCallV g.fns i (lisE (d.e g) es) else stk
  | none => stk) else bif es.isEmpty && glB g x then (match lkp g.fns x with
  | some (f, n) => dCall f n dNil
  | none => stk) else callE d g x es
theorem pd_callN {d : DD} (D : Snd d) (k : Ok X W g F) {x : Str} {es : List Expr} {p pos : Pos} : PE X (.Call (.Name x p) es [] pos) (tD (gOf X) F W (callN d g x es)) := by
  unfold callN
  cases hv : visB g x with
  | true =>
    simp only [cond_true]
    cases hi : ixOf g.N x with
    | none => exact pd_stk
    | some i =>
      simp only
      cases hs : noStar es with
      | false => exact pd_stk
      | true => exact pd_callV k hv hi (lis_a (D.e k) es) hs fun h => by rw [h]; rfl
  | false =>
    simp only [cond_false]
    cases he : (es.isEmpty && glB g x) with
    | false => exact pd_callE D k
    | true =>
      rw [Bool.and_eq_true] at he
      simp only [cond_true]
      cases es with
      | cons _ _ => cases he.1
      | nil =>
        cases ef : lkp g.fns x with
        | none => exact pd_stk
        | some q => exact pd_call0 k.tk (k.fns x q.1 q.2 (by rw [ef])) (gl_of k he.2).1
def callL (d : DD) (g : Gam) (x : Str) (es : List Expr) : E := match lkp g.ers x, isLam es with
  | some h, some (params, body, scope) => bif glB g x && noPar params && LamX.lamSB g.sc scope then dErr h (d.e (g.lam scope) body) else stk
  | none, _ => callN d g x es
  | _, _ => stk
theorem pd_callL {d : DD} (D : Snd d) (k : Ok X W g F) {x : Str} {es : List Expr} {p pos : Pos} : PE X (.Call (.Name x p) es [] pos) (tD (gOf X) F W (callL d g x es)) := by
  unfold callL
  cases eh : lkp g.ers x with
  | none => exact pd_callN D k
  | some h =>
    cases es with
    | nil => exact pd_stk
    | cons e r =>
      cases e with
      | Lambda params body scope lpos =>
        cases r with
        | cons _ _ => exact pd_stk
        | nil =>
          show PE X _ (tD (gOf X) F W (bif glB g x && noPar params && LamX.lamSB g.sc scope then dErr h (d.e (g.lam scope) body) else stk))
          cases ec : (glB g x && noPar params && LamX.lamSB g.sc scope) with
          | false => exact pd_stk
          | true =>
            rw [Bool.and_eq_true, Bool.and_eq_true] at ec
            obtain ⟨g1, g2, g3⟩ := gl_of k ec.1.1
            exact pd_lam (fun k e => D.e k e) k (k.lam x h eh) g1 g2 ec.1.2 ec.2
      | _ => exact pd_stk
end RX
set_option maxHeartbeats 4000000
/-! Methods of lists and ints. -/
namespace RX
open PySem L2
variable {X : Cx} {F : FC} {W : WX} {g : Gam} {d : DD}

/-- o in o.m(..) is no super() -/
def noSup : Expr → Bool
  | .Call (.Name _ _) [] [] _ => false
  | _ => true
theorem noSup_ok {o : Expr} (h : noSup o = true) (m : Str) (env : Env) (whole : Sem Value) : attributeBase o m env whole = whole := by
  unfold attributeBase
  split
  · cases h
  · rfl
def dM1 (chk : PV → Bool) (f : PV → PV → Option PV) (a b : E) : E := bindE a fun x => bif chk x then bindE b fun y => ofO (f x y) else stk
def isLstP : PV → Bool
  | .lst _ => true
  | _ => false
def findI (k : Int) : List Int → Nat → Option Nat
  | [], _ => none
  | n :: r, i => bif decide (n = k) then some i else findI k r (i + 1)
theorem findI_ok {k : Int} : ∀ {ns : List Int} {i j : Nat}, findI k ns i = some j → i ≤ j ∧ ns[j - i]? = some k ∧ ∀ m, m < j - i → ∀ z, ns[m]? = some z → z ≠ k
  | n :: r, i, j, h => by
    simp only [findI] at h
    cases e : decide (n = k) with
    | true =>
      rw [e] at h
      cases h
      rw [decide_eq_true_eq] at e
      subst e
      exact ⟨Nat.le_refl _, by simp, fun m hm => by omega⟩
    | false =>
      rw [e] at h
      rw [decide_eq_false_iff_not] at e
      obtain ⟨h1, h2, h3⟩ := findI_ok h
      have ej : j - i = (j - (i + 1)) + 1 := by omega
      refine ⟨by omega, by rw [ej]; simpa using h2, fun m hm z hz => ?_⟩
      cases m with
      | zero => simp at hz; subst hz; exact e
      | succ m => exact h3 m (by omega) z (by simpa using hz)
def oIdx : PV → PV → Option PV
  | .lst xs, .int k => (match intsOf xs with
    | some ns => (findI k ns 0).map fun j => .int (Int.ofNat j)
    | none => none)
  | _, _ => none
theorem pd_index {o e : Expr} {da db : E} {ap cp : Pos} (ho : PE X o (tDB (gOf X) F W da)) (he : PE X e (tDB (gOf X) F W db)) (hn : noSup o = true) (hl : (ap.endLine == cp.line) = true) (hs : isStar e = false) :
    PE X (.Call (.Attribute o "index" ap) [e] [] cp) (tD (gOf X) F W (dM1 isLstP oIdx da db)) := by
  refine PE.imp (pe_bm PySem.F.plainAttrs_list PySem.F.slot_list_index PySem.F.type_list_index mt_index ho (pa_cons he pa_nil (by rw [star_cons hs])) (noSup_ok hn _ _ _) (by rw [star_cons hs]; rfl) hl (star_cons hs) (by rfl)) ?_
  rintro σ H Q ⟨env, cup, S, q⟩
  refine ⟨env, cup, S, post_bind q fun x c1 v H1 S1 e1 p1 q1 => ?_⟩
  cases x with
  | lst xs =>
    have q1 : PostA (gOf X) F W _ env σ H1 Q (bindE db (fun y => ofO (oIdx (.lst xs) y)) env c1) := q1
    obtain ⟨b, us, rfl, h1, h2⟩ := RB.lst_of p1
    refine ⟨.inl ⟨rfl, us, SqL.of h1⟩, env, c1, S1, post_bind q1 fun y c2 w H2 S2 e2 p2 q2 => ?_⟩
    obtain ⟨z, hz, kk⟩ := post_ofO q2 S2
    cases y with
    | int k =>
      simp only [oIdx] at hz
      cases ei : intsOf xs with
      | none => rw [ei] at hz; cases hz
      | some ns =>
        rw [ei] at hz
        simp only at hz
        cases ef : findI k ns 0 with
        | none => rw [ef] at hz; cases hz
        | some j =>
          rw [ef] at hz
          cases hz
          have hx := intsOf_some ei
          subst hx
          have p1' := RB.keep S1 p1 e2
          obtain ⟨b', us', eb, h1', h2'⟩ := RB.lst_of p1'
          cases eb
          have hu := reps_ints h2'
          subst hu
          have hw : w = .int k := RB.int_of p2
          subst hw
          obtain ⟨-, f2, f3⟩ := findI_ok ef
          simp only [Nat.sub_zero] at f2 f3
          refine ⟨b, ns.map V.int, .int k, j, .int k, rfl, rfl, SqL.of h1', rfl, by simp [List.all_eq_true, flatV], by rw [List.getElem?_map, f2]; rfl, by simp [eqV], fun m z' hm hz' => ?_, kk _ H2 (Evl.Ex.refl _) (.int _)⟩
          rw [List.getElem?_map] at hz'
          cases en : ns[m]? with
          | none => rw [en] at hz'; cases hz'
          | some z0 =>
            rw [en] at hz'
            cases hz'
            have := f3 m hm z0 en
            simp [eqV, this]
    | _ => cases hz
  | _ => exact False.elim q1
def oBits : PV → Option PV
  | .int i => some (.int (Builtin.Int.intBits i : Nat))
  | _ => none
theorem pd_bits {o : Expr} {da : E} {ap cp : Pos} (ho : PE X o (tDB (gOf X) F W da)) (hn : noSup o = true) (hl : (ap.endLine == cp.line) = true) : PE X (.Call (.Attribute o "bit_length" ap) [] [] cp) (tD (gOf X) F W (dUn oBits da)) := by
  refine PE.imp (pe_bits ho (noSup_ok hn _ _ _) hl) ?_
  rintro σ H Q ⟨env, cup, S, q⟩
  refine ⟨env, cup, S, post_bind q fun x c1 v H1 S1 e1 p1 q1 => ?_⟩
  obtain ⟨z, hz, kk⟩ := post_ofO q1 S1
  cases x with
  | int i =>
    cases hz
    have hv : v = .int i := RB.int_of p1
    subst hv
    exact ⟨i, rfl, kk _ H1 (Evl.Ex.refl _) (.int _)⟩
  | _ => cases hz
/-- methods by their names -/
def methE (d : DD) (g : Gam) (o : Expr) (m : Str) (l1 l2 : Nat) (es : List Expr) : E := bif noSup o && (l1 == l2) then (match es with
  | [] => bif decide (m = ("bit_length" : Str)) then dUn oBits (d.b g o) else stk
  | [e] => bif decide (m = ("index" : Str)) && !isStar e then dM1 isLstP oIdx (d.b g o) (d.b g e) else stk
  | _ => stk) else stk
theorem pd_methE (D : Snd d) (k : Ok X W g F) {o : Expr} {m : Str} {ap cp : Pos} {es : List Expr} : PE X (.Call (.Attribute o m ap) es [] cp) (tD (gOf X) F W (methE d g o m ap.endLine cp.line es)) := by
  unfold methE
  cases h : (noSup o && (ap.endLine == cp.line)) with
  | false => exact pd_stk
  | true =>
    rw [Bool.and_eq_true] at h
    simp only [cond_true]
    split
    · cases em : decide (m = ("bit_length" : Str)) with
      | false => exact pd_stk
      | true =>
        rw [decide_eq_true_eq] at em
        subst em
        exact pd_bits (D.b k o) h.1 h.2
    · rename_i e
      cases em : (decide (m = ("index" : Str)) && !isStar e) with
      | false => exact pd_stk
      | true =>
        rw [Bool.and_eq_true, decide_eq_true_eq, Bool.not_eq_true'] at em
        obtain ⟨rfl, hs⟩ := em
        exact pd_index (D.b k o) (D.b k e) h.1 h.2 hs
    · exact pd_stk
end RX
set_option maxHeartbeats 4000000
namespace RX
open PySem L2
variable {X : Cx} {F : FC} {W : WX} {g : Gam} {d : DD} {G : GC} {B : Option Addr} {O : Addr → Prop} {H : Hp}
/-- o.count(k), o such a tuple of ints -/
theorem pe_xcount {o e : Expr} {apos cpos : Pos} {to te : TE} (ho : PE X o to) (he : PE X e te) (hn : noSup o = true) (hl : (apos.endLine == cpos.line) = true) (hs : isStar e = false) :
    PE X (.Call (.Attribute o "count" apos) [e] [] cpos) (fun σ H Q => to σ H fun x H1 => ∃ p its n ys, x = .ref p ∧ H1 p = some (.frz (tupO' its n) (.tup ys)) ∧ te σ H1 fun y H2 => ∃ (k : Int) (ns : List Int) (its' : Array Value) (n' : Nat), y = .int k ∧ H2 p = some (.frz (tupO' its' n') (.tup (ns.map V.int))) ∧ Q (.int (ns.count k : Nat)) H2) := by
  refine ⟨fun pins s σ H Q I h => ?_⟩
  refine wpAny_Call_method_late (noSup_ok hn _ _ _) (by rw [star_cons hs]; rfl) hl rfl (thn (ho.run pins s σ H _ I h) fun v s1 ⟨x, H1, I1, r1, p, its, n, ys, ex, hf, q1⟩ => ?_)
  subst ex
  cases r1
  have hob := (I1.hok p _ hf).1
  refine ⟨"tuple", "tuple.count", PySem.F.plainAttrs_tuple, PySem.F.slot_tuple_count, PySem.F.type_tuple_count, ⟨_, hob, rfl⟩, fun a ea => ?_, ?_⟩
  · cases ea
    exact ⟨_, hob, rfl⟩
  · have hA := (pa_cons he pa_nil (star_cons hs)).run cpos pins s1 σ H1 (fun zs H2 => match zs with
      | [y] => ∃ (k : Int) (ns : List Int) (its' : Array Value) (n' : Nat), y = .int k ∧ H2 p = some (.frz (tupO' its' n') (.tup (ns.map V.int))) ∧ Q (.int (ns.count k : Nat)) H2
      | _ => False) I1 q1
    rw [star_cons hs] at hA ⊢
    refine Calls.callWith_builtin (by rfl) (Calls.evalArgs_plain (thn hA fun us s2 ⟨vs, H2, I2, r2, q2⟩ => ?_))
    cases r2 with
    | nil => exact False.elim q2
    | cons ru rr =>
      cases rr with
      | cons _ _ => exact False.elim q2
      | nil =>
        obtain ⟨k, ns, its', n', ek, hf2, q2⟩ := q2
        subst ek
        obtain ⟨t, rfl⟩ := ru
        obtain ⟨hob2, hz, its2, rv, o2, ho2, _, m2, hd2⟩ := I2.hok p _ hf2
        rw [hob2] at ho2
        cases ho2
        have hi := ints_of_vals rv
        cases hd2
        refine call_meets PySem.F.slot_tuple_count ⟨_, hob2, rfl⟩ PySem.F.entry_tuple_count (PySem.F.args_tuple_count_2 _ _) (SeqAt.tuple_countAt p its2.toArray n' none #[] (.int k t) (L2.eqk k)) ⟨hob2, fun y hy => (L2.eqk_gives hi y (by simpa using hy)).at _ _, ?_⟩
        refine ⟨.int (ns.count k : Nat), H2, I2.tok _, ⟨s2.toks, ?_⟩, q2⟩
        show Value.int ((its2.toArray.toList.countP (L2.eqk k) : Nat) : Int) s2.toks = Value.int ((ns.count k : Nat) : Int) s2.toks
        have ec : its2.toArray.toList.countP (L2.eqk k) = ns.count k := L2.eqk_count hi
        rw [ec]
/-- its evaluation -/
def isXtP : PV → Bool
  | .xt _ => true
  | _ => false
def countI (k : Int) : List Int → Nat
  | [] => 0
  | n :: r => bif decide (n = k) then countI k r + 1 else countI k r
theorem countI_eq (k : Int) : ∀ ns : List Int, countI k ns = ns.count k
  | [] => rfl
  | n :: r => by
    unfold countI
    rw [List.count_cons, countI_eq k r]
    by_cases e : n = k
    · rw [decide_eq_true e]; simp [e]
    · rw [decide_eq_false e]; simp [e]
def oXCnt : PV → PV → Option PV
  | .xt xs, .int k => (match intsOf xs with
    | some ns => some (.int (Int.ofNat (countI k ns)))
    | none => none)
  | _, _ => none
theorem pd_xcount {o e : Expr} {da db : E} {ap cp : Pos} (ho : PE X o (tD (gOf X) F W da)) (he : PE X e (tDB (gOf X) F W db)) (hn : noSup o = true) (hl : (ap.endLine == cp.line) = true) (hs : isStar e = false) :
    PE X (.Call (.Attribute o "count" ap) [e] [] cp) (tD (gOf X) F W (dM1 isXtP oXCnt da db)) := by
  refine PE.imp (pe_xcount ho he hn hl hs) ?_
  rintro σ H Q ⟨env, cup, S, q⟩
  refine ⟨env, cup, S, post_bind q fun x c1 v H1 S1 e1 p1 q1 => ?_⟩
  cases x with
  | xt xs =>
    cases p1 with
    | @xt a its n vs _ h1 h2 h3 =>
      refine ⟨a, its, n, vs, rfl, h1, env, c1, S1, post_bind (show PostA (gOf X) F W _ env σ H1 Q (bindE db (fun y => ofO (oXCnt (.xt xs) y)) env c1) from q1) fun y c2 w H2 S2 e2 p2 q2 => ?_⟩
      obtain ⟨z, hz, kk⟩ := post_ofO q2 S2
      cases y with
      | int k =>
        simp only [oXCnt] at hz
        cases ei : intsOf xs with
        | none => rw [ei] at hz; cases hz
        | some ns =>
          rw [ei] at hz
          cases hz
          have hx := intsOf_some ei
          subst hx
          have hu := reps_ints h3
          subst hu
          have hw : w = .int k := RB.int_of p2
          subst hw
          have kp := kp_oo S1 e2
          exact ⟨k, ns, its, n, rfl, kp _ _ h1 h2 nt_frz, by rw [← countI_eq]; exact kk _ H2 (Evl.Ex.refl _) (.int _)⟩
      | _ => cases hz
  | _ => exact False.elim q1
/-- a name as it stands, an item of it -/
def exE (g : Gam) : Expr → E
  | .Subscript (.Name x _) (.Constant (.int i) _ _) _ => bif visB g x then (match ixOf g.N x with
    | some j => dIx (dVarB j) (dC (.int i))
    | none => stk) else stk
  | _ => stk
theorem pd_exE (k : Ok X W g F) (o : Expr) : PE X o (tD (gOf X) F W (exE g o)) := by
  unfold exE
  split
  · rename_i x p i a b q
    cases e : visB g x with
    | false => exact pd_stk
    | true =>
      simp only [cond_true]
      cases ei : ixOf g.N x with
      | none => exact pd_stk
      | some j => exact pd_ix2 (pd_varB (pe_slot k e ei)) (weakB pd_constE) rfl
  · exact pd_stk
def methX (d : DD) (g : Gam) (o : Expr) (m : Str) (l1 l2 : Nat) (es : List Expr) : E := match es with
  | [e] => bif decide (m = ("count" : Str)) && noSup o && (l1 == l2) && !isStar e then dM1 isXtP oXCnt (exE g o) (d.b g e) else methE d g o m l1 l2 [e]
  | es => methE d g o m l1 l2 es
theorem pd_methX (D : Snd d) (k : Ok X W g F) {o : Expr} {m : Str} {ap cp : Pos} {es : List Expr} : PE X (.Call (.Attribute o m ap) es [] cp) (tD (gOf X) F W (methX d g o m ap.endLine cp.line es)) := by
  unfold methX
  split
  · rename_i e
    cases em : (decide (m = ("count" : Str)) && noSup o && (ap.endLine == cp.line) && !isStar e) with
    | false => exact pd_methE D k
    | true =>
      rw [Bool.and_eq_true, Bool.and_eq_true, Bool.and_eq_true, decide_eq_true_eq, Bool.not_eq_true'] at em
      obtain ⟨⟨⟨rfl, h1⟩, h2⟩, h3⟩ := em
      exact pd_xcount (pd_exE k o) (D.b k e) h1 h2 h3
  · exact pd_methE D k
/-- an expression whose tuples are made to be known -/
def mk1 (d : DD) (g : Gam) : Expr → E
  | .Call (.Name x p) [e] [] q => bif decide (x = ("tuple" : Str)) && glB g x && has g.free x && !isStar e then dBi bXt (lisE (d.b g) [e]) else d.e g (.Call (.Name x p) [e] [] q)
  | e => d.e g e
theorem pd_mk1 (D : Snd d) (k : Ok X W g F) (e : Expr) : PE X e (tD (gOf X) F W (mk1 d g e)) := by
  unfold mk1
  split
  · rename_i x p e q
    cases em : (decide (x = ("tuple" : Str)) && glB g x && has g.free x && !isStar e) with
    | false => exact D.e k _
    | true =>
      rw [Bool.and_eq_true, Bool.and_eq_true, Bool.and_eq_true, decide_eq_true_eq, Bool.not_eq_true'] at em
      obtain ⟨⟨⟨rfl, h1⟩, h2⟩, h3⟩ := em
      exact pd_biT bf_xt (gl_of k h1).1 (k.free _ (has_mem h2)) (by rfl) (lis_ab (D.b k) [e]) (gl_of k h1).2.2 (gl_of k h1).2.1 (by simp [h3])
  · exact D.e k _
def mkE (d : DD) (g : Gam) : Expr → E
  | .Tuple es _ _ => dTup (lisE (mk1 d g) es)
  | e => mk1 d g e
theorem pd_mkE (D : Snd d) (k : Ok X W g F) (e : Expr) : PE X e (tD (gOf X) F W (mkE d g e)) := by
  unfold mkE
  split
  · exact pd_tup (lis_a (pd_mk1 D k) _)
  · exact pd_mk1 D k _
end RX
set_option maxHeartbeats 4000000
namespace RX
open PySem L2
variable {X : Cx} {F : FC} {W : WX} {g : Gam} {d : DD}

/-! ### targets -/
def locB (g : Gam) (x : Str) : Bool := match g.sc.names.lookup x with
  | some .local => true
  | some .cell => has g.cells x
  | _ => false
theorem loc_of (k : Ok X W g F) {x : Str} (h : locB g x = true) : L2.Loc X.env.scope x ∧ (X.fn x = true ∨ X.env.scope.names.lookup x = some .local) := by
  unfold locB at h
  unfold L2.Loc
  rw [k.sc]
  split at h
  · rename_i e; exact ⟨.inl e, .inr e⟩
  · rename_i e; exact ⟨.inr e, .inl (k.cells x (has_mem h))⟩
  · cases h
def memN : List Nat → Nat → Bool
  | [], _ => false
  | y :: r, x => Nat.beq y x || memN r x
theorem memN_ok : ∀ {l : List Nat} {x : Nat}, memN l x = true → x ∈ l
  | y :: r, x, h => by
    unfold memN at h
    rw [Bool.or_eq_true] at h
    rcases h with h | h
    · rw [Nat.eq_of_beq_eq_true h]; exact .head _
    · exact .tail _ (memN_ok h)
def tgName (g : Gam) (vs : List Nat) (x : Str) : Tg := bif locB g x then (match ixOf g.N x with
  | some i => bif memN vs i then gS i else tgNo
  | none => tgNo) else tgNo
def noStarT : Expr → Bool
  | .Starred .. => false
  | _ => true
def tgAll (f : Expr → Tg) : List Expr → gAll
  | [] => gsNil
  | e :: r => bif noStarT e then gsCons (f e) (tgAll f r) else fun _ _ => none
def stepG (d : DD) (g : Gam) (vs : List Nat) : Expr → Tg
  | .Name x _ => tgName g vs x
  | .Tuple es _ _ => bif es.all noStarT then gT es.length (tgAll (d.g g vs) es) else tgNo
  | _ => tgNo
theorem as_cons {e : Expr} {es : List Expr} {env : Env} (h : noStarT e = true) : assignEach (e :: es) env = (false, assign e env) :: assignEach es env := by
  cases e <;> first | rfl | (cases h)
theorem as_all {env : Env} : ∀ {es : List Expr}, es.all noStarT = true → (assignEach es env).length = es.length ∧ (assignEach es env).findIdx? (·.1) = none
  | [], _ => ⟨rfl, rfl⟩
  | e :: r, h => by
    rw [List.all_cons, Bool.and_eq_true] at h
    obtain ⟨h1, h2⟩ := as_all (env := env) h.2
    rw [as_cons h.1]
    refine ⟨by simp [h1], ?_⟩
    rw [List.findIdx?_cons, h2]
    rfl
theorem pgs_all {f : Expr → Tg} {vs : List Nat} {G : GC} (h : ∀ e, PG X e (tG G F vs (f e))) : ∀ es, PGs X es (tGs G F vs (tgAll f es))
  | [] => pgs_nl
  | e :: r => by
    unfold tgAll
    cases q : noStarT e with
    | false => exact pgs_no
    | true => exact pgs_cs (h e) (pgs_all h r) (by rw [as_cons q]; rfl)
theorem snd_g (D : Snd d) (k : Ok X W g F) (vs : List Nat) (tg : Expr) : PG X tg (tG (gOf X) F vs (stepG d g vs tg)) := by
  cases tg with
  | Name x p =>
    show PG X _ (tG (gOf X) F vs (tgName g vs x))
    unfold tgName
    cases e : locB g x with
    | false => exact pg_no
    | true =>
      simp only [cond_true]
      cases ei : ixOf g.N x with
      | none => exact pg_no
      | some i =>
        simp only
        cases em : memN vs i with
        | false => exact pg_no
        | true =>
          obtain ⟨h1, h2⟩ := loc_of k e
          exact pg_nm (pg_name k.nd (by rw [k.N]; exact ixOf_ok ei) h1 h2) (memN_ok em)
  | Tuple es kk p =>
    show PG X _ (tG (gOf X) F vs (bif es.all noStarT then gT es.length (tgAll (d.g g vs) es) else tgNo))
    cases e : es.all noStarT with
    | false => exact pg_no
    | true =>
      obtain ⟨h1, h2⟩ := as_all (env := X.env) e
      exact pg_tp k.calm (pgs_all (D.g k vs) es) h1 h2
  | _ => exact pg_no
/-! ### walks -/
theorem fold_of {it : Expr} (h : isSet it = false) (env : Env) (x : Value) : foldedSetIterable it env x = pure x := by
  cases it <;> first | rfl | (cases h)
def dQ (d : DD) (s : Bool) (g : Gam) (e : Expr) : E := bif s then d.e g e else d.b g e
theorem pd_q (D : Snd d) (k : Ok X W g F) (s : Bool) (e : Expr) : PE X e (tDQ s (gOf X) F W (dQ d s g e)) := by
  cases s with
  | true => exact D.e k e
  | false => exact D.b k e
/-- range, enumerate, zip by their names -/
def itTab : List (Str × Nat) := [("range", 0), ("enumerate", 1), ("zip", 2)]
def isTupE : Expr → Bool
  | .Tuple .. => true
  | _ => false
def itSel (d : DD) (s : Bool) (g : Gam) (tg : Expr) (x : Str) (es : List Expr) : Option E := match lkp itTab x, es, isTupE tg with
  | some 0, [_], _ => some (dRng1 (lisE (dQ d s g) es))
  | some 0, [_, _], _ => some (dRng2 (lisE (dQ d s g) es))
  | some 1, [_], true => some (dEnum (lisE (dQ d s g) es))
  | some 2, [_, _], true => some (dZip (lisE (dQ d s g) es))
  | _, _, _ => none
def itCall (d : DD) (s : Bool) (g : Gam) (tg : Expr) (x : Str) (es : List Expr) : Option E := bif glB g x && noStar es && has g.free x then itSel d s g tg x es else none
theorem itTab_ok {x : Str} {n : Nat} (h : lkp itTab x = some n) : (n = 0 ∧ x = "range") ∨ (n = 1 ∧ x = "enumerate") ∨ (n = 2 ∧ x = "zip") := by
  have := lkp_mem h
  simp only [itTab, List.mem_cons, List.not_mem_nil, or_false, Prod.mk.injEq] at this
  rcases this with ⟨rfl, rfl⟩ | ⟨rfl, rfl⟩ | ⟨rfl, rfl⟩
  · exact .inl ⟨rfl, rfl⟩
  · exact .inr (.inl ⟨rfl, rfl⟩)
  · exact .inr (.inr ⟨rfl, rfl⟩)
theorem isTupE_ok {e : Expr} (h : isTupE e = true) : ∃ es k p, e = .Tuple es k p := by
  cases e with
  | Tuple es k p => exact ⟨es, k, p, rfl⟩
  | _ => cases h
def stepI (d : DD) (g : Gam) (s : Bool) (tg : Expr) : Expr → E
  | .Call (.Name x p) es [] pos => (match itCall d s g tg x es with
    | some r => r
    | none => dItems (dQ d s g (.Call (.Name x p) es [] pos)))
  | e => dItems (dQ d s g e)
theorem noStar_one {e : Expr} (h : noStar [e] = true) : isStar e = false := by
  simpa [noStar] using h
theorem noStar_two {e e2 : Expr} (h : noStar [e, e2] = true) : isStar e = false ∧ isStar e2 = false := by
  simpa [noStar] using h
theorem pi_rng2 {s : Bool} {tg e e2 : Expr} {ds : E} {p pos : Pos} (hg : Gl X "range") (hm : X.mg "range" = none) (ha : PA X [e, e2] (tDAQ s (gOf X) F W ds)) (hs : isStar e = false) (hs2 : isStar e2 = false) : PI X tg (.Call (.Name "range" p) [e, e2] [] pos) (tDI s (gOf X) F W (dRng2 ds)) :=
  PI.imp (pi_range2 hg hm ha (by rw [star_cons hs, star_cons hs2]; rfl) (by rw [star_cons hs2]; rfl)) fun σ H R ⟨env, cup, S, q⟩ => ⟨env, cup, S, post_bind q fun x cup1 vs H1 S1 e1 p1 q1 => by
    obtain ⟨xs, rfl, rs⟩ := p1
    match xs, rs, q1 with
    | [.int i, .int j], .cons r1 (.cons r2 .nil), q1 =>
      simp only [kRng2] at q1
      cases e : (small62 i && small62 j) with
      | false => rw [e] at q1; exact False.elim q1
      | true =>
        rw [e] at q1
        rw [Bool.and_eq_true] at e
        obtain ⟨hl, kk⟩ := post_ok q1 S1
        have h1 := small62_ok e.1
        have h2 := small62_ok e.2
        cases r1.int_of
        cases r2.int_of
        exact ⟨i, j, rfl, ⟨h1.1, h1.2, h2.1, h2.2⟩, kk _ ⟨_, rfl, hl, wo_range⟩⟩⟩
theorem snd_i (D : Snd d) (k : Ok X W g F) (s : Bool) (tg it : Expr) : PI X tg it (tDI s (gOf X) F W (stepI d g s tg it)) := by
  have dflt : ∀ e, PI X tg e (tDI s (gOf X) F W (dItems (dQ d s g e))) := fun e => pi_items (pd_q D k s e)
  cases it with
  | Call f es kws pos =>
    cases f with
    | Name x p =>
      cases kws with
      | cons _ _ => exact dflt _
      | nil =>
        show PI X tg _ (tDI s (gOf X) F W (match itCall d s g tg x es with
          | some r => r
          | none => dItems (dQ d s g (.Call (.Name x p) es [] pos))))
        cases ec : itCall d s g tg x es with
        | none => exact dflt _
        | some r =>
          simp only
          unfold itCall at ec
          cases e : (glB g x && noStar es && has g.free x) with
          | false => rw [e] at ec; cases ec
          | true =>
            rw [e] at ec
            simp only [cond_true] at ec
            rw [Bool.and_eq_true, Bool.and_eq_true] at e
            obtain ⟨⟨e1, e2⟩, e3⟩ := e
            obtain ⟨h1, h2, h3⟩ := gl_of k e1
            have hm := k.free x (has_mem e3)
            unfold itSel at ec
            split at ec
            · rename_i el
              rcases itTab_ok el with ⟨_, rfl⟩ | ⟨z, _⟩ | ⟨z, _⟩
              · cases ec; exact pi_rng1 h1 hm (lis_aq (fun e => pd_q D k s e) _) (noStar_one e2)
              · cases z
              · cases z
            · rename_i el
              rcases itTab_ok el with ⟨_, rfl⟩ | ⟨z, _⟩ | ⟨z, _⟩
              · cases ec; exact pi_rng2 h1 hm (lis_aq (fun e => pd_q D k s e) _) (noStar_two e2).1 (noStar_two e2).2
              · cases z
              · cases z
            · rename_i el et
              obtain ⟨elts, kk, tp, rfl⟩ := isTupE_ok et
              rcases itTab_ok el with ⟨z, _⟩ | ⟨_, rfl⟩ | ⟨z, _⟩
              · cases z
              · cases ec; exact pi_enumD h1 hm (lis_aq (fun e => pd_q D k s e) _) (noStar_one e2)
              · cases z
            · rename_i el et
              obtain ⟨elts, kk, tp, rfl⟩ := isTupE_ok et
              rcases itTab_ok el with ⟨z, _⟩ | ⟨z, _⟩ | ⟨_, rfl⟩
              · cases z
              · cases z
              · cases ec; exact pi_zipD h1 hm (lis_aq (fun e => pd_q D k s e) _) (noStar_two e2).1 (noStar_two e2).2
            · cases ec
    | _ => exact dflt _
  | _ => exact dflt _
end RX
set_option maxHeartbeats 4000000
namespace RX
open PySem L2
variable {X : Cx} {F : FC} {W : WX} {g : Gam} {d : DD}

/-! ### comprehensions -/
def ownOf (N : List Str) : List (Str × NameKind) → List (Str × Nat)
  | [] => []
  | (y, .local) :: r => (match ixOf N y with
    | some i => (y, i) :: ownOf N r
    | none => ownOf N r)
  | (y, .cell) :: r => (match ixOf N y with
    | some i => (y, i) :: ownOf N r
    | none => ownOf N r)
  | _ :: r => ownOf N r
def ifsT (f : Expr → E) : List Expr → E
  | [] => dC (.bl true)
  | [c] => f c
  | _ => stk
theorem pts_ifs {G : GC} {f : Expr → E} (h : ∀ e, PT X e (tDT G F W (f e))) : ∀ es, PTs X es (tDT G F W (ifsT f es))
  | [] => by
    have k := @pts_nil X
    exact ⟨fun pins s σ H Q I ⟨env, cup, S, q⟩ => k.run pins s σ H Q I (q true H S ExE.refl rfl)⟩
  | [c] => pts_one (h c)
  | _ :: _ :: _ => pts_stk
def mapSnd : List (Str × Nat) → List Nat
  | [] => []
  | p :: r => p.2 :: mapSnd r
theorem mapSnd_eq : ∀ (l : List (Str × Nat)), mapSnd l = l.map (·.2)
  | [] => rfl
  | p :: r => by simp [mapSnd, mapSnd_eq r]
/-- the slots of a target -/
def tgSlots (N : List Str) : Expr → List Nat
  | .Name x _ => (match ixOf N x with
    | some i => [i]
    | none => [])
  | .Tuple es _ _ => tgSlotsL N es
  | _ => []
where tgSlotsL (N : List Str) : List Expr → List Nat
  | [] => []
  | e :: r => tgSlots N e ++ tgSlotsL N r
def allIn (vs : List Nat) : List Nat → Bool
  | [] => true
  | i :: r => memN vs i && allIn vs r
theorem allIn_ok {vs : List Nat} : ∀ {l : List Nat}, allIn vs l = true → ∀ i ∈ l, i ∈ vs
  | [], _, i, h => by cases h
  | j :: r, h, i, hi => by
    unfold allIn at h
    rw [Bool.and_eq_true] at h
    cases hi with
    | head => exact memN_ok h.1
    | tail _ hi => exact allIn_ok h.2 i hi
def compE (d : DD) (g : Gam) (elt : Expr) (scope : Scope) : List Comprehension → E
  | [⟨tg, it, ifs, 0⟩] => let own := ownOf g.N scope.names
    bif blkC g.N g.sc scope own && !isSet it then dComp (mapSnd own) (d.i g false tg it) (d.g (g.blk scope) (mapSnd own) tg) (ifsT (d.t (g.blk scope)) ifs) (d.e (g.blk scope) elt) else stk
  | [⟨tg, it, ifs, 0⟩, ⟨tg1, it1, ifs1, 0⟩] => let own := ownOf g.N scope.names
    let vs1 := tgSlots g.N tg1
    bif blkC g.N g.sc scope own && !isSet it && !isSet it1 && allIn (mapSnd own) vs1 then dComp2 (mapSnd own) (d.i g false tg it) (d.g (g.blk scope) (mapSnd own) tg) (ifsT (d.t (g.blk scope)) ifs) (d.i (g.blk scope) true tg1 it1) vs1 (d.g (g.blk scope) vs1 tg1) (ifsT (d.t (g.blk scope)) ifs1) (d.e (g.blk scope) elt) else stk
  | _ => stk
theorem blk_ok (k : Ok X W g F) {scope : Scope} {own : List (Str × Nat)} (h : blkC g.N g.sc scope own = true) : BlkOk X.N X.env.scope scope own ∧ Blks X scope fun Y => Ok Y W0 (g.blk scope) F := by
  have b := blkOk_by h
  refine ⟨by rw [k.N, k.sc]; exact b, k.blk b.uniq⟩
theorem pd_compE (D : Snd d) (k : Ok X W g F) {elt : Expr} {gens : List Comprehension} {scope : Scope} {pos : Pos} : PE X (.ListComp elt gens scope pos) (tD (gOf X) F W (compE d g elt scope gens)) := by
  unfold compE
  split
  · rename_i tg it ifs
    simp only
    cases e : (blkC g.N g.sc scope (ownOf g.N scope.names) && !isSet it) with
    | false => exact pd_stk
    | true =>
      rw [Bool.and_eq_true, Bool.not_eq_true'] at e
      obtain ⟨b, kb⟩ := blk_ok k e.1
      simp only [cond_true]
      rw [mapSnd_eq]
      exact pd_comp k.calm k.nd b (D.i k false tg it) (fun s H C cl fp F' hF' => D.g ((kb s H C cl fp).same hF') _ tg) (fun s H C cl fp F' hF' => pts_ifs (fun e => D.t ((kb s H C cl fp).same hF') e) ifs) (fun s H C cl fp F' hF' => D.e ((kb s H C cl fp).same hF') elt) (fold_of e.2 _)
  · rename_i tg it ifs tg1 it1 ifs1
    simp only
    cases e : (blkC g.N g.sc scope (ownOf g.N scope.names) && !isSet it && !isSet it1 && allIn (mapSnd (ownOf g.N scope.names)) (tgSlots g.N tg1)) with
    | false => exact pd_stk
    | true =>
      rw [Bool.and_eq_true, Bool.and_eq_true, Bool.and_eq_true, Bool.not_eq_true', Bool.not_eq_true'] at e
      obtain ⟨⟨⟨e1, e2⟩, e3⟩, e4⟩ := e
      obtain ⟨b, kb⟩ := blk_ok k e1
      simp only [cond_true]
      rw [mapSnd_eq] at e4 ⊢
      exact pd_comp2 k.calm k.nd b (allIn_ok e4) (D.i k false tg it) (fun s H C cl fp F' hF' => D.g ((kb s H C cl fp).same hF') _ tg) (fun s H C cl fp F' hF' => pts_ifs (fun e => D.t ((kb s H C cl fp).same hF') e) ifs) (fun s H C cl fp F' hF' => D.i ((kb s H C cl fp).same hF') true tg1 it1) (fun s H C cl fp F' hF' => D.g ((kb s H C cl fp).same hF') _ tg1)
        (fun s H C cl fp F' hF' => pts_ifs (fun e => D.t ((kb s H C cl fp).same hF') e) ifs1) (fun s H C cl fp F' hF' => D.e ((kb s H C cl fp).same hF') elt) (fold_of e2 _) (fun env x => fold_of e3 env x)
  · exact pd_stk
/-- the same, as a list that only the receiver holds -/
theorem pf_compE (D : Snd d) (k : Ok X W g F) {elt : Expr} {gens : List Comprehension} {scope : Scope} {pos : Pos} (h1 : gens.length = 1) : PE X (.ListComp elt gens scope pos) (tDF (gOf X) F W (compE d g elt scope gens)) := by
  have st : ∀ {e : Expr}, PE X e (tDF (gOf X) F W stk) := ⟨fun _ _ _ _ _ _ ⟨_, _, _, q⟩ => False.elim q⟩
  unfold compE
  split
  · rename_i tg it ifs
    simp only
    cases e : (blkC g.N g.sc scope (ownOf g.N scope.names) && !isSet it) with
    | false => exact st
    | true =>
      rw [Bool.and_eq_true, Bool.not_eq_true'] at e
      obtain ⟨b, kb⟩ := blk_ok k e.1
      simp only [cond_true]
      rw [mapSnd_eq]
      exact pf_comp k.calm k.nd b (D.i k false tg it) (fun s H C cl fp F' hF' => D.g ((kb s H C cl fp).same hF') _ tg) (fun s H C cl fp F' hF' => pts_ifs (fun e => D.t ((kb s H C cl fp).same hF') e) ifs) (fun s H C cl fp F' hF' => D.e ((kb s H C cl fp).same hF') elt) (fold_of e.2 _)
  · cases h1
  · exact st
/-! ### the step -/
def andV : List E → E
  | [] => stk
  | [x] => x
  | x :: r => dAndV x (andV r)
def orV : List E → E
  | [] => stk
  | [x] => x
  | x :: r => dOrV x (orV r)
def andT : List E → E
  | [] => stk
  | [x] => x
  | x :: r => dAndT x (andT r)
def orT : List E → E
  | [] => stk
  | [x] => x
  | x :: r => dOrT x (orT r)
def boolV (f : Expr → E) (vs : List Expr) : BoolOp → E
  | .And => andV (vs.map f)
  | .Or => orV (vs.map f)
def boolT (f : Expr → E) (vs : List Expr) : BoolOp → E
  | .And => andT (vs.map f)
  | .Or => orT (vs.map f)
theorem pd_and {f : Expr → E} (h : ∀ e, PE X e (tD (gOf X) F W (f e))) {pos : Pos} : ∀ vs, PE X (.BoolOp .And vs pos) (tD (gOf X) F W (andV (vs.map f)))
  | [] => pd_stk
  | [a] => pe_one (h a)
  | a :: b :: r => pd_andV (h a) (pd_and h (b :: r))
theorem pd_or {f : Expr → E} (h : ∀ e, PE X e (tD (gOf X) F W (f e))) {pos : Pos} : ∀ vs, PE X (.BoolOp .Or vs pos) (tD (gOf X) F W (orV (vs.map f)))
  | [] => pd_stk
  | [a] => pe_one (h a)
  | a :: b :: r => pd_orV (h a) (pd_or h (b :: r))
theorem pw_stk {e : Expr} {G : GC} : PW X e (tDT G F W stk) := ⟨fun _ _ _ _ _ _ _ ⟨_, _, _, q⟩ => False.elim q⟩
theorem pw_andL {f : Expr → E} (h : ∀ e, PT X e (tDT (gOf X) F W (f e))) {pos : Pos} : ∀ vs, PW X (.BoolOp .And vs pos) (tDT (gOf X) F W (andT (vs.map f)))
  | [] => pw_stk
  | [a] => pw_and1 (h a)
  | a :: b :: r => pw_andT (h a) (pw_andL h (b :: r))
theorem pw_orL {f : Expr → E} (h : ∀ e, PT X e (tDT (gOf X) F W (f e))) {pos : Pos} : ∀ vs, PW X (.BoolOp .Or vs pos) (tDT (gOf X) F W (orT (vs.map f)))
  | [] => pw_stk
  | [a] => pw_or1 (h a)
  | a :: b :: r => pw_orT (h a) (pw_orL h (b :: r))
def cmpE (d : DD) (g : Gam) (a : Expr) : List CmpOp → List Expr → E
  | [op], [b] => bif isSet b then stk else (match cmpF op with
    | some f => dBin f (d.b g a) (d.b g b)
    | none => stk)
  | [op, op'], [b, c] => bif isSet c then stk else (match cmpF op, cmpF op' with
    | some f, some h => dChain f h (d.b g a) (d.b g b) (d.b g c)
    | _, _ => stk)
  | _, _ => stk
theorem pd_cmpE (D : Snd d) (k : Ok X W g F) {a : Expr} {ops : List CmpOp} {es : List Expr} {pos : Pos} : PE X (.Compare a ops es pos) (tD (gOf X) F W (cmpE d g a ops es)) ∧ PT X (.Compare a ops es pos) (tDT (gOf X) F W (cmpE d g a ops es)) := by
  unfold cmpE
  split
  · rename_i op b
    cases e : isSet b with
    | true => exact ⟨pd_stk, pt_stk⟩
    | false =>
      simp only [cond_false]
      cases ef : cmpF op with
      | none => exact ⟨pd_stk, pt_stk⟩
      | some f => exact ⟨pd_cmp k.un ef (D.b k a) (D.b k b) e, pt_cmp2 k.un ef (D.b k a) (D.b k b) e⟩
  · rename_i op op' b c
    cases e : isSet c with
    | true => exact ⟨pd_stk, pt_stk⟩
    | false =>
      simp only [cond_false]
      cases ef : cmpF op with
      | none => exact ⟨pd_stk, pt_stk⟩
      | some f =>
        cases eh : cmpF op' with
        | none => exact ⟨pd_stk, pt_stk⟩
        | some h => exact ⟨pd_chain k.un ef eh (D.b k a) (D.b k b) (D.b k c) e, pt_chain2 k.un ef eh (D.b k a) (D.b k b) (D.b k c) e⟩
  · exact ⟨pd_stk, pt_stk⟩
def partE (f : Expr → E) : Option Expr → E
  | none => dC .non
  | some e => dPart (f e)
theorem po_partE {f : Expr → E} (h : ∀ e, PE X e (tDB (gOf X) F W (f e))) : ∀ o, PO X o (tDP (gOf X) F W (partE f o))
  | none => po_n
  | some e => po_s (h e)
def subE (d : DD) (g : Gam) (e : Expr) : Expr → E
  | .Slice lo hi none _ => dCut (d.b g e) (partE (d.b g) lo) (partE (d.b g) hi)
  | .Slice _ _ (some _) _ => stk
  | i => dIx (d.b g e) (d.b g i)
theorem pd_subE (D : Snd d) (k : Ok X W g F) {e i : Expr} {pos : Pos} : PE X (.Subscript e i pos) (tD (gOf X) F W (subE d g e i)) := by
  cases i with
  | Slice lo hi st p =>
    cases st with
    | none => exact pd_cut (D.b k e) (po_partE (D.b k) lo) (po_partE (D.b k) hi)
    | some _ => exact pd_stk
  | _ => exact pd_ix2 (D.b k e) (D.b k _) rfl
def unE (d : DD) (g : Gam) (a : Expr) : UnaryOp → E
  | .Not => dNotV (d.b g a)
  | .USub => dUn oNeg (d.b g a)
  | _ => stk
def binE (d : DD) (g : Gam) (a b : Expr) (op : Operator) : E := match binF op with
  | some f => dBin f (d.b g a) (d.b g b)
  | none => stk
def stepE (d : DD) (g : Gam) : Expr → E
  | .Name x _ => nameE g x
  | .Constant c _ _ => constE c
  | .BinOp a op b _ => binE d g a b op
  | .UnaryOp op a _ => unE d g a op
  | .BoolOp op vs _ => boolV (d.e g) vs op
  | .IfExp c a b _ => dIf (d.t g c) (d.e g a) (d.e g b)
  | .Compare a ops es _ => cmpE d g a ops es
  | .Tuple es _ _ => dTup (lisE (d.e g) es)
  | .List es _ => dLst (lisE (d.e g) es)
  | .Subscript e i _ => subE d g e i
  | .Call (.Name x _) es [] _ => callL d g x es
  | .Call (.Attribute o m ap) es [] cp => methX d g o m ap.endLine cp.line es
  | .ListComp elt gens scope _ => compE d g elt scope gens
  | _ => stk
theorem snd_e (D : Snd d) (k : Ok X W g F) (e : Expr) : PE X e (tD (gOf X) F W (stepE d g e)) := by
  cases e with
  | Name x p => exact pd_nameE k
  | Constant c j p => exact pd_constE
  | BinOp a op b p =>
    show PE X _ (tD (gOf X) F W (binE d g a b op))
    unfold binE
    cases ef : binF op with
    | none => exact pd_stk
    | some f => exact pd_bin ef (D.b k a) (D.b k b)
  | UnaryOp op a p =>
    cases op with
    | Not => exact pd_notV (D.b k a)
    | USub => exact pd_neg (D.b k a)
    | _ => exact pd_stk
  | BoolOp op vs p =>
    cases op with
    | And => exact pd_and (D.e k) vs
    | Or => exact pd_or (D.e k) vs
  | IfExp c a b p => exact pd_if (D.t k c) (D.e k a) (D.e k b)
  | Compare a ops es p => exact (pd_cmpE D k).1
  | Tuple es j p => exact pd_tup (lis_a (D.e k) es)
  | List es p => exact pd_lst (lis_a (D.e k) es)
  | Subscript e i p => exact pd_subE D k
  | Call f es kws p =>
    cases f with
    | Name x q =>
      cases kws with
      | nil => exact pd_callL D k
      | cons _ _ => exact pd_stk
    | Attribute o m ap =>
      cases kws with
      | nil => exact pd_methX D k
      | cons _ _ => exact pd_stk
    | _ => exact pd_stk
  | ListComp elt gens scope p => exact pd_compE D k
  | _ => exact pd_stk
def stepB (d : DD) (g : Gam) : Expr → E
  | .Name x _ => nameB g x
  | e => stepE d g e
theorem snd_b (D : Snd d) (k : Ok X W g F) (e : Expr) : PE X e (tDB (gOf X) F W (stepB d g e)) := by
  cases e with
  | Name x p => exact pd_nameB k
  | _ => exact weakB (snd_e D k _)
def stepT (d : DD) (g : Gam) : Expr → E
  | .UnaryOp .Not a _ => dNotT (d.t g a)
  | .BoolOp op vs _ => boolT (d.t g) vs op
  | .Compare a ops es _ => cmpE d g a ops es
  | .IfExp .. => stk
  | e => dTru (d.b g e)
theorem snd_t (D : Snd d) (k : Ok X W g F) (e : Expr) : PT X e (tDT (gOf X) F W (stepT d g e)) := by
  cases e with
  | UnaryOp op a p =>
    cases op with
    | Not => exact pt_notT (D.t k a)
    | _ => exact pt_tru (D.b k _) rfl
  | BoolOp op vs p =>
    cases op with
    | And => exact (pw_andL (D.t k) vs).pt
    | Or => exact (pw_orL (D.t k) vs).pt
  | Compare a ops es p => exact (pd_cmpE D k).2
  | IfExp c a b p => exact pt_stk
  | _ => exact pt_tru (D.b k _) rfl
def step (d : DD) : DD := ⟨stepE d, stepB d, stepT d, stepI d, stepG d⟩
theorem snd_step (D : Snd d) : Snd (step d) := ⟨fun k e => snd_e D k e, fun k e => snd_b D k e, fun k e => snd_t D k e, fun k s tg it => snd_i D k s tg it, fun k vs tg => snd_g D k vs tg⟩
def den : Nat → DD
  | 0 => base
  | n + 1 => step (den n)
theorem snd_den : ∀ n, Snd (den n)
  | 0 => snd_base
  | n + 1 => snd_step (snd_den n)
end RX
set_option maxHeartbeats 4000000
namespace RX
open PySem L2
variable {X : Cx} {F : FC} {W : WX} {g : Gam} {d : DD} {G : GC} {st : Stmt}

/-! ### moves, two items set -/
theorem pds_move {i j : Nat} (h : PS X st (tAsg (tVar j) (gName i))) : PS X st (tS G F W (dMove i j)) := PS.imp h fun D σ H ⟨env, cup, S, q⟩ => by
  unfold dMove at q
  cases e : getS env j with
  | no => rw [e] at q; exact False.elim q
  | va x => rw [e] at q; exact False.elim q
  | own xs =>
    rw [e] at q
    have ej := getS_own e
    obtain ⟨p, vs, h1, h2, h3, h4, h5⟩ := S.own j xs ej
    refine ⟨.ref p, h1, ?_⟩
    -- the list is nobody's for a moment
    have noj : ∀ (k : Nat) (ys : List PV), (env.set j .no)[k]? = some (.own ys) → k ≠ j ∧ env[k]? = some (.own ys) := fun k ys hk => by
      by_cases e : j = k
      · subst e
        rw [List.getElem?_set] at hk
        simp only [if_true] at hk
        split at hk <;> cases hk
      · rw [List.getElem?_set_ne e] at hk
        exact ⟨fun z => e z.symm, hk⟩
    have m1 : ∀ a, OO (F.bar p) (env.set j .no) σ a → OO F env σ a := fun a z => by
      rcases z with (z | z) | ⟨k, ys, z1, z2⟩
      · exact .inl z
      · subst z; exact .inr ⟨j, xs, ej, h1⟩
      · exact .inr ⟨k, ys, (noj k ys z1).2, z2⟩
    have S0 : Ss G (F.bar p) (env.set j .no) cup σ H := by
      refine ⟨by simp [S.len], fun k x hk => ?_, fun k ys hk => ?_, fun k l ys zs a b c d1 d2 => ?_, fun a ha => ?_, fun a ha => ?_, fun a ha => .inl (S.bOc a ha), S.ent, S.tab⟩
      · by_cases e : j = k
        · subst e
          rw [List.getElem?_set] at hk
          simp only [if_true] at hk
          split at hk <;> cases hk
        · rw [List.getElem?_set_ne e] at hk
          obtain ⟨v, z1, z2⟩ := S.va k x hk
          exact ⟨v, z1, rep_less m1 z2⟩
      · obtain ⟨n1, n2⟩ := noj k ys hk
        obtain ⟨q', ws, z1, z2, z3, z4, z5⟩ := S.own k ys n2
        refine ⟨q', ws, z1, z2, reps_less m1 z3, fun z => ?_, z5⟩
        rcases z with z | z
        · exact z4 z
        · subst z; exact n1 (S.apart k j ys xs _ n2 ej z1 h1)
      · exact S.apart k l ys zs a (noj k ys b).2 (noj l zs c).2 d1 d2
      · obtain ⟨ws, z1, z2⟩ := S.box a ha
        exact ⟨ws, z1, reps_less m1 z2⟩
      · rcases ha with ha | ha
        · exact S.trk a ha
        · subst ha; exact ⟨_, h2, nt_lst⟩
    obtain ⟨S1, m2⟩ := S0.set_own (i := i) S.bOc h4 h5 h2 (reps_less m1 h3)
    exact q _ H S1 (Step.ofSub fun a z => m1 a (m2 a z))
def thenS (a : Oc) (k : En → Cup → Oc) : Oc := match a with
  | .nx e c => k e c
  | .bk _ _ => .st
  | .ct _ _ => .st
  | .rt _ _ => .st
  | .ex k c => .ex k c
  | .st => .st
/-- a[i], b[j] = x, y -/
def dSet2 (i : Nat) (ie : E) (j : Nat) (je : E) (ds : E) : Sd := fun env c => toS (ds env c) fun x c1 => match x with
  | .tup [v, w] => thenS (dSetIx i ie (dC v) env c1) fun env2 c2 => dSetIx j je (dC w) env2 c2
  | _ => .st
theorem set_sem {i : Nat} {ie : E} {v : V} {x : PV} {env : En} {c1 : Cup} {σ : L2.St} {H1 : Hp} {D : Ends} (S1 : Ss G F env c1 σ H1) (p1 : Rep G F.B (OO F env σ) H1 v x)
    (h : PostS G F W env σ H1 D (dSetIx i ie (dC x) env c1)) : gSub (tVar i) (tDB G F W ie) rSetL v σ H1 D.nx := by
  unfold dSetIx at h
  cases em : mutS (getS env i) with
  | false => rw [em] at h; exact False.elim h
  | true =>
    rw [em] at h
    simp only [cond_true] at h
    have q1 : PostS G F W env σ H1 D (toS (ie env c1) (kSet i x env)) := h
    obtain ⟨p0, hv, _⟩ := mutS_some S1 em
    refine ⟨.ref p0, hv, env, c1, S1, post_toS q1 (fun y c2 w H2 S2 e2 s2 p2 q2 => ?_) S1⟩
    cases y with
    | int k =>
      have hw : w = .int k := RB.int_of p2
      subst hw
      simp only [kSet] at q2
      cases es : getS env i with
      | no => rw [es] at q2; exact False.elim q2
      | own xs =>
        rw [es] at q2
        simp only at q2
        cases er : setIx xs k x with
        | none => rw [er] at q2; exact False.elim q2
        | some ys =>
          rw [er] at q2
          obtain ⟨j, hj, rfl⟩ := setIx_some er
          obtain ⟨p, vs, z1, z2, z3, _⟩ := S2.own i xs (getS_own es)
          rw [hv] at z1; cases z1
          obtain ⟨T1, T2⟩ := S2.mut_own (getS_own es) hv z2 (z3.set j (rep_kp (kp_oo S1 e2) p1))
          exact ⟨_, vs, k, j, rfl, rfl, z2, by rw [z3.length]; exact hj, q2 _ _ T1 T2⟩
      | va y =>
        cases y with
        | box =>
          rw [es] at q2
          simp only at q2
          cases er : setIx c2 k x with
          | none => rw [er] at q2; exact False.elim q2
          | some ys =>
            rw [er] at q2
            obtain ⟨j, hj, rfl⟩ := setIx_some er
            obtain ⟨w, z1, z2⟩ := S2.va i _ (getS_va es)
            rw [hv] at z1; cases z1
            cases z2 with
            | box hb =>
              obtain ⟨vs, z3, z4⟩ := S2.box _ hb
              obtain ⟨T1, T2⟩ := S2.mut_box hb z3 (z4.set j (rep_kp (kp_oo S1 e2) p1))
              exact ⟨_, vs, k, j, rfl, rfl, z3, by rw [z4.length]; exact hj, q2 _ _ T1 (Step.ofE S2 T2)⟩
        | _ => rw [es] at q2; exact False.elim q2
    | _ => exact False.elim q2
theorem pds_set2 {i j : Nat} {ie je ds : E} (h : PS X st (tAsg (tD G F W (dTup ds)) (gTup G.K 2 (gCons (gSub (tVar i) (tDB G F W ie) rSetL) (gCons (gSub (tVar j) (tDB G F W je) rSetL) gNil))))) : PS X st (tS G F W (dSet2 i ie j je (dTup ds))) :=
  PS.imp h fun D σ H ⟨env, cup, S, q⟩ => ⟨env, cup, S, post_toS q (fun x c1 v H1 S1 e1 s1 p1 q1 => by
    cases p1 with
    | @tup a us xs hq hn rs =>
      cases rs with
      | nil => exact False.elim q1
      | @cons v1 _ x1 _ r1 rs =>
        cases rs with
        | nil => exact False.elim q1
        | @cons v2 _ x2 _ r2 rs =>
          cases rs with
          | cons _ _ => exact False.elim q1
          | nil =>
            simp only at q1
            refine ⟨a, [v1, v2], rfl, hq, rfl, v1, [v2], rfl, ?_⟩
            refine set_sem (D := { D with nx := fun σ' H' => gCons (gSub (tVar j) (tDB G F W je) rSetL) gNil [v2] σ' H' D.nx }) S1 r1 ?_
            unfold thenS at q1
            cases ed : dSetIx i ie (dC x1) env c1 with
            | nx env2 c2 =>
              rw [ed] at q1
              intro σ2 H2 S2 s2
              refine ⟨v2, [], rfl, ?_⟩
              have r2' : Rep G F.B (OO F env2 σ2) H2 v2 x2 := rep_on (fun _ h => h) r2 s2.kp s2.sub
              have e3 : (fun σ' H' => gNil [] σ' H' D.nx) = D.nx := by
                funext σ' H'
                exact propext ⟨fun h => h.2, fun h => ⟨rfl, h⟩⟩
              show gSub (tVar j) (tDB G F W je) rSetL v2 σ2 H2 fun σ' H' => gNil [] σ' H' D.nx
              rw [e3]
              exact set_sem (D := D) S2 r2' (PostS.mono q1 s2)
            | bk _ _ => rw [ed] at q1; exact False.elim q1
            | ct _ _ => rw [ed] at q1; exact False.elim q1
            | rt _ _ => rw [ed] at q1; exact False.elim q1
            | ex k c => rw [ed] at q1; exact q1
            | st => rw [ed] at q1; exact q1
    | _ => exact False.elim q1) S⟩
/-! ### which store a statement makes -/
def isComp : Expr → Bool
  | .ListComp .. => true
  | .SetComp .. => true
  | .DictComp .. => true
  | _ => false
theorem sw_plain {e : Expr} {t : Option Expr} {l : Nat} {env : Env} (h : isComp e = false) : swapsWith e t l env = pure false := by
  cases e <;> first | rfl | (cases h)
theorem sw_notName {e tg : Expr} {l : Nat} {env : Env} (h : (match tg with | .Name .. => false | _ => true) = true) (hd : isComp e = false ∨ True) : swapsWithSole [tg] e l env = pure false := by
  show swapsWith e (some tg) l env = pure false
  cases tg with
  | Name _ _ => cases h
  | _ => cases e <;> rfl
def funK (g : Gam) : Bool := match g.sc.kind with
  | .function => true
  | _ => false
/-- a comprehension that is put into a local name straight away -/
def swB (g : Gam) (y : Str) (py : Pos) (scope : Scope) (pos : Pos) : Bool := (match g.sc.names.lookup y with
  | some .local => true
  | _ => false) && py.line == pos.line && !(scope.names.any fun (n, k) => n == y && (k == .local || k == .cell))
theorem sw_comp (k : Ok X W g F) (hf : funK g = true) {elt : Expr} {gs : List Comprehension} {scope : Scope} {pos py : Pos} {y : Str} {l : Nat} : swapsWith (.ListComp elt gs scope pos) (some (.Name y py)) l X.env = pure (swB g y py scope pos) := by
  have ky : X.env.kindOf y = g.sc.names.lookup y := by unfold Env.kindOf; rw [k.sc]
  have hk : g.sc.kind = .function := by
    unfold funK at hf
    split at hf
    · assumption
    · cases hf
  have hb : X.env.blockKind = .function := by unfold Env.blockKind; rw [k.sc, hk]; rfl
  unfold swapsWith swB
  simp only [hb, ky, Expr.pos]
  congr 1
  have e : (match g.sc.names.lookup y with | some .local => true | _ => false) = (g.sc.names.lookup y == some .local) := by
    cases g.sc.names.lookup y with
    | none => rfl
    | some q => cases q <;> rfl
  rw [e]
  rfl
end RX
set_option maxHeartbeats 4000000
namespace RX
open PySem L2
variable {X : Cx} {F : FC} {W : WX} {g : Gam} {d : DD} {G : GC} {st : Stmt}

def swNames (g : Gam) (ts : List Expr) (line : Nat) : List Str := ts.filterMap fun
  | .Name id pos => if g.sc.names.lookup id == some .local && pos.line == line then some id else none
  | _ => none
def swN (g : Gam) (ts vs : List Expr) : Option (Option (List Str)) :=
  if (!(ts.length == 2 || ts.length == 3) || vs.length != ts.length) = true then some none
  else if (vs.any fun | .Starred .. => true | _ => false) = true then some none
  else if ((swNames g ts ((ts.head?.map (·.pos.line)).getD 0)).length != ts.length || (swNames g ts ((ts.head?.map (·.pos.line)).getD 0)).eraseDups.length != (swNames g ts ((ts.head?.map (·.pos.line)).getD 0)).length) = true then some none
  else if vs.all (foldedForSure 8) = true then some none
  else if vs.all (constantsAlone 8) = true then none
  else some (some (swNames g ts ((ts.head?.map (·.pos.line)).getD 0)))
theorem swN_ok (k : Ok X W g F) (hf : funK g = true) {ts vs : List Expr} {r : Option (List Str)} {k1 k2 : Nat} {p1 p2 : Pos} (h : swN g ts vs = some r) : swappedStores [.Tuple ts k1 p1] (.Tuple vs k2 p2) X.env = pure r := by
  have hk : g.sc.kind = .function := by
    unfold funK at hf
    split at hf
    · assumption
    · cases hf
  have hb : X.env.blockKind = .function := by unfold Env.blockKind; rw [k.sc, hk]; rfl
  have hn : (ts.filterMap fun
    | .Name id pos => if X.env.kindOf id == some .local && pos.line == ((ts.head?.map (·.pos.line)).getD 0) then some id else none
    | _ => none) = swNames g ts ((ts.head?.map (·.pos.line)).getD 0) := by
    unfold swNames Env.kindOf
    rw [k.sc]
  unfold swN at h
  unfold swappedStores
  simp only [hb, hn]
  have e0 : (ScopeKind.function != ScopeKind.function) = false := rfl
  rw [e0, Bool.or_false]
  by_cases c1 : (!(ts.length == 2 || ts.length == 3) || vs.length != ts.length) = true
  · rw [if_pos c1] at h ⊢; cases h; rfl
  · rw [if_neg c1] at h ⊢
    by_cases c2 : (vs.any fun | .Starred .. => true | _ => false) = true
    · rw [if_pos c2] at h
      cases h
      refine (if_pos ?_).trans ?_
      · exact c2
      · rfl
    · rw [if_neg c2] at h
      refine (if_neg ?_).trans ?_
      · exact c2
      by_cases c3 : ((swNames g ts ((ts.head?.map (·.pos.line)).getD 0)).length != ts.length || (swNames g ts ((ts.head?.map (·.pos.line)).getD 0)).eraseDups.length != (swNames g ts ((ts.head?.map (·.pos.line)).getD 0)).length) = true
      · rw [if_pos c3] at h
        cases h
        refine (if_pos ?_).trans ?_
        · rw [← hn] at c3; exact c3
        · rfl
      · rw [if_neg c3] at h
        refine (if_neg ?_).trans ?_
        · rw [← hn] at c3; exact c3
        by_cases c4 : vs.all (foldedForSure 8) = true
        · rw [if_pos c4] at h ⊢; cases h; rfl
        · rw [if_neg c4] at h ⊢
          by_cases c5 : vs.all (constantsAlone 8) = true
          · rw [if_pos c5] at h; cases h
          · rw [if_neg c5] at h ⊢
            cases h
            rw [← hn]
            rfl
/-! ### statements -/
/-- names read where they are kept (a list of one's own has to become a value first) -/
def escE : Nat → Gam → Bool → Expr → List Str
  | 0, _, _, _ => []
  | n + 1, g, b, e => match e with
    | .Name x _ => if b then [] else [x]
    | .Tuple es _ _ => es.flatMap (escE n g false)
    | .List es _ => es.flatMap (escE n g false)
    | .IfExp c a e _ => escE n g true c ++ escE n g false a ++ escE n g false e
    | .BoolOp _ vs _ => vs.flatMap (escE n g b)
    | .UnaryOp _ a _ => escE n g true a
    | .BinOp a _ e _ => escE n g true a ++ escE n g true e
    | .Compare a _ es _ => escE n g true a ++ es.flatMap (escE n g true)
    | .Subscript a i _ => escE n g true a ++ escE n g true i
    | .Slice a e _ _ => (a.toList ++ e.toList).flatMap (escE n g true)
    | .Call (.Name f _) es _ _ => es.flatMap (escE n g ((lkp g.fns f).isNone && has g.free f))
    | .Call (.Attribute o _ _) es _ _ => escE n g true o ++ es.flatMap (escE n g false)
    | .ListComp elt gens _ _ => escE n g false elt ++ gens.flatMap fun
      | ⟨_, it, ifs, _⟩ => escE n g true it ++ ifs.flatMap (escE n g true)
    | _ => []
def slotsOf (N : List Str) : List Str → List Nat
  | [] => []
  | x :: r => (match ixOf N x with
    | some i => i :: slotsOf N r
    | none => slotsOf N r)
def muE (mu : List Str) (g : Gam) (b : Bool) (e : Expr) : List Nat := slotsOf g.N ((escE 40 g b e).filter (has mu))
def frzW (is : List Nat) (s : Sd) : Sd := match is with
  | [] => s
  | _ => dFrz is s
theorem pds_frzW {is : List Nat} {s : Sd} (h : PS X st (tS G F W s)) : PS X st (tS G F W (frzW is s)) := by
  unfold frzW
  cases is with
  | nil => exact h
  | cons _ _ => exact pds_frz h
/-- two lists in one that is new -/
def oAddL : PV → PV → Option PV
  | .lst xs, .lst ys => oAdd (.lst xs) (.lst ys)
  | _, _ => none
theorem opf_add {B : Option Addr} : OpR X (binaryOp .Add) (fun x y H Q => rOpF (gOf X) B oAddL .non .non x y H Q) := by
  intro pins s σ H x y v u Q I rx ry ⟨O, px, py, z, h1, h2, hf, t, k⟩
  cases px with
  | lst xs =>
    cases py with
    | lst ys =>
      simp only [oAddL, oAdd] at hf
      obtain ⟨rfl, hl⟩ := okLen_some hf
      obtain ⟨a, vs, rfl, ha, ra⟩ := h1.lst_of
      obtain ⟨b, ws, rfl, hb, rb⟩ := h2.lst_of
      exact op_cat pins s σ H _ _ v u Q I rx ry ⟨a, b, vs, ws, rfl, rfl, ha, hb, by rw [ra.length, rb.length]; exact le_line hl, fun p hp => k p _ _ rfl hp (ra.append rb)⟩
    | _ => cases hf
  | _ => cases py <;> cases hf
def listE (d : DD) (g : Gam) (x : Str) (e : Expr) : Option E := bif decide (x = ("list" : Str)) && glB g x && has g.free x && !isStar e then some (dBi bLst (lisE (d.b g) [e])) else none
/-- a list that only the receiver holds, by its text -/
def freshE (d : DD) (g : Gam) : Expr → Option E
  | .List es _ => some (dLst (lisE (d.e g) es))
  | .ListComp elt [c] scope _ => some (compE d g elt scope [c])
  | .BinOp a .Mult b _ => some (dBin oMulL (d.b g a) (d.b g b))
  | .BinOp a .Add b _ => some (dBin oAddL (d.b g a) (d.b g b))
  | .Call (.Name x _) [.Call (.Name y p) [a, b] [] q] [] _ => bif decide (x = ("list" : Str)) && decide (y = ("zip" : Str)) && glB g x && has g.free x && glB g y && has g.free y && !isStar a && !isStar b then some (dBi bZipL (lisE (d.b g) [a, b])) else listE d g x (.Call (.Name y p) [a, b] [] q)
  | .Call (.Name x _) [e] [] _ => listE d g x e
  | _ => none
theorem pf_listE (D : Snd d) (k : Ok X W g F) {x : Str} {e : Expr} {p pos : Pos} {r : E} (h : listE d g x e = some r) : PE X (.Call (.Name x p) [e] [] pos) (tDF (gOf X) F W r) := by
  unfold listE at h
  cases e1 : (decide (x = ("list" : Str)) && glB g x && has g.free x && !isStar e) with
  | false => rw [e1] at h; cases h
  | true =>
    rw [e1] at h
    cases h
    rw [Bool.and_eq_true, Bool.and_eq_true, Bool.and_eq_true, decide_eq_true_eq, Bool.not_eq_true'] at e1
    obtain ⟨⟨⟨rfl, e2⟩, e3⟩, e4⟩ := e1
    exact pf_list (gl_of k e2).1 (k.free _ (has_mem e3)) (lis_ab (D.b k) [e]) e4
theorem pf_fresh (D : Snd d) (k : Ok X W g F) {e : Expr} {r : E} (h : freshE d g e = some r) : PE X e (tDF (gOf X) F W r) := by
  unfold freshE at h
  split at h
  · cases h; exact pf_lst (lis_a (D.e k) _)
  · cases h; exact pf_compE D k rfl
  · cases h; exact pf_bin (pe_op opf_mul (D.b k _) (D.b k _))
  · cases h; exact pf_bin (pe_op opf_add (D.b k _) (D.b k _))
  · rename_i x p y q a b pos2 pos
    cases e1 : (decide (x = ("list" : Str)) && decide (y = ("zip" : Str)) && glB g x && has g.free x && glB g y && has g.free y && !isStar a && !isStar b) with
    | false => rw [e1] at h; exact pf_listE D k h
    | true =>
      rw [e1] at h
      cases h
      simp only [Bool.and_eq_true, decide_eq_true_eq, Bool.not_eq_true'] at e1
      obtain ⟨⟨⟨⟨⟨⟨⟨rfl, rfl⟩, e2⟩, e3⟩, e4⟩, e5⟩, e6⟩, e7⟩ := e1
      exact pf_zip k.calm (gl_of k e2).1 (k.free _ (has_mem e3)) (gl_of k e4).1 (k.free _ (has_mem e5)) (lis_ab (D.b k) [a, b]) e6 e7
  · exact pf_listE D k h
  · cases h
end RX
set_option maxHeartbeats 4000000
namespace RX
open PySem L2
variable {X : Cx} {F : FC} {W : WX} {g : Gam} {d : DD} {G : GC} {st : Stmt} {mu : List Str}

structure OkS (X : Cx) (W : WX) (g : Gam) (F : FC) : Prop where
  ok : Ok X W g F
  own : PassesOwn (model X.prog X.w) X.A X.env X.xe
  fk : funK g = true
  exs : ∀ x, x ∈ g.exs → ∀ m j p2 p pos, Gl X x → MkOk X (.Call (.Name x p) [.Constant (.str m) j p2] [] pos) x
/-- name = e, e's value by a reading te -/
theorem ps_nameD (D : Snd d) (k : OkS X W g F) {x : Str} {i : Nat} {px pos : Pos} {e : Expr} (hl : locB g x = true) (hi : ixOf g.N x = some i) : PS X (.Assign [.Name x px] e pos) (tAsg (tD (gOf X) F W (stepE d g e)) (gName i)) := by
  obtain ⟨l1, l2⟩ := loc_of k.ok hl
  have hN : X.N[i]? = some x := by rw [k.ok.N]; exact ixOf_ok hi
  have stk' : ∀ {e : Expr}, PS X (.Assign [.Name x px] e pos) (tAsg (tD (gOf X) F W stk) (gName i)) := ⟨fun _ _ _ _ _ _ ⟨_, _, _, q⟩ => False.elim q⟩
  cases hc : isComp e with
  | false => exact ps_set k.ok.nd hN l1 (snd_e D k.ok e) (sw_plain hc) l2
  | true =>
    cases e with
    | ListComp elt gens scope p =>
      cases hs : swB g x px scope p with
      | false => exact ps_set k.ok.nd hN l1 (snd_e D k.ok _) (by rw [sw_comp k.ok k.fk, hs]) l2
      | true =>
        have hloc : X.env.scope.names.lookup x = some .local := by
          unfold swB at hs
          rw [Bool.and_eq_true, Bool.and_eq_true] at hs
          have h1 := hs.1.1
          rw [k.ok.sc]
          split at h1
          · assumption
          · cases h1
        have hsw : swapsWith (.ListComp elt gens scope p) (some (.Name x px)) pos.line X.env = pure true := by rw [sw_comp k.ok k.fk, hs]
        show PS X _ (tAsg (tD (gOf X) F W (compE d g elt scope gens)) (gName i))
        unfold compE
        split
        · rename_i tg it ifs
          simp only
          cases e : (blkC g.N g.sc scope (ownOf g.N scope.names) && !isSet it) with
          | false => exact stk'
          | true =>
            rw [Bool.and_eq_true, Bool.not_eq_true'] at e
            obtain ⟨b, kb⟩ := blk_ok k.ok e.1
            simp only [cond_true]
            rw [mapSnd_eq]
            exact PS.imp (ps_setLc k.ok.calm k.ok.nd hN hloc hsw (D.i k.ok false tg it) b (fun s H C cl fp => PG.any fun F' hF' => D.g ((kb s H C cl fp).same hF') _ tg) (fun s H C cl fp => PTs.any fun F' hF' => pts_ifs (fun e => D.t ((kb s H C cl fp).same hF') e) ifs)
              (fun s H C cl fp => PE.any fun F' hF' => D.e ((kb s H C cl fp).same hF') elt) (fold_of e.2 _)) fun D' σ H h => lc_sem h
        · rename_i tg it ifs tg1 it1 ifs1
          simp only
          cases e : (blkC g.N g.sc scope (ownOf g.N scope.names) && !isSet it && !isSet it1 && allIn (mapSnd (ownOf g.N scope.names)) (tgSlots g.N tg1)) with
          | false => exact stk'
          | true =>
            rw [Bool.and_eq_true, Bool.and_eq_true, Bool.and_eq_true, Bool.not_eq_true', Bool.not_eq_true'] at e
            obtain ⟨⟨⟨e1, e2⟩, e3⟩, e4⟩ := e
            obtain ⟨b, kb⟩ := blk_ok k.ok e1
            simp only [cond_true]
            rw [mapSnd_eq] at e4 ⊢
            exact PS.imp (ps_setLc2 k.ok.calm k.ok.nd hN hloc hsw (D.i k.ok false tg it) b (allIn_ok e4) (fun s H C cl fp => PG.any fun F' hF' => D.g ((kb s H C cl fp).same hF') _ tg) (fun s H C cl fp => PTs.any fun F' hF' => pts_ifs (fun e => D.t ((kb s H C cl fp).same hF') e) ifs)
              (fun s H C cl fp => PI.any fun F' hF' => D.i ((kb s H C cl fp).same hF') true tg1 it1) (fun s H C cl fp => PG.any fun F' hF' => D.g ((kb s H C cl fp).same hF') _ tg1) (fun s H C cl fp => PTs.any fun F' hF' => pts_ifs (fun e => D.t ((kb s H C cl fp).same hF') e) ifs1)
              (fun s H C cl fp => PE.any fun F' hF' => D.e ((kb s H C cl fp).same hF') elt) (fold_of e2 _) (fun env x => fold_of e3 env x)) fun D' σ H h => lc2_sem (allIn_ok e4) h
        · exact stk'
    | SetComp _ _ _ _ => exact stk'
    | DictComp _ _ _ _ _ => exact stk'
    | _ => cases hc
theorem ps_nameF (D : Snd d) (k : OkS X W g F) {x : Str} {i : Nat} {px pos : Pos} {e : Expr} {r : E} (hl : locB g x = true) (hi : ixOf g.N x = some i) (hr : freshE d g e = some r) : PS X (.Assign [.Name x px] e pos) (tAsg (tDF (gOf X) F W r) (gName i)) := by
  obtain ⟨l1, l2⟩ := loc_of k.ok hl
  have hN : X.N[i]? = some x := by rw [k.ok.N]; exact ixOf_ok hi
  have stk' : ∀ {e : Expr}, PS X (.Assign [.Name x px] e pos) (tAsg (tDF (gOf X) F W stk) (gName i)) := ⟨fun _ _ _ _ _ _ ⟨_, _, _, q⟩ => False.elim q⟩
  cases hc : isComp e with
  | false => exact ps_set k.ok.nd hN l1 (pf_fresh D k.ok hr) (sw_plain hc) l2
  | true =>
    cases e with
    | ListComp elt gens scope p =>
      cases hs : swB g x px scope p with
      | false => exact ps_set k.ok.nd hN l1 (pf_fresh D k.ok hr) (by rw [sw_comp k.ok k.fk, hs]) l2
      | true =>
        have hloc : X.env.scope.names.lookup x = some .local := by
          unfold swB at hs
          rw [Bool.and_eq_true, Bool.and_eq_true] at hs
          have h1 := hs.1.1
          rw [k.ok.sc]
          split at h1
          · assumption
          · cases h1
        have hsw : swapsWith (.ListComp elt gens scope p) (some (.Name x px)) pos.line X.env = pure true := by rw [sw_comp k.ok k.fk, hs]
        match gens, hr with
        | [c], hr =>
          cases hr
          unfold compE
          split
          · rename_i tg it ifs ec
            cases ec
            simp only
            cases e : (blkC g.N g.sc scope (ownOf g.N scope.names) && !isSet it) with
            | false => exact stk'
            | true =>
              rw [Bool.and_eq_true, Bool.not_eq_true'] at e
              obtain ⟨b, kb⟩ := blk_ok k.ok e.1
              simp only [cond_true]
              rw [mapSnd_eq]
              exact PS.imp (ps_setLc k.ok.calm k.ok.nd hN hloc hsw (D.i k.ok false tg it) b (fun s H C cl fp => PG.any fun F' hF' => D.g ((kb s H C cl fp).same hF') _ tg) (fun s H C cl fp => PTs.any fun F' hF' => pts_ifs (fun e => D.t ((kb s H C cl fp).same hF') e) ifs)
                (fun s H C cl fp => PE.any fun F' hF' => D.e ((kb s H C cl fp).same hF') elt) (fold_of e.2 _)) fun D' σ H h => lc_semF h
          · rename_i ec
            cases ec
          · exact stk'
    | SetComp _ _ _ _ => cases hr
    | DictComp _ _ _ _ _ => cases hr
    | _ => cases hc
/-! ### a name set -/
def isPop : Expr → Option (Str × Nat × Nat)
  | .Call (.Attribute (.Name y _) m ap) [] [] cp => bif decide (m = ("pop" : Str)) then some (y, ap.endLine, cp.line) else none
  | _ => none
def nameS (d : DD) (g : Gam) (mu : List Str) (i : Nat) (e : Expr) : Sd := frzW (muE mu g false e) (bif true then dAsg (gS i) (stepE d g e) else dStk)
def nameSF (d : DD) (g : Gam) (mu : List Str) (i : Nat) (e : Expr) : Sd := match freshE d g e with
  | some r => frzW (muE mu g false e) (dAsgF i r)
  | none => nameS d g mu i e
def moveTo (g : Gam) (mu : List Str) : Expr → Option Nat
  | .Name y _ => bif has mu y && visB g y then ixOf g.N y else none
  | _ => none
def setS (d : DD) (g : Gam) (mu : List Str) (x : Str) (e : Expr) : Sd := bif locB g x then (match ixOf g.N x with
  | some i => (bif has mu x then (match moveTo g mu e with
    | some j => dMove i j
    | none => nameSF d g mu i e) else nameS d g mu i e)
  | none => dStk) else dStk
theorem pds_setS (D : Snd d) (k : OkS X W g F) {x : Str} {px pos : Pos} {e : Expr} : PS X (.Assign [.Name x px] e pos) (tS (gOf X) F W (setS d g mu x e)) := by
  unfold setS
  cases hl : locB g x with
  | false => exact pds_stk
  | true =>
    simp only [cond_true]
    cases hi : ixOf g.N x with
    | none => exact pds_stk
    | some i =>
      simp only
      have nm : PS X (.Assign [.Name x px] e pos) (tS (gOf X) F W (nameS d g mu i e)) := pds_frzW (pds_asg (vs := [i]) (tg := .Name x px) (e := e) (pos := pos) (ps_nameD D k hl hi) (gName_i (.head _)))
      cases hm : has mu x with
      | false => exact nm
      | true =>
        simp only [cond_true]
        cases ht : moveTo g mu e with
        | some j =>
          cases e with
          | Name y py =>
            simp only [moveTo] at ht
            cases hv : (has mu y && visB g y) with
            | false => rw [hv] at ht; cases ht
            | true =>
              rw [hv] at ht
              rw [Bool.and_eq_true] at hv
              obtain ⟨l1, l2⟩ := loc_of k.ok hl
              exact pds_move (ps_set k.ok.nd (by rw [k.ok.N]; exact ixOf_ok hi) l1 (pe_slot k.ok hv.2 ht) (sw_plain rfl) l2)
          | _ => cases ht
        | none =>
          simp only
          unfold nameSF
          cases hr : freshE d g e with
          | none => exact nm
          | some r => exact pds_frzW (PS.imp (ps_nameF D k hl hi hr) fun D' σ H h => asgF_sem h)
end RX
set_option maxHeartbeats 4000000
namespace RX
open PySem L2
variable {X : Cx} {F : FC} {W : WX} {g : Gam} {d : DD} {G : GC} {st : Stmt} {mu : List Str}

/-! ### several names at once -/
def flE (d : DD) (g : Gam) (mu : List Str) (t e : Expr) : Bool × E := match t with
  | .Name x _ => (bif has mu x then (match freshE d g e with
    | some r => (true, r)
    | none => (false, stepE d g e)) else (false, stepE d g e))
  | _ => (false, stepE d g e)
def nmSlot (g : Gam) : Expr → Option Nat
  | .Name x _ => bif locB g x then (match g.sc.names.lookup x with
    | some .local => ixOf g.N x
    | _ => none) else none
  | _ => none
theorem nmSlot_ok (k : Ok X W g F) {t : Expr} {i : Nat} (h : nmSlot g t = some i) : ∃ x p, t = .Name x p ∧ X.N[i]? = some x ∧ X.env.scope.names.lookup x = some .local := by
  cases t with
  | Name x p =>
    simp only [nmSlot] at h
    cases e : locB g x with
    | false => rw [e] at h; cases h
    | true =>
      rw [e] at h
      simp only [cond_true] at h
      split at h
      · rename_i hl; exact ⟨x, p, rfl, by rw [k.N]; exact ixOf_ok h, by rw [k.sc]; exact hl⟩
      · cases h
  | _ => cases h
theorem pal_fl (D : Snd d) (k : Ok X W g F) {t e : Expr} {es : List Expr} {ds : E} {fl : List Bool} (hs : ∀ F', F'.tl = F.tl → PA X es (tDL fl (gOf X) F' W ds)) (hst : isStar e = false) : ∀ F', F'.tl = F.tl → PA X (e :: es) (tDL ((flE d g mu t e).1 :: fl) (gOf X) F' W (dCons (flE d g mu t e).2 ds)) := by
  intro F' hF'
  have k := k.same hF'
  have hs : ∀ F2, F2.tl = F'.tl → PA X es (tDL fl (gOf X) F2 W ds) := fun F2 h => hs F2 (h.trans hF')
  have plain : PA X (e :: es) (tDL (false :: fl) (gOf X) F' W (dCons (stepE d g e) ds)) := pal_cons (snd_e D k e) (hs F' rfl) (star_cons hst)
  unfold flE
  split
  · rename_i x p
    cases has mu x with
    | false => exact plain
    | true =>
      simp only [cond_true]
      cases hr : freshE d g e with
      | none => exact plain
      | some r => exact pal_consF (pf_fresh D k hr) hs (star_cons hst)
  · exact plain
def muL (mu : List Str) (g : Gam) (es : List Expr) : List Nat := slotsOf g.N ((es.flatMap (escE 40 g false)).filter (has mu))
def neq (i j : Nat) : Bool := !Nat.beq i j
theorem neq_ok {i j : Nat} (h : neq i j = true) : i ≠ j := fun e => by subst e; simp [neq] at h
def parS (d : DD) (g : Gam) (mu : List Str) (ts vs : List Expr) : Sd := frzW (muL mu g vs) (match ts, vs with
  | [t1, t2], [e1, e2] => (match nmSlot g t1, nmSlot g t2 with
    | some i, some j => bif neq i j && noStar [e1, e2] then dPar [(i, (flE d g mu t1 e1).1), (j, (flE d g mu t2 e2).1)] (dCons (flE d g mu t1 e1).2 (dCons (flE d g mu t2 e2).2 dNil)) else dStk
    | _, _ => dStk)
  | [t1, t2, t3], [e1, e2, e3] => (match nmSlot g t1, nmSlot g t2, nmSlot g t3 with
    | some i, some j, some l => bif neq i j && neq i l && neq j l && noStar [e1, e2, e3] then dPar [(i, (flE d g mu t1 e1).1), (j, (flE d g mu t2 e2).1), (l, (flE d g mu t3 e3).1)] (dCons (flE d g mu t1 e1).2 (dCons (flE d g mu t2 e2).2 (dCons (flE d g mu t3 e3).2 dNil))) else dStk
    | _, _, _ => dStk)
  | _, _ => dStk)
def namesAre (ts : List Expr) (ns : List Str) : Bool := decide (ts.map (fun | .Name x _ => x | _ => "") = ns)
theorem pds_parS (D : Snd d) (k : OkS X W g F) {ts vs : List Expr} {ns : List Str} {k1 k2 : Nat} {p1 p2 pos : Pos} (hsw : swN g ts vs = some (some ns)) (hna : namesAre ts ns = true) : PS X (.Assign [.Tuple ts k1 p1] (.Tuple vs k2 p2) pos) (tS (gOf X) F W (parS d g mu ts vs)) := by
  refine pds_frzW ?_
  have hw := swN_ok k.ok k.fk (k1 := k1) (k2 := k2) (p1 := p1) (p2 := p2) hsw
  unfold namesAre at hna
  rw [decide_eq_true_eq] at hna
  split
  · rename_i t1 t2 e1 e2
    cases h1 : nmSlot g t1 with
    | none => exact pds_stk
    | some i =>
      cases h2 : nmSlot g t2 with
      | none => exact pds_stk
      | some j =>
        simp only
        cases h3 : (neq i j && noStar [e1, e2]) with
        | false => exact pds_stk
        | true =>
          rw [Bool.and_eq_true] at h3
          obtain ⟨n1, n2⟩ := noStar_two h3.2
          obtain ⟨x, px, rfl, hx, lx⟩ := nmSlot_ok k.ok h1
          obtain ⟨y, py, rfl, hy, ly⟩ := nmSlot_ok k.ok h2
          simp only [List.map_cons, List.map_nil] at hna
          subst hna
          exact pds_par2 (ps_par k.ok.calm k.ok.nd hx hy (neq_ok h3.1) lx ly (pal_fl D k.ok (pal_fl D k.ok (fun _ _ => pal_nil) n2) n1 F rfl) hw)
  · rename_i t1 t2 t3 e1 e2 e3
    cases h1 : nmSlot g t1 with
    | none => exact pds_stk
    | some i =>
      cases h2 : nmSlot g t2 with
      | none => exact pds_stk
      | some j =>
        cases h4 : nmSlot g t3 with
        | none => exact pds_stk
        | some l =>
          simp only
          cases h3 : (neq i j && neq i l && neq j l && noStar [e1, e2, e3]) with
          | false => exact pds_stk
          | true =>
            rw [Bool.and_eq_true, Bool.and_eq_true, Bool.and_eq_true] at h3
            obtain ⟨⟨⟨m1, m2⟩, m3⟩, m4⟩ := h3
            have n : isStar e1 = false ∧ isStar e2 = false ∧ isStar e3 = false := by simpa [noStar] using m4
            obtain ⟨x, px, rfl, hx, lx⟩ := nmSlot_ok k.ok h1
            obtain ⟨y, py, rfl, hy, ly⟩ := nmSlot_ok k.ok h2
            obtain ⟨z, pz, rfl, hz, lz⟩ := nmSlot_ok k.ok h4
            simp only [List.map_cons, List.map_nil] at hna
            subst hna
            exact pds_par3 (ps_par3 k.ok.calm k.ok.nd hx hy hz (neq_ok m1) (neq_ok m2) (neq_ok m3) lx ly lz (pal_fl D k.ok (pal_fl D k.ok (pal_fl D k.ok (fun _ _ => pal_nil) n.2.2) n.2.1) n.1 F rfl) hw)
  · exact pds_stk
/-! ### a target that takes a value apart -/
def tupTS (d : DD) (g : Gam) (mu : List Str) (tg e : Expr) : Sd := frzW (muE mu g false e) (dAsg (stepG d g (tgSlots g.N tg) tg) (stepE d g e))
theorem pds_tupTS (D : Snd d) (k : OkS X W g F) {ts : List Expr} {k1 : Nat} {p1 pos : Pos} {e : Expr} (hw : swappedStores [.Tuple ts k1 p1] e X.env = pure none) : PS X (.Assign [.Tuple ts k1 p1] e pos) (tS (gOf X) F W (tupTS d g mu (.Tuple ts k1 p1) e)) := by
  refine pds_frzW (pds_asg (tg := .Tuple ts k1 p1) (e := e) (pos := pos) (vs := tgSlots g.N (.Tuple ts k1 p1)) (ps_asg (snd_e D k.ok e) (snd_g D k.ok _ _) ?_ hw rfl) fun v σ H Q h => h)
  exact sw_notName rfl (.inr trivial)
theorem sw_none {ts : List Expr} {k1 : Nat} {p1 : Pos} {e : Expr} {env : Env} (h : (match e with | .Tuple .. => false | _ => true) = true) : swappedStores [.Tuple ts k1 p1] e env = pure none := by
  cases e <;> first | rfl | (cases h)
/-! ### pop, append -/
theorem pe_pop {y : Str} {j : Nat} {py ap cp : Pos} (k : Ok X W g F) (hv : visB g y = true) (hj : ixOf g.N y = some j) (hline : (ap.endLine == cp.line) = true) : PE X (.Call (.Attribute (.Name y py) "pop" ap) [] [] cp) (tBM0 X.K "list" rPop (tVar j)) :=
  pe_bm0 PySem.F.plainAttrs_list PySem.F.slot_list_pop PySem.F.type_list_pop mt_pop (pe_slot k hv hj) rfl hline
def popS (d : DD) (g : Gam) (tg : Expr) (y : Str) (l1 l2 : Nat) : Sd := bif visB g y && (l1 == l2) then (match ixOf g.N y with
  | some j => dPop j (stepG d g (tgSlots g.N tg) tg)
  | none => dStk) else dStk
theorem isPop_ok {e : Expr} {y : Str} {a b : Nat} (h : isPop e = some (y, a, b)) : ∃ py ap cp, e = .Call (.Attribute (.Name y py) "pop" ap) [] [] cp ∧ a = ap.endLine ∧ b = cp.line := by
  unfold isPop at h
  split at h
  · rename_i y' py m ap cp
    cases e1 : decide (m = ("pop" : Str)) with
    | false => rw [e1] at h; cases h
    | true =>
      rw [e1] at h
      cases h
      rw [decide_eq_true_eq] at e1
      subst e1
      exact ⟨_, _, _, rfl, rfl, rfl⟩
  · cases h
theorem pds_popT (D : Snd d) (k : OkS X W g F) {ts : List Expr} {k1 : Nat} {p1 pos : Pos} {e : Expr} {y : Str} {a b : Nat} (h : isPop e = some (y, a, b)) : PS X (.Assign [.Tuple ts k1 p1] e pos) (tS (gOf X) F W (popS d g (.Tuple ts k1 p1) y a b)) := by
  obtain ⟨py, ap, cp, rfl, rfl, rfl⟩ := isPop_ok h
  unfold popS
  cases hv : (visB g y && (ap.endLine == cp.line)) with
  | false => exact pds_stk
  | true =>
    simp only [cond_true]
    rw [Bool.and_eq_true] at hv
    cases hj : ixOf g.N y with
    | none => exact pds_stk
    | some j => exact pds_pop (vs := tgSlots g.N (.Tuple ts k1 p1)) (ps_asg (pe_pop k.ok hv.1 hj hv.2) (snd_g D k.ok _ _) (sw_notName rfl (.inr trivial)) (sw_none rfl) rfl) fun v σ H Q h => h
theorem pds_popN (D : Snd d) (k : OkS X W g F) {x : Str} {p1 pos : Pos} {e : Expr} {y : Str} {a b : Nat} (h : isPop e = some (y, a, b)) : PS X (.Assign [.Name x p1] e pos) (tS (gOf X) F W (popS d g (.Name x p1) y a b)) := by
  obtain ⟨py, ap, cp, rfl, rfl, rfl⟩ := isPop_ok h
  unfold popS
  cases hv : (visB g y && (ap.endLine == cp.line)) with
  | false => exact pds_stk
  | true =>
    simp only [cond_true]
    rw [Bool.and_eq_true] at hv
    cases hj : ixOf g.N y with
    | none => exact pds_stk
    | some j => exact pds_pop (vs := tgSlots g.N (.Name x p1)) (ps_asg (pe_pop k.ok hv.1 hj hv.2) (snd_g D k.ok _ _) (by show swapsWith (.Call (.Attribute (.Name y py) "pop" ap) [] [] cp) (some (.Name x p1)) pos.line X.env = pure false; exact sw_plain rfl) rfl rfl) fun v σ H Q h => h
def isApp : Expr → Option (Str × Expr × Nat × Nat)
  | .Call (.Attribute (.Name y _) m ap) [e] [] cp => bif decide (m = ("append" : Str)) then some (y, e, ap.endLine, cp.line) else none
  | _ => none
theorem isApp_ok {e r : Expr} {y : Str} {a b : Nat} (h : isApp e = some (y, r, a, b)) : ∃ py ap cp, e = .Call (.Attribute (.Name y py) "append" ap) [r] [] cp ∧ a = ap.endLine ∧ b = cp.line := by
  unfold isApp at h
  split at h
  · rename_i y' py m ap r' cp
    cases e1 : decide (m = ("append" : Str)) with
    | false => rw [e1] at h; cases h
    | true =>
      rw [e1] at h
      cases h
      rw [decide_eq_true_eq] at e1
      subst e1
      exact ⟨_, _, _, rfl, rfl, rfl⟩
  · cases h
def appS (d : DD) (g : Gam) (mu : List Str) (y : Str) (e : Expr) (l1 l2 : Nat) : Sd := bif visB g y && (l1 == l2) && !isStar e then (match ixOf g.N y with
  | some j => frzW (muE mu g false e) (dApp j (stepE d g e))
  | none => dStk) else dStk
theorem pds_appS (D : Snd d) (k : OkS X W g F) {e r : Expr} {pos : Pos} {y : Str} {a b : Nat} (h : isApp e = some (y, r, a, b)) : PS X (.Expr e pos) (tS (gOf X) F W (appS d g mu y r a b)) := by
  obtain ⟨py, ap, cp, rfl, rfl, rfl⟩ := isApp_ok h
  unfold appS
  cases hv : (visB g y && (ap.endLine == cp.line) && !isStar r) with
  | false => exact pds_stk
  | true =>
    simp only [cond_true]
    rw [Bool.and_eq_true, Bool.and_eq_true, Bool.not_eq_true'] at hv
    obtain ⟨⟨h1, h2⟩, h3⟩ := hv
    cases hj : ixOf g.N y with
    | none => exact pds_stk
    | some j =>
      refine pds_frzW (pds_app (e := r) (ps_expr (pe_bm PySem.F.plainAttrs_list PySem.F.slot_list_append PySem.F.type_list_append mt_append (pe_slot k.ok h1 hj) (pa_cons (snd_e D k.ok r) pa_nil (star_cons h3)) rfl ?_ h2 (star_cons h3) rfl) (sw_plain rfl)))
      rw [star_cons h3]
      rfl
end RX
set_option maxHeartbeats 4000000
namespace RX
open PySem L2
variable {X : Cx} {F : FC} {W : WX} {g : Gam} {d : DD} {G : GC} {st : Stmt} {mu : List Str}

/-! ### items set -/
theorem as_sub {o i : Expr} {pos : Pos} (h : isSlice i = false) {env : Env} (v : Value) : assign (.Subscript o i pos) env v = (do
      let ov ← holding [v] (eval o env)
      let iv ← holding [v, ov] (eval i env)
      standAt pos
      holding [v, ov, iv] (setItem ov iv v)
      release [v, ov, iv] []) := by
  rw [assign]
  cases i <;> first | rfl | (cases h)
def subT (g : Gam) : Expr → Option (Nat × Expr)
  | .Subscript (.Name x _) i _ => bif visB g x && !isSlice i then (match ixOf g.N x with
    | some j => some (j, i)
    | none => none) else none
  | _ => none
theorem subT_ok (k : Ok X W g F) {t i : Expr} {j : Nat} (h : subT g t = some (j, i)) : ∃ x p q, t = .Subscript (.Name x p) i q ∧ PE X (.Name x p) (tVar j) ∧ isSlice i = false := by
  unfold subT at h
  split at h
  · rename_i x p i' q
    cases e : (visB g x && !isSlice i') with
    | false => rw [e] at h; cases h
    | true =>
      rw [e] at h
      rw [Bool.and_eq_true, Bool.not_eq_true'] at e
      simp only [cond_true] at h
      cases e2 : ixOf g.N x with
      | none => rw [e2] at h; cases h
      | some j' => rw [e2] at h; cases h; exact ⟨x, p, q, rfl, pe_slot k e.1 e2, e.2⟩
  · cases h
def setIxS (d : DD) (g : Gam) (mu : List Str) (t e : Expr) : Sd := match subT g t with
  | some (j, i) => frzW (muE mu g false e) (dSetIx j (stepB d g i) (stepE d g e))
  | none => dStk
theorem pds_setIxS (D : Snd d) (k : OkS X W g F) {t e : Expr} {pos : Pos} : PS X (.Assign [t] e pos) (tS (gOf X) F W (setIxS d g mu t e)) := by
  unfold setIxS
  cases h : subT g t with
  | none => exact pds_stk
  | some p =>
    obtain ⟨j, i⟩ := p
    obtain ⟨x, p, q, rfl, hx, hsl⟩ := subT_ok k.ok h
    exact pds_frzW (pds_setIx (ps_asg (snd_e D k.ok e) (pg_sub hx (snd_b D k.ok i) set_list (as_sub hsl)) (sw_notName rfl (.inr trivial)) rfl rfl))
def set2S (d : DD) (g : Gam) (mu : List Str) (ts vs : List Expr) : Sd := match ts with
  | [t1, t2] => (match subT g t1, subT g t2 with
    | some (i, ie), some (j, je) => frzW (muL mu g vs) (dSet2 i (stepB d g ie) j (stepB d g je) (dTup (lisE (stepE d g) vs)))
    | _, _ => dStk)
  | _ => dStk
theorem pds_set2S (D : Snd d) (k : OkS X W g F) {ts vs : List Expr} {k1 k2 : Nat} {p1 p2 pos : Pos} (hsw : swN g ts vs = some none) : PS X (.Assign [.Tuple ts k1 p1] (.Tuple vs k2 p2) pos) (tS (gOf X) F W (set2S d g mu ts vs)) := by
  unfold set2S
  split
  · rename_i t1 t2
    cases h1 : subT g t1 with
    | none => exact pds_stk
    | some p =>
      cases h2 : subT g t2 with
      | none => exact pds_stk
      | some q =>
        obtain ⟨i, ie⟩ := p
        obtain ⟨j, je⟩ := q
        obtain ⟨x, px, qx, rfl, hx, hs1⟩ := subT_ok k.ok h1
        obtain ⟨y, py, qy, rfl, hy, hs2⟩ := subT_ok k.ok h2
        refine pds_frzW (pds_set2 (G := gOf X) (ps_asg (pd_tup (lis_a (fun e => snd_e D k.ok e) vs)) (pg_tup k.ok.calm (pgs_cons (pg_sub hx (snd_b D k.ok ie) set_list (as_sub hs1)) (pgs_cons (pg_sub hy (snd_b D k.ok je) set_list (as_sub hs2)) pgs_nil rfl) rfl) rfl rfl) (sw_notName rfl (.inr trivial)) (swN_ok k.ok k.fk hsw) rfl))
  · exact pds_stk
/-! ### assignments -/
def isTupV : Expr → Option (List Expr)
  | .Tuple vs _ _ => some vs
  | _ => none
def asgS (d : DD) (g : Gam) (mu : List Str) (e : Expr) : Expr → Sd
  | .Name x p => (match isPop e with
    | some (y, a, b) => popS d g (.Name x p) y a b
    | none => setS d g mu x e)
  | .Tuple ts k1 p1 => (match isPop e with
    | some (y, a, b) => popS d g (.Tuple ts k1 p1) y a b
    | none => (match isTupV e with
      | some vs => (match swN g ts vs with
        | some (some ns) => bif namesAre ts ns then parS d g mu ts vs else dStk
        | some none => bif (ts.all fun t => (subT g t).isSome) then set2S d g mu ts vs else tupTS d g mu (.Tuple ts k1 p1) e
        | none => dStk)
      | none => tupTS d g mu (.Tuple ts k1 p1) e))
  | t => setIxS d g mu t e
theorem pds_asgS (D : Snd d) (k : OkS X W g F) {t e : Expr} {pos : Pos} : PS X (.Assign [t] e pos) (tS (gOf X) F W (asgS d g mu e t)) := by
  cases t with
  | Name x p =>
    show PS X _ (tS (gOf X) F W (match isPop e with
      | some (y, a, b) => popS d g (.Name x p) y a b
      | none => setS d g mu x e))
    cases h : isPop e with
    | some q => obtain ⟨y, a, b⟩ := q; exact pds_popN D k h
    | none => exact pds_setS D k
  | Tuple ts k1 p1 =>
    show PS X _ (tS (gOf X) F W (match isPop e with
      | some (y, a, b) => popS d g (.Tuple ts k1 p1) y a b
      | none => (match isTupV e with
        | some vs => (match swN g ts vs with
          | some (some ns) => bif namesAre ts ns then parS d g mu ts vs else dStk
          | some none => bif (ts.all fun t => (subT g t).isSome) then set2S d g mu ts vs else tupTS d g mu (.Tuple ts k1 p1) e
          | none => dStk)
        | none => tupTS d g mu (.Tuple ts k1 p1) e)))
    cases h : isPop e with
    | some q => obtain ⟨y, a, b⟩ := q; exact pds_popT D k h
    | none =>
      simp only
      cases e with
      | Tuple vs k2 p2 =>
        simp only [isTupV]
        cases hs : swN g ts vs with
        | none => exact pds_stk
        | some r =>
          cases r with
          | some ns =>
            simp only
            cases hn : namesAre ts ns with
            | false => exact pds_stk
            | true => exact pds_parS D k hs hn
          | none =>
            simp only
            cases ha : (ts.all fun t => (subT g t).isSome) with
            | true => exact pds_set2S D k hs
            | false => exact pds_tupTS D k (swN_ok k.ok k.fk hs)
      | _ => exact pds_tupTS D k (sw_none rfl)
  | _ => exact pds_setIxS (mu := mu) D k
/-! ### raise -/
def raiseS (g : Gam) : Expr → Sd
  | .Call (.Name x _) [.Constant (.str _) _ _] [] _ => bif has g.exs x && glB g x then dRaise x else dStk
  | _ => dStk
theorem pds_raiseS (k : OkS X W g F) {e : Expr} {pos : Pos} : PS X (.Raise (some e) none pos) (tS (gOf X) F W (raiseS g e)) := by
  unfold raiseS
  split
  · rename_i x p m j p2 pos2
    cases h : (has g.exs x && glB g x) with
    | false => exact pds_stk
    | true =>
      rw [Bool.and_eq_true] at h
      exact pds_raise k.ok.calm k.ok.tk (k.exs x (has_mem h.1) m j p2 p pos2 (gl_of k.ok h.2).1)
  · exact pds_stk
/-! ### blocks -/
def exprS (d : DD) (g : Gam) (mu : List Str) (e : Expr) : Sd := match isApp e with
  | some (y, r, a, b) => appS d g mu y r a b
  | none => (match e with
    | .Constant (.str _) _ _ => dNext
    | e => bif isComp e then dStk else frzW (muE mu g false e) (dDrop (stepE d g e)))
theorem pds_exprS (D : Snd d) (k : OkS X W g F) {e : Expr} {pos : Pos} : PS X (.Expr e pos) (tS (gOf X) F W (exprS d g mu e)) := by
  unfold exprS
  cases h : isApp e with
  | some q => obtain ⟨y, r, a, b⟩ := q; exact pds_appS D k h
  | none =>
    simp only
    split
    · exact pds_doc
    · cases hc : isComp e with
      | true => exact pds_stk
      | false => exact pds_frzW (pds_expr (snd_e D k.ok e) (sw_plain hc))
def seqS (f : Stmt → Sd) : List Stmt → Sd
  | [] => dNext
  | [s] => f s
  | s :: r => dSeq (f s) (seqS f r)
theorem pds_one {a : Sd} (h : PS X st (tS G F W a)) : PSs X [st] (tS G F W a) := pss_one h
theorem pds_seqS {f : Stmt → Sd} (h : ∀ s, PS X s (tS G F W (f s))) : ∀ l, PSs X l (tS G F W (seqS f l))
  | [] => pds_nil
  | [s] => pds_one (h s)
  | s :: t :: r => pds_cons (h s) (pds_seqS h (t :: r))
/-- what a def gives back; the name return among xt: made to be known -/
def retE (d : DD) (g : Gam) (e : Expr) : E := bif has g.xt ("return" : Str) then mkE d g e else stepE d g e
theorem pd_retE (D : Snd d) (k : Ok X W g F) (e : Expr) : PE X e (tD (gOf X) F W (retE d g e)) := by
  unfold retE
  cases has g.xt ("return" : Str) with
  | true => exact pd_mkE D k e
  | false => exact snd_e D k e
def stmS (d : DD) (g : Gam) (mu : List Str) (wf : Nat) : Nat → Stmt → Sd
  | 0, _ => dStk
  | n + 1, s => match s with
    | .Assign [t] e _ => asgS d g mu e t
    | .Return (some e) _ => dRet (retE d g e)
    | .Return none _ => dRetN
    | .If c a b _ => frzW (muE mu g true c) (dIfS (stepT d g c) (seqS (stmS d g mu wf n) a) (seqS (stmS d g mu wf n) b))
    | .For tg it b [] _ => bif isSet it then dStk else frzW (muE mu g false it) (dFor (stepI d g true tg it) (stepG d g (tgSlots g.N tg) tg) (seqS (stmS d g mu wf n) b))
    | .While c b [] _ => frzW (muE mu g true c) (dWhl wf (stepT d g c) (seqS (stmS d g mu wf n) b))
    | .Expr e _ => exprS d g mu e
    | .Raise (some e) none _ => raiseS g e
    | .Pass _ => dNext
    | .Break _ => dBrk
    | .Continue _ => dCnt
    | _ => dStk
theorem pds_stmS (D : Snd d) (k : OkS X W g F) {wf : Nat} : ∀ n s, PS X s (tS (gOf X) F W (stmS d g mu wf n s))
  | 0, s => pds_stk
  | n + 1, s => by
    have ih := pds_stmS D k (wf := wf) n
    unfold stmS
    split
    · exact pds_asgS D k
    · exact pds_ret (pd_retE D k.ok _)
    · exact pds_retN
    · exact pds_frzW (pds_if (snd_t D k.ok _) (pds_seqS ih _) (pds_seqS ih _))
    · rename_i tg it b p
      cases h : isSet it with
      | true => exact pds_stk
      | false => exact pds_frzW (pds_for (vs := tgSlots g.N tg) k.own k.ok.calm (snd_i D k.ok true tg it) (snd_g D k.ok _ tg) (pds_seqS ih _) (fold_of h _))
    · exact pds_frzW (pds_while k.own (snd_t D k.ok _) (pds_seqS ih _))
    · exact pds_exprS D k
    · exact pds_raiseS k
    · exact pds_pass
    · exact pds_brk
    · exact pds_cnt
    · exact pds_stk
def bodyS (g : Gam) (mu : List Str) (wf : Nat) (l : List Stmt) : Sd := seqS (stmS (den 30) g mu wf 12) l
theorem body_ok (k : OkS X W g F) {wf : Nat} {l : List Stmt} : PSs X l (tS (gOf X) F W (bodyS g mu wf l)) := pds_seqS (pds_stmS (snd_den 30) k 12) l
end RX
set_option maxHeartbeats 4000000
/-! While an exception is handled: a list and a tuple walked to their ends, tuples taken apart. -/
namespace RX
open PySem PySem.Spec PyProof.Rows L2 HotX L2H
section
variable {prog : Program} {w : World} {A : Around} {E : Value → Shared → Prop} {s : Shared}
theorem list_end_hot {it l x1 : Addr} {i : Nat} {items : Array Value} {Q : Option Value → Shared → Prop} (hot : HotAt A x1 s.heap) (hne : x1 ≠ it)
    (hit : s.heap.IsListIter it l i) (hl : s.heap.IsList l items) (hx : items[i]? = none)
    (hQ : ∀ h', Heap.ExtBut it s.heap h' → Q none { s with heap := h' }) : wpAny (model prog w) A (pyNext (.ref it)) Q E s := by
  obtain ⟨o, ho, hc, hd⟩ := id hit
  obtain ⟨ol, hol, _, nl, hdl⟩ := hl
  obtain ⟨hh, o1, vs1, h1, d1, c1⟩ := hot
  unfold pyNext
  refine wpAny_bind (wpAny_attempt (wpAny_callSpecial?_slot (name := Str.ofString "__next__") hit.typeIs slot_listiter_next
    (wpAny_call_entry slot_listiter_next hit.typeIs entry_listiter_next ?_ (args_listiter_next _))))
  show wpAny _ _ (field (.ref it) 0 >>= _) _ _ s
  refine wpAny_bind (wpAny_field ho hd (x := .ref l) rfl ?_)
  show wpAny _ _ (if (Value.ref l == Value.none) = true then _ else _) _ _ s
  rw [if_neg (show ¬ ((Value.ref l == Value.none) = true) from Bool.false_ne_true)]
  show wpAny _ _ (field (.ref it) 1 >>= _) _ _ s
  refine wpAny_bind (wpAny_field ho hd (x := .int i 0) rfl ?_)
  show wpAny _ _ (seqItems? (.ref l) >>= _) _ _ s
  refine wpAny_bind (wpAny_seqItems hol hdl ?_)
  simp only [Int.toNat_natCast, hx]
  refine wpAny_bind (wpAny_rule (wpAny_bind (wpAny_setField ho hd (by simp) ?_)))
  show wpAny _ _ (newExc (.type "StopIteration") [] >>= _) _ _ _
  refine wpAny_bind ?_
  simp only [newExc, newTuple]
  refine wpAny_bind (wpAny_newObj_type ?_ (by size_fits))
  refine wpAny_bind (m := firstArgMember _ _) (wpAny_of_eq (a := Value.none) (by first | rfl | (simp only [firstArgMember]; rfl)) ?_)
  refine wpAny_newObj_type ?_ (by size_fits)
  have k1 : ∀ (f : Obj → Obj) b o, b ≠ it → s.heap.get? b = some o → (s.heap.update it f).get? b = some o := fun f b o hb e => ((Heap.get?_update_other _ _ (Ne.symm hb)).trans e)
  refine raiseNew_hot ⟨hh, o1, vs1, Heap.get?_push_of_some _ (Heap.get?_push_of_some _ (k1 _ _ _ hne h1)), d1, c1⟩ (Nat.ne_of_lt (Heap.lt_size (Heap.get?_push_of_some _ (k1 _ _ _ hne h1)))) (Heap.get?_push_size _ rfl) rfl (by first | (simp; done) | (simp; omega) | (simp only [Array.size_append]; simp; omega)) ?_
  refine wpAny_bind (wpAny_isInstance (T := "StopIteration") (b := true) ⟨_, Heap.get?_update_self _ (Heap.get?_push_size _ rfl) rfl, rfl⟩ isSubtype_stop ?_)
  refine wpAny_pure (hQ _ fun b o hb e => ?_)
  rw [Heap.get?_update_other _ _ (Nat.ne_of_gt (Heap.lt_size (Heap.get?_push_of_some _ (k1 _ _ _ hb e))))]
  exact Heap.get?_push_of_some _ (Heap.get?_push_of_some _ (k1 _ _ _ hb e))
theorem tup_end_hot {it l x1 : Addr} {i : Nat} {items : Array Value} {Q : Option Value → Shared → Prop} (hot : HotAt A x1 s.heap) (hne : x1 ≠ it)
    (hit : IsTupIter s.heap it l i) (hl : IsTup s.heap l items) (hx : items[i]? = none)
    (hQ : ∀ h', Heap.ExtBut it s.heap h' → Q none { s with heap := h' }) : wpAny (model prog w) A (pyNext (.ref it)) Q E s := by
  obtain ⟨o, ho, hc, hd⟩ := id hit
  obtain ⟨ol, hol, _, nl, hdl⟩ := hl
  obtain ⟨hh, o1, vs1, h1, d1, c1⟩ := hot
  unfold pyNext
  refine wpAny_bind (wpAny_attempt (wpAny_callSpecial?_slot (name := Str.ofString "__next__") hit.typeIs slot_tupleiter_next
    (wpAny_call_entry slot_tupleiter_next hit.typeIs entry_tupleiter_next ?_ (args_tupleiter_next _))))
  show wpAny _ _ (field (.ref it) 0 >>= _) _ _ s
  refine wpAny_bind (wpAny_field ho hd (x := .ref l) rfl ?_)
  show wpAny _ _ (if (Value.ref l == Value.none) = true then _ else _) _ _ s
  rw [if_neg (show ¬ ((Value.ref l == Value.none) = true) from Bool.false_ne_true)]
  show wpAny _ _ (field (.ref it) 1 >>= _) _ _ s
  refine wpAny_bind (wpAny_field ho hd (x := .int i 0) rfl ?_)
  show wpAny _ _ (seqItems? (.ref l) >>= _) _ _ s
  refine wpAny_bind (wpAny_seqItems hol hdl ?_)
  simp only [Int.toNat_natCast, hx]
  refine wpAny_bind (wpAny_rule (wpAny_bind (wpAny_setField ho hd (by simp) ?_)))
  show wpAny _ _ (newExc (.type "StopIteration") [] >>= _) _ _ _
  refine wpAny_bind ?_
  simp only [newExc, newTuple]
  refine wpAny_bind (wpAny_newObj_type ?_ (by size_fits))
  refine wpAny_bind (m := firstArgMember _ _) (wpAny_of_eq (a := Value.none) (by first | rfl | (simp only [firstArgMember]; rfl)) ?_)
  refine wpAny_newObj_type ?_ (by size_fits)
  have k1 : ∀ (f : Obj → Obj) b o, b ≠ it → s.heap.get? b = some o → (s.heap.update it f).get? b = some o := fun f b o hb e => ((Heap.get?_update_other _ _ (Ne.symm hb)).trans e)
  refine raiseNew_hot ⟨hh, o1, vs1, Heap.get?_push_of_some _ (Heap.get?_push_of_some _ (k1 _ _ _ hne h1)), d1, c1⟩ (Nat.ne_of_lt (Heap.lt_size (Heap.get?_push_of_some _ (k1 _ _ _ hne h1)))) (Heap.get?_push_size _ rfl) rfl (by first | (simp; done) | (simp; omega) | (simp only [Array.size_append]; simp; omega)) ?_
  refine wpAny_bind (wpAny_isInstance (T := "StopIteration") (b := true) ⟨_, Heap.get?_update_self _ (Heap.get?_push_size _ rfl) rfl, rfl⟩ isSubtype_stop ?_)
  refine wpAny_pure (hQ _ fun b o hb e => ?_)
  rw [Heap.get?_update_other _ _ (Nat.ne_of_gt (Heap.lt_size (Heap.get?_push_of_some _ (k1 _ _ _ hb e))))]
  exact Heap.get?_push_of_some _ (Heap.get?_push_of_some _ (k1 _ _ _ hb e))

theorem HotAt.keep {A : Around} {x1 : Addr} {h h' : Heap} (hot : HotAt A x1 h) (k : ∀ o, h.get? x1 = some o → h'.get? x1 = some o) : HotAt A x1 h' := by
  obtain ⟨hh, o1, vs1, h1, d1, c1⟩ := hot
  exact ⟨hh, o1, vs1, k _ h1, d1, c1⟩
theorem unpackItems_hot {t x1 : Addr} {items : Array Value} {Q : List Value → Shared → Prop} (hot : HotAt A x1 s.heap) (ht : IsTup s.heap t items)
    (hQ : ∀ h', Heap.ExtBut s.heap.objs.size s.heap h' → Q items.toList { s with heap := h' }) : wpAny (model prog w) A (unpackItems (.ref t) items.size none) Q E s := by
  have hlt : t ≠ s.heap.objs.size := by obtain ⟨o, ho, _⟩ := ht; exact Nat.ne_of_lt (Heap.lt_size ho)
  have hx1 : x1 ≠ s.heap.objs.size := by obtain ⟨_, o, _, ho, _⟩ := hot; exact Nat.ne_of_lt (Heap.lt_size ho)
  unfold unpackItems
  refine wpAny_bind ?_
  unfold notIterableAtAll
  refine wpAny_bind (wpAny_specialOf ht.typeIs slot_tuple_iter.lookup ?_)
  refine wpAny_pure ?_
  simp only [Bool.false_eq_true, if_false]
  refine wpAny_bind (wpAny_holding (iter_tuple ht ?_))
  refine wpAny_bind (wpAny_holding (draw_tuple hlt items.size 0 _ _ ⟨_, Heap.get?_push_size _ rfl, rfl, rfl⟩ (ht.push _) (by omega) fun h₁ hit₁ hs₁ => ?_))
  have hall : List.take items.size (List.drop 0 items.toList) = items.toList := by
    rw [List.drop_zero]; exact List.take_of_length_le (by simp)
  rw [hall]
  rw [if_neg (by simp)]
  have ht₁ : IsTup h₁ t items := (ht.push _).extBut hs₁.extBut hlt
  have hot₁ : HotAt A x1 h₁ := HotAt.keep hot fun o e => hs₁.extBut _ _ hx1 (Heap.get?_push_of_some _ e)
  refine wpAny_bind (wpAny_holding (tup_end_hot (s := { s with heap := h₁ }) hot₁ hx1 hit₁ ht₁ (by simp) fun h₂ he₂ => ?_))
  simp only [Option.isSome_none, Bool.false_eq_true, if_false]
  exact wpAny_pure (hQ h₂ fun b o hb e => he₂ b o hb (hs₁.extBut b o hb (Heap.get?_push_of_some _ e)))
theorem assign_Tuple_hot {env : Env} {elts : List Expr} {k : Nat} {pos : Pos} {t x1 : Addr} {items : Array Value} {Q : Unit → Shared → Prop} (hot : HotAt A x1 s.heap) (ht : IsTup s.heap t items)
    (hn : (assignEach elts env).length = items.size) (hstar : (assignEach elts env).findIdx? (·.1) = none)
    (h : ∀ h', Heap.ExtBut s.heap.objs.size s.heap h' → wpAny (model prog w) A (assignInOrder ((assignEach elts env).map (·.2)) items.toList) Q E { s with heap := h' }) :
    wpAny (model prog w) A (assign (.Tuple elts k pos) env (.ref t)) Q E s := by
  rw [assign_Tuple]
  refine wpAny_bind (wpAny_standAt ?_)
  unfold unpack
  rw [hn, hstar]
  exact wpAny_bind (wpAny_holding (unpackItems_hot hot ht h))
end
theorem pg_tupH {X : Cx} {es : List Expr} {k : Nat} {pos : Pos} {t : TGs} {n : Nat} (hc : HotC X) (h : PGs X es t) (hn : (assignEach es X.env).length = n) (hst : (assignEach es X.env).findIdx? (·.1) = none) : PG X (.Tuple es k pos) (gTup X.K n t) := by
  refine ⟨fun pins s σ H v u Q I r hw => ?_⟩
  obtain ⟨a, xs, e1, hq, hl, hw⟩ := hw
  subst e1
  cases r
  obtain ⟨its, rv, ht, hz⟩ := I.tuple hq
  obtain ⟨x1, hot⟩ := hc.at I
  refine assign_Tuple_hot hot ht (by simp [hn, ← hl, rv.length]) hst fun h' hx => ?_
  have I1 : Inv X pins σ H { s with heap := h' } := I.kept (t' := s.toks) fun b o e => hx b o (Nat.ne_of_lt (Heap.lt_size e)) e
  exact h.run pins _ σ H xs _ Q I1 (by simpa using rv) hw
theorem turn_listH {P : Program} {w : World} {K : PySem.W.Frag} {tg : Expr} (a it : Addr) : TurnH P w K tg (Itl K a) [it] it (fun i h => h.IsListIter it a i) where
  mem := by simp
  obj := (turn_list (P := P) (w := w) (K := K) (tg := tg) a it).obj
  keep := (turn_list (P := P) (w := w) (K := K) (tg := tg) a it).keep
  item := by
    intro X hP hw hK hc i pins s σ H E I hf st hg
    subst hP hw hK
    obtain ⟨xs, x, hq, hx⟩ := hg
    obtain ⟨its, rv, p, hz⟩ := I.list hq
    obtain ⟨u, hu, ru⟩ := rv.get hx
    obtain ⟨f0, f1, f2, f3, f4, f5⟩ := hf it (by simp)
    refine wpAny_pyNext_list_item st p.isList (x := u) (by simpa using hu) fun h' st' sb => ?_
    have I1 : Inv X pins σ H { s with heap := h' } := I.turned (t' := s.toks) (fun b o hb e => (sb.2 b hb).trans e) f0 f1 f3 f4 f5
    obtain ⟨o, e, c, d⟩ := id st'
    exact ⟨u, rfl, go_of (s := { s with heap := h' }) e c d (by decide) ⟨x, H, I1, ru, ⟨rfl, fun ys hy => by rw [I.list_inj hy hq]; exact hx⟩, st', fun b hb => (hf b hb).1⟩⟩
  done := by
    intro X hP hw hK hc i pins s σ H E I hf st hg
    subst hP hw hK
    obtain ⟨xs, hq, hx⟩ := hg
    obtain ⟨its, rv, p, hz⟩ := I.list hq
    obtain ⟨f0, f1, f2, f3, f4, f5⟩ := hf it (by simp)
    have hl := rv.length
    obtain ⟨p1, ⟨hh, v1, e1, c1⟩, hp⟩ := hc
    have hpin := I.pin p1 (List.mem_append_left _ hp)
    exact list_end_hot ⟨hh, p1.2, v1, hpin.1, e1, c1⟩ (f5 p1 (List.mem_append_left _ hp)) st p.isList (by simp; omega) fun h' eb => ⟨rfl, I.turned (t' := s.toks) (fun b o hb e => eb b o hb e) f0 f1 f3 f4 f5⟩
  self := fun _ _ _ _ _ st h => wpAny_pyIter_listiter st h
theorem pi_listH {X : Cx} {tg l : Expr} {tl : TE} (hl : PE X l tl) : PIH X tg l (iList X.K tl) := by
  refine ⟨fun pins s σ H R I h => ?_⟩
  refine thn (hl.run pins s σ H _ I h) fun v s1 ⟨x, H1, I1, r1, q1⟩ => ?_
  obtain ⟨a, e, ⟨xs, hq⟩, q⟩ := q1
  subst e
  cases r1
  obtain ⟨its, rv, p, hz⟩ := I1.list hq
  refine wpAny_pyIter_list p.isList ?_
  refine ⟨s1.heap.objs.size, [s1.heap.objs.size], _, _, H1, rfl, I1.kept (t' := s1.toks) fun b o e => Heap.get?_push_of_some _ e, turn_listH a _, ⟨_, Heap.get?_push_size _ rfl, rfl, rfl⟩, fun b hb => ?_, q⟩
  have e : b = s1.heap.objs.size := by simpa using hb
  subst e
  exact I1.fpOk (Nat.le_refl _) (I1.hok.fresh (Nat.le_refl _))
end RX
set_option maxHeartbeats 4000000
/-! While an exception is handled: a list comprehension over a list. -/
namespace RX
open PySem PySem.Spec PyProof.Rows L2 HotX L2H
abbrev _root_.L2.Cx.blkH (X : Cx) (s : Shared) (H : Hp) (scope : Scope) (cenv : Env) (fp : List Addr) : Cx := { X with s_0 := s, H_0 := H, env := cenv, outer := X.stack, ex := fp, fn := fun x => scope.names.lookup x == some .cell, xe := fun _ _ => False }
/-- the place's facts that a block keeps of its maker's pins -/
theorem block_startH {X : Cx} {pins : List (Addr × Obj)} {σ : L2.St} {H : Hp} {s : Shared} {scope : Scope} {own : List (Str × Nat)} {fp : List Addr} (I : Inv X pins σ H s) (ok : BlkOk X.N X.env.scope scope own) (nd : X.N.Nodup) (out : ∀ b ∈ fp, FpOk X pins H b ∧ b < s.heap.objs.size) :
    let ce := compEnvC scope (cellsFrom (s.heap.objs.size + 1) scope.names (cloFrom X.env.cells scope.names [])) s.heap.objs.size X.env
    Inv (X.blkH s H scope ce fp) [] (wipe σ (own.map (·.2))) H { s with heap := pushCells (s.heap.push { cls := .type "dict", data := .dict #[] }) scope.names } := by
  intro ce
  have J := block_start I ok nd out
  have o := J.ok
  have pinned : ∀ p ∈ X.pn, _ := fun p hp => I.pin p (List.mem_append_left _ hp)
  refine ⟨⟨o.mod, o.kind, o.glob, o.blt, o.above, o.inj, o.has, o.cab, o.hd, o.frames, o.stk, o.exf, o.bs, o.bsz, o.noex, o.exfs, o.funs, o.frf⟩, J.os, J.bare, J.base, J.loc, J.cell, J.free, J.freeC, ?_, J.hok, J.len⟩
  intro p hp
  obtain ⟨g1, g2, g3, g4, g5⟩ := pinned p (by have hp : p ∈ X.pn ++ [] := hp; simpa using hp)
  have inStack : p.1 ∉ frs X.stack := fun z => (List.mem_cons.mp (I.stkSub _ z)).elim g3 g4
  exact ⟨pushCells_keeps _ _ _ _ (Heap.get?_push_of_some _ g1), g2, Nat.ne_of_lt (Heap.lt_size g1), inStack, g5⟩
/-- where a turn begins: at turn i the measure is n -/
def AtTurn (Z : Cx) (fp : List Addr) (tn : Nat → Heap → Prop) (τ : L2.St) (W : Nat → Nat → Hp → Prop) (n : Nat) (s : Shared) : Prop :=
  ∃ i H, Inv Z [] τ H s ∧ tn i s.heap ∧ (∀ b ∈ fp, H b = none) ∧ W i n H
/-- from the end of a turn to the next one's beginning -/
theorem next_turn {Z : Cx} {P : Program} {w : World} {K : PySem.W.Frag} {tg : Expr} {J : It} {fp : List Addr} {it : Addr} {tn : Nat → Heap → Prop} (T : TurnH P w K tg J fp it tn) {vs : List Nat} {σ τ : L2.St} {W : Nat → Nat → Hp → Prop} {i m n : Nat} {h : Heap} {H : Hp} {s : Shared}
    (I : Inv Z ([] ++ pinsAt fp h) τ H s) (same : wipe τ vs = wipe σ vs) (st : tn i h) (lt : m < n) (w0 : W i m H) : ∃ m, m < n ∧ AtTurn Z fp tn (wipe σ vs) W m s := by
  have stays : ∀ b ∈ fp, ∀ o, h.get? b = some o → s.heap.get? b = some o ∧ H b = none := by
    intro b hb o e
    have q := I.pin (b, o) (List.mem_append_right _ (List.mem_append_right _ (mem_pinsAt hb e)))
    exact ⟨q.1, q.2.1⟩
  have I0 : Inv Z [] (wipe σ vs) H s := by
    refine (I.unpinned (pins := [])).weak (by rw [← same, wipe_length]) ?_
    intro j v e
    rw [← same] at e
    exact (wipe_some e).1
  refine ⟨m, lt, i, H, I0, T.keep _ _ _ st fun b hb o e => (stays b hb o e).1, fun b hb => ?_, w0⟩
  obtain ⟨o, e, -⟩ := T.obj _ _ st b hb
  exact (stays b hb o e).2
section
variable {X : Cx} {elt tg iter : Expr} {ifs : List Expr} {scope : Scope} {own : List (Str × Nat)} {pos : Pos} {wi : TI} {g : TG} {tt : TT} {te : TE}
/-- the turns, from the block's start on -/
theorem turnsH {pins : List (Addr × Obj)} {σ : L2.St} {s : Shared} {H : Hp} {Q : VK} {J : It} {fp : List Addr} {it D : Addr} {tn : Nat → Heap → Prop} {W : Nat → Nat → Hp → Prop} {m0 : Nat} (hot : HotC X) (nd : X.N.Nodup) (ok : BlkOk X.N X.env.scope scope own) (T : TurnH X.prog X.w X.K tg J fp it tn)
    (hg : ∀ s H C cl fp, PG (X.blkH s H scope (compEnvC scope cl C X.env) fp) tg g) (ht : ∀ s H C cl fp, PTs (X.blkH s H scope (compEnvC scope cl C X.env) fp) ifs tt) (he : ∀ s H C cl fp, PE (X.blkH s H scope (compEnvC scope cl C X.env) fp) elt te)
    (I : Inv X pins σ H s) (out : ∀ b ∈ fp, FpOk X pins H b ∧ b < s.heap.objs.size) (st : tn 0 s.heap) (w0 : W 0 m0 H)
    (turn : ∀ i m H, W i m H → (J.stop i H ∧ Q (.ref D) H) ∨ (J.go i H ∧ ∃ Nx : Hp → Prop, (∀ H', Nx H' → ∃ m', m' < m ∧ W (i + 1) m' H') ∧ ∀ x H', J.yld i H x H' → g x (wipe σ (own.map (·.2))) H' fun σ2 H2 =>
      wipe σ2 (own.map (·.2)) = wipe σ (own.map (·.2)) ∧ tt σ2 H2 fun b H3 => if b = true then te σ2 H3 fun y H4 => ∃ acc, H4 D = some (.lst acc) ∧ acc.length < sizeLine ∧ Nx (upd H4 D (.lst (acc ++ [y]))) else Nx H3)) :
    codeAny (model X.prog X.w) X.A (.compStart (.ListComp elt [⟨tg, iter, ifs, 0⟩] scope pos) 0 (.ref it) (.ref D) (compEnvC scope (cellsFrom (s.heap.objs.size + 1) scope.names (cloFrom X.env.cells scope.names [])) s.heap.objs.size X.env))
      (compPost (model X.prog X.w) X.A X.xe none (EP X pins σ Q) (.ref D) s.heap.objs.size) { s with heap := pushCells (s.heap.push { cls := .type "dict", data := .dict #[] }) scope.names } := by
  have I1 := block_startH I ok nd out
  have st1 : tn 0 (pushCells (s.heap.push { cls := .type "dict", data := .dict #[] }) scope.names) := T.keep _ _ _ st fun b _ o e => pushCells_keeps _ _ _ _ (Heap.get?_push_of_some _ e)
  have rg := hg s H s.heap.objs.size (cellsFrom (s.heap.objs.size + 1) scope.names (cloFrom X.env.cells scope.names [])) fp
  have rt := ht s H s.heap.objs.size (cellsFrom (s.heap.objs.size + 1) scope.names (cloFrom X.env.cells scope.names [])) fp
  have re := he s H s.heap.objs.size (cellsFrom (s.heap.objs.size + 1) scope.names (cloFrom X.env.cells scope.names [])) fp
  obtain ⟨ce, hce⟩ : ∃ ce, ce = compEnvC scope (cellsFrom (s.heap.objs.size + 1) scope.names (cloFrom X.env.cells scope.names [])) s.heap.objs.size X.env := ⟨_, rfl⟩
  have here : ce.locals = s.heap.objs.size := by rw [hce]; rfl
  simp only at I1
  rw [← hce] at I1 rg rt re ⊢
  have hotB : HotC (X.blkH s H scope ce fp) := hot
  have ours : ∀ {τ : L2.St} {H' : Hp} {s' : Shared}, Inv (X.blkH s H scope ce fp) [] τ H' s' → (∀ b ∈ fp, H' b = none) → ∀ b ∈ fp, FpOk (X.blkH s H scope ce fp) [] H' b := by
    intro τ H' s' I' free b hb
    obtain ⟨x1, x2⟩ := I'.ok.exf b hb
    refine ⟨free b hb, x1, I'.ok.exfs b hb, .inl hb, x2, fun p hp => (out b hb).1.2.2.2.2.2 p (List.mem_append_left _ ?_)⟩
    have hp : p ∈ X.pn ++ [] := hp
    simpa using hp
  have all : codeAny (model X.prog X.w) X.A (.compLoop (.ListComp elt [⟨tg, iter, ifs, 0⟩] scope pos) 0 (.ref it) (.ref D) ce) (compPost (model X.prog X.w) X.A X.xe none (EP X pins σ Q) (.ref D) s.heap.objs.size)
      { s with heap := pushCells (s.heap.push { cls := .type "dict", data := .dict #[] }) scope.names } := by
    apply compLoop_any (AtTurn (X.blkH s H scope ce fp) fp tn (wipe σ (own.map (·.2))) W) ?_ m0 ⟨0, H, I1, st1, fun b hb => (out b hb).1.1, w0⟩
    rintro n s5 ⟨i, H5, I5, st5, n5, w5⟩
    rcases turn i n H5 w5 with ⟨stop, fin⟩ | ⟨go, Nx, dec, step⟩
    · refine thnF (T.done (X.blkH s H scope ce fp) rfl rfl rfl hotB i [] s5 _ H5 (fun _ _ => False) I5 (ours I5 n5) st5 stop) ?_
      rintro _ s6 ⟨rfl, I6⟩
      have I7 : Inv X pins σ H5 s6 := I.call' (ch := fp) I6.os I6.base I6.hok I6.bare fun b hb => by
        obtain ⟨-, y1, y2, y3, y4, y5⟩ := (out b hb).1
        exact ⟨y3, y1, y4, y5⟩
      have gone : H5 s.heap.objs.size = none := here ▸ (show H5 ce.locals = none from I6.free)
      obtain ⟨m, ns, -⟩ := I6.loc
      have ns : s6.heap.Ns s.heap.objs.size m := here ▸ (show s6.heap.Ns ce.locals m from ns)
      refine ⟨m, ns, fun hp sb => ?_⟩
      obtain ⟨z0, z1, z2, z3, z4, z5⟩ := I.fpOk (Nat.le_refl _) gone
      exact ⟨.ref D, H5, I7.turned (t' := s6.toks) (fun b o hb e => (sb.2 b hb).trans e) z0 z1 z3 z4 z5, rfl, fin⟩
    · refine thnF (T.item (X.blkH s H scope ce fp) rfl rfl rfl hotB i [] s5 _ H5 (fun _ _ => False) I5 (ours I5 n5) st5 go) ?_
      rintro _ s6 ⟨u, rfl, h6⟩
      refine thnF h6 ?_
      rintro - s7 ⟨x, H7, I7, r7, y7, st7, n7⟩
      refine thnF (rg.run _ s7 _ H7 x u _ (I7.pinned (ours I7 n7) (T.obj _ _ st7)) r7 (step x H7 y7)) ?_
      rintro - s8 ⟨σ8, H8, I8, same, q8⟩
      refine thnF (rt.run _ s8 σ8 H8 _ I8 q8) ?_
      rintro (_ | _) s9 ⟨H9, I9, q9⟩
      · obtain ⟨m', lt, w'⟩ := dec H9 (by simpa using q9)
        exact next_turn T I9 same st7 lt w'
      · refine thnF (re.run _ s9 σ8 H9 _ I9 (by simpa using q9)) ?_
        rintro z s10 ⟨yv, H10, I10, r10, acc, hD, hz, nx⟩
        obtain ⟨m', lt, w'⟩ := dec _ nx
        exact app_ok (X := X.blkH s H scope ce fp) I10 hD hz r10 fun s11 I11 => next_turn T I11 same st7 lt w'
  exact codeAny_compStart_list all (T.self X.A 0 _ _ _ st1 all)
/-- a comprehension while an exception is handled -/
theorem pe_lcH (hot : HotC X) (nd : X.N.Nodup) (hi : PIH X tg iter wi) (ok : BlkOk X.N X.env.scope scope own) (hg : ∀ s H C cl fp, PG (X.blkH s H scope (compEnvC scope cl C X.env) fp) tg g) (ht : ∀ s H C cl fp, PTs (X.blkH s H scope (compEnvC scope cl C X.env) fp) ifs tt)
    (he : ∀ s H C cl fp, PE (X.blkH s H scope (compEnvC scope cl C X.env) fp) elt te) (hs : ∀ x, foldedSetIterable iter X.env x = pure x) : PE X (.ListComp elt [⟨tg, iter, ifs, 0⟩] scope pos) (tLc wi g tt te (own.map (·.2))) := by
  constructor
  intro pins s σ H Q I h
  rw [eval_ListComp]
  have cap : ∀ y ∈ scope.names, y.2 = .free → ∃ c, X.env.cells.lookup y.1 = some c := fun y hy e => I.ok.has _ ((ok.free y hy e).elim .inl .inr)
  apply wpAny_comprehension_free rfl hs (closure_ok cap) ok.kind (fun y hy e => by rw [ok.uniq y hy, e])
  refine thn (hi.run pins s σ H _ I h) fun xv s1 src => thn src ?_
  rintro _ s2 ⟨it, fp, tn, J, H2, rfl, I2, T, st2, out2, q⟩
  refine wpAny_newObj_type (newEnv_comp ?_) (Nat.zero_le _)
  have new2 : H2 s2.heap.objs.size = none := I2.hok.fresh (Nat.le_refl _)
  obtain ⟨W, ⟨m0, w0⟩, turn⟩ := q _ new2
  have old2 : ∀ b ∈ fp, b < s2.heap.objs.size := fun b hb => (T.obj _ _ st2 b hb).elim fun o z => Heap.lt_size z.1
  -- the list is laid
  have I3 : Inv X pins σ (upd H2 s2.heap.objs.size (.lst [])) { s2 with heap := s2.heap.push { cls := .type "list", data := .seq ([] : List Value).toArray } } :=
    I2.laid (t' := s2.toks) (fun b o e => Heap.get?_push_of_some _ e) (Nat.le_refl _) ⟨Nat.zero_le _, [], 0, .nil, Heap.get?_push_size _ rfl⟩
  have out3 : ∀ b ∈ fp, FpOk X pins (upd H2 s2.heap.objs.size (.lst [])) b ∧ b < (s2.heap.push { cls := .type "list", data := .seq ([] : List Value).toArray }).objs.size := by
    intro b hb
    have lt := old2 b hb
    exact ⟨⟨by rw [upd_ne (Nat.ne_of_lt lt)]; exact (out2 b hb).1, (out2 b hb).2⟩, by rw [Heap.size_push]; exact Nat.lt_succ_of_lt lt⟩
  exact turnsH hot nd ok T hg ht he I3 out3 (T.keep _ _ _ st2 fun b _ o e => Heap.get?_push_of_some _ e) w0 turn
end
end RX
set_option maxHeartbeats 4000000
/-! The suite of an except clause that asks isinstance of what it holds and joins words. -/
namespace RX
open PySem L2 L2H
variable {Y : Cx} {F : FC} {W : WX} {g : Gam} {G : GC}

abbrev fx (i : Nat) (a : Addr) (t : TE) : TE := fun σ H Q => σ[i]? = some (some (.ref a)) ∧ t σ H Q
abbrev fxA (i : Nat) (a : Addr) (t : TA) : TA := fun σ H Q => σ[i]? = some (some (.ref a)) ∧ t σ H Q
/-- what is known in the suite: slot i holds the exception at a -/
structure Sui (Y : Cx) (g : Gam) (i : Nat) (a : Addr) (sub : Str → Option Bool) : Prop where
  N : Y.N = g.N
  nd : Y.N.Nodup
  sc : Y.env.scope = g.sc
  hot : HotC Y
  kd : g.sc.kind = .function
  isf : Y.mg "isinstance" = none
  isi : ∀ C b, sub C = some b → ∃ Cj D, Y.mg C = some (.ref Cj) ∧ CallR Y (.builtin "isinstance") (rIsE Y.K D a) ∧ PySem.W.kitOne Y.K (.ref D) (.ref Cj) = some b
variable {i : Nat} {a : Addr} {sub : Str → Option Bool}
theorem Sui.slot (k : Sui Y g i a sub) {x : Str} {j : Nat} {pos : Pos} (hv : visB g x = true) (hj : ixOf g.N x = some j) : PE Y (.Name x pos) (tVar j) := by
  unfold visB at hv
  rw [Bool.and_eq_true, Bool.and_eq_true, Bool.not_eq_true', Bool.not_eq_true'] at hv
  obtain ⟨⟨h, h2⟩, h3⟩ := hv
  refine pe_var (by rw [k.N]; exact ixOf_ok hj) ?_ h2 h3
  unfold Vis
  rw [k.sc]
  split at h <;> first | (rename_i e; simp [e]; done) | cases h
theorem Sui.gl (k : Sui Y g i a sub) {x : Str} (h : glB g x = true) : Gl Y x ∧ (x == ("__debug__" : Str)) = false := by
  unfold glB at h
  rw [Bool.and_eq_true, Bool.and_eq_true, Bool.not_eq_true', Bool.not_eq_true'] at h
  obtain ⟨⟨h, h2⟩, h3⟩ := h
  refine ⟨?_, h2⟩
  unfold Gl Env.kindOf
  rw [k.sc]
  split at h
  · assumption
  · cases h
theorem fx_nil : PA Y [] (fxA i a (tDA G F W dNil)) := PA.imp pda_nil fun σ H Q h => h.2
theorem fx_cons {e : Expr} {es : List Expr} {d ds : E} (h : PE Y e (fx i a (tD G F W d))) (hs : PA Y es (fxA i a (tDA G F W ds))) (st : starEach (e :: es) Y.env = (false, eval e Y.env) :: starEach es Y.env) : PA Y (e :: es) (fxA i a (tDA G F W (dCons d ds))) :=
  PA.imp (pa_cons h hs st) fun σ H Q ⟨hx, env, cup, S, q⟩ => ⟨hx, env, cup, S, post_bind q fun x cup1 v H1 S1 e1 p1 q1 => ⟨hx, env, cup1, S1, post_bind q1 fun y cup2 ws H2 S2 e2 p2 q2 => by
    obtain ⟨z, hz, kk⟩ := post_ofOA q2 S2
    obtain ⟨xs, rfl, rs⟩ := p2
    cases hz
    exact kk _ H2 (Evl.Ex.refl _) ⟨_, rfl, .cons (rep_kp (kp_oo S1 e2) p1) rs⟩⟩⟩
theorem fx_of {e : Expr} {t : TE} (h : PE Y e t) : PE Y e (fx i a t) := PE.imp h fun σ H Q q => q.2
theorem fx_tup {es : List Expr} {ds : E} {k : Nat} {pos : Pos} (h : PA Y es (fxA i a (tDA G F W ds))) : PE Y (.Tuple es k pos) (fx i a (tD G F W (dTup ds))) :=
  PE.imp (pe_tup h) fun σ H Q ⟨hx, env, cup, S, q⟩ => ⟨hx, env, cup, S, post_bind q fun x cup1 vs H1 S1 e1 p1 q1 => by
    obtain ⟨z, hz, kk⟩ := post_ofO q1 S1
    obtain ⟨xs, rfl, rs⟩ := p1
    obtain ⟨_, e, rfl, hl⟩ := mkT_some hz
    cases e
    exact ⟨by rw [rs.length]; exact le_line hl, fun p hp => kk _ _ (Evl.Ex.new hp) (rep_newT (fun a h => S1.oo_trk h) hp rs)⟩⟩
theorem fx_lst {es : List Expr} {ds : E} {pos : Pos} (h : PA Y es (fxA i a (tDA G F W ds))) : PE Y (.List es pos) (fx i a (tD G F W (dLst ds))) :=
  PE.imp (pe_lst h) fun σ H Q ⟨hx, env, cup, S, q⟩ => ⟨hx, env, cup, S, post_bind q fun x cup1 vs H1 S1 e1 p1 q1 => by
    obtain ⟨z, hz, kk⟩ := post_ofO q1 S1
    obtain ⟨xs, rfl, rs⟩ := p1
    obtain ⟨_, e, rfl, hl⟩ := mkL_some hz
    cases e
    exact ⟨by rw [rs.length]; exact le_line hl, fun p hp => kk _ _ (Evl.Ex.new hp) (rep_newL (fun a h => S1.oo_trk h) hp rs)⟩⟩
theorem fx_bin {f : PV → PV → Option PV} {e : Expr} {da db : E} (k : PE Y e (tOp (rOp G F.B f) (fx i a (tDB G F W da)) (fx i a (tDB G F W db)))) : PE Y e (fx i a (tD G F W (dBin f da db))) :=
  PE.imp k fun σ H Q ⟨hx, env, cup, S, q⟩ => ⟨hx, env, cup, S, post_bind q fun x cup1 v H1 S1 e1 p1 q1 => ⟨hx, env, cup1, S1, post_bind q1 fun y cup2 w H2 S2 e2 p2 q2 => by
    obtain ⟨z, hz, kk⟩ := post_ofO q2 S2
    exact ⟨OO F env σ, x, y, z, RB.keep S1 p1 e2, p2, hz, fun a h => S2.oo_trk h, kk⟩⟩⟩
theorem fx_weak {e : Expr} {d : E} (h : PE Y e (fx i a (tD G F W d))) : PE Y e (fx i a (tDB G F W d)) := PE.imp h fun σ H Q ⟨hx, env, cup, S, q⟩ => ⟨hx, env, cup, S, q.imp fun _ _ _ r => .inl r⟩
/-! ### the rows: a word, isinstance(e, C) -/
def isiOf (g : Gam) (i : Nat) : Expr → Option Str
  | .Call (.Name f _) [.Name x _, .Name C _] [] _ => bif decide (f = ("isinstance" : Str)) && glB g f && visB g x && glB g C && decide (ixOf g.N x = some i) then some C else none
  | _ => none
theorem pe_isi (k : Sui Y g i a sub) {e : Expr} {C : Str} {b : Bool} (h : isiOf g i e = some C) (hb : sub C = some b) : PE Y e (fx i a (tD G F W (dC (.bl b)))) := by
  unfold isiOf at h
  split at h
  · rename_i f p1 x p2 C' p3 pos
    cases ec : (decide (f = ("isinstance" : Str)) && glB g f && visB g x && glB g C' && decide (ixOf g.N x = some i)) with
    | false => rw [ec] at h; cases h
    | true =>
      rw [ec] at h
      cases h
      rw [Bool.and_eq_true, Bool.and_eq_true, Bool.and_eq_true, Bool.and_eq_true, decide_eq_true_eq, decide_eq_true_eq] at ec
      obtain ⟨⟨⟨⟨rfl, e2⟩, e3⟩, e4⟩, e5⟩ := ec
      obtain ⟨Cj, D, hC, hR, hk⟩ := k.isi C b hb
      obtain ⟨g1, g2⟩ := k.gl e2
      obtain ⟨g3, g4⟩ := k.gl e4
      refine PE.imp (pe_callB hR g1 k.isf (by rfl) (pa_cons (k.slot e3 e5) (pa_cons (pe_glob g3 hC (show RelV (.ref Cj) (.ref Cj) from rfl) g4) pa_nil (by rfl)) (by rfl)) (by decide) (by decide) (by rfl) (by rfl)) ?_
      rintro σ H Q ⟨hx, env, cup, S, q⟩
      exact ⟨.ref a, hx, .ref Cj, .ref Cj, b, rfl, fun u hu => hu, hk, q (.bl b) H S ExE.refl (.bl b)⟩
  · cases h
def rowOf (g : Gam) (i : Nat) : Expr → Option (Str × Str)
  | .Tuple [.Constant (.str w) _ _, e] _ _ => (isiOf g i e).map fun C => (w, C)
  | _ => none
def rowsOf (g : Gam) (i : Nat) : List Expr → Option (List (Str × Str))
  | [] => some []
  | e :: r => (match rowOf g i e, rowsOf g i r with
    | some p, some q => some (p :: q)
    | _, _ => none)
def rowE (b : Bool) (w : Str) : E := dTup (dCons (dC (.str w)) (dCons (dC (.bl b)) dNil))
def rowsE (sub : Str → Option Bool) : List (Str × Str) → Option E
  | [] => some dNil
  | (w, C) :: r => (match sub C, rowsE sub r with
    | some b, some ds => some (dCons (rowE b w) ds)
    | _, _ => none)
theorem pe_row (k : Sui Y g i a sub) {e : Expr} {w C : Str} {b : Bool} (h : rowOf g i e = some (w, C)) (hb : sub C = some b) : isStar e = false ∧ PE Y e (fx i a (tD G F W (rowE b w))) := by
  unfold rowOf at h
  split at h
  · rename_i w' j1 p1 e' j2 p2
    cases ei : isiOf g i e' with
    | none => rw [ei] at h; cases h
    | some C' =>
      rw [ei] at h
      cases h
      have hs : isStar e' = false := by
        cases e' <;> first | rfl | cases ei
      exact ⟨rfl, fx_tup (fx_cons (fx_of (pd_c pe_str fun _ _ _ => .str w)) (fx_cons (pe_isi k ei hb) fx_nil (star_cons hs)) rfl)⟩
  · cases h
theorem pa_rows (k : Sui Y g i a sub) : ∀ {es : List Expr} {rs : List (Str × Str)} {ds : E}, rowsOf g i es = some rs → rowsE sub rs = some ds → PA Y es (fxA i a (tDA G F W ds))
  | [], rs, ds, h1, h2 => by cases h1; cases h2; exact fx_nil
  | e :: r, rs, ds, h1, h2 => by
    simp only [rowsOf] at h1
    cases ep : rowOf g i e with
    | none => rw [ep] at h1; cases h1
    | some p =>
      cases eq : rowsOf g i r with
      | none => rw [ep, eq] at h1; cases h1
      | some q =>
        rw [ep, eq] at h1
        cases h1
        obtain ⟨w, C⟩ := p
        simp only [rowsE] at h2
        cases eb : sub C with
        | none => rw [eb] at h2; cases h2
        | some b =>
          cases er : rowsE sub q with
          | none => rw [eb, er] at h2; cases h2
          | some ds' =>
            rw [eb, er] at h2
            cases h2
            obtain ⟨n, hp⟩ := pe_row (G := G) (F := F) (W := W) k ep eb
            exact fx_cons hp (pa_rows k eq er) (star_cons n)
end RX
set_option maxHeartbeats 4000000
namespace RX
open PySem L2 L2H
variable {Y Z : Cx} {F : FC} {W : WX} {g : Gam} {G : GC} {i : Nat} {a : Addr} {sub : Str → Option Bool}

/-! ### a list walked while an exception is handled -/
theorem PIH.imp {tg it : Expr} {t t' : TI} (h : PIH Y tg it t) (i : ∀ σ H Q, t' σ H Q → t σ H Q) : PIH Y tg it t' := ⟨fun pins s σ H Q I hq => h.run pins s σ H Q I (i σ H Q hq)⟩
def kItemsL : PV → E
  | .lst xs => okLst xs
  | _ => stk
def dItemsL (d : E) : E := bindE d kItemsL
theorem pi_itemsH {tg l : Expr} {d : E} (h : PE Y l (tDB (gOf Y) F W d)) : PIH Y tg l (tDI false (gOf Y) F W (dItemsL d)) :=
  PIH.imp (pi_listH h) fun σ H R ⟨env, cup, S, q⟩ => ⟨env, cup, S, post_bind q fun x cup1 v H1 S1 e1 p1 q1 => by
    cases x with
    | lst xs =>
      obtain ⟨hl, kk⟩ := post_ok (show PostA (gOf Y) F W _ env σ H1 R (okLst xs env cup1) from q1) S1
      have src : ∃ b vs, v = .ref b ∧ H1 b = some (.lst vs) ∧ F.B ≠ some b ∧ Reps (gOf Y) F.B (OO F env σ) H1 vs xs := by
        rcases (show RB (gOf Y) F.B (OO F env σ) H1 v (.lst xs) from p1) with h | ⟨p, vs, zs, rfl, e, h1, h2, h3⟩
        · cases h with
          | lst h1 h2 h3 => exact ⟨_, _, rfl, h1, fun z => h2 (bOO S1 _ z), h3⟩
        · cases e; exact ⟨p, vs, rfl, h1, h2, h3⟩
      obtain ⟨b, vs, rfl, h1, h2, h3⟩ := src
      refine ⟨b, rfl, ⟨vs, SqL.of h1⟩, kk _ ⟨xs, rfl, hl, ?_⟩⟩
      refine ⟨fun H => SqL Y.K H b vs, YAt vs, by rw [← h3.length]; exact walk_list, fun Oe' H' kp n t => ⟨SqL.of (kp _ _ h1 h2 nt_lst), fun i v H2 hi y => ?_⟩⟩
      obtain ⟨rfl, hv⟩ := y
      obtain ⟨x, z1, z2⟩ := (reps_on (fun a h => bOO S1 a h) h3 kp n).getV hv
      exact ⟨Evl.Ex.refl _, x, z1, z2⟩
    | _ => exact False.elim q1⟩
/-! ### names of a block -/
theorem slotZ (hN : Z.N = g.N) (hsc : Z.env.scope = g.sc) {x : Str} {j : Nat} {pos : Pos} (hv : visB g x = true) (hj : ixOf g.N x = some j) : PE Z (.Name x pos) (tVar j) := by
  unfold visB at hv
  rw [Bool.and_eq_true, Bool.and_eq_true, Bool.not_eq_true', Bool.not_eq_true'] at hv
  obtain ⟨⟨h, h2⟩, h3⟩ := hv
  refine pe_var (by rw [hN]; exact ixOf_ok hj) ?_ h2 h3
  unfold Vis
  rw [hsc]
  split at h <;> first | (rename_i e; simp [e]; done) | cases h
def lcB (g : Gam) (x : Str) : Bool := match g.sc.names.lookup x with
  | some .local => true
  | _ => false
theorem tgZ (hN : Z.N = g.N) (hnd : Z.N.Nodup) (hsc : Z.env.scope = g.sc) {vs : List Nat} {x : Str} {j : Nat} {pos : Pos} (hl : lcB g x = true) (hj : ixOf g.N x = some j) (hm : memN vs j = true) : PG Z (.Name x pos) (tG G F vs (gS j)) := by
  have h : Z.env.scope.names.lookup x = some .local := by
    rw [hsc]
    unfold lcB at hl
    split at hl
    · assumption
    · cases hl
  exact pg_nm (pg_name hnd (by rw [hN]; exact ixOf_ok hj) (.inl h) (.inr h)) (memN_ok hm)
/-! ### [w for w, f in r if f], joined -/
def strsOf : List PV → Option (List Str)
  | [] => some []
  | .str x :: r => (strsOf r).map (x :: ·)
  | _ => none
theorem strsOf_some : ∀ {xs : List PV} {zs : List Str}, strsOf xs = some zs → xs = zs.map PV.str
  | [], zs, h => by cases h; rfl
  | .str x :: r, zs, h => by
    simp only [strsOf] at h
    cases e : strsOf r with
    | none => rw [e] at h; cases h
    | some z => rw [e] at h; cases h; simp [strsOf_some e]
  | .non :: r, zs, h => by cases h
  | .bl _ :: r, zs, h => by cases h
  | .int _ :: r, zs, h => by cases h
  | .ty _ :: r, zs, h => by cases h
  | .tup _ :: r, zs, h => by cases h
  | .lst _ :: r, zs, h => by cases h
  | .box :: r, zs, h => by cases h
  | .gl _ :: r, zs, h => by cases h
theorem reps_strs {B : Option Addr} {O : Addr → Prop} {H : Hp} {zs : List Str} : ∀ {vs : List V}, Reps G B O H vs (zs.map PV.str) → vs = zs.map V.str := by
  induction zs with
  | nil => intro vs h; cases h; rfl
  | cons z zs ih =>
    intro vs h
    cases h with
    | cons a b => cases a; rw [ih b]; rfl
def joinOk (sep : Str) (zs : List Str) : Bool := Nat.ble ((zs.map (·.length)).sum + zs.length * sep.length) 100000
def oJoin (sep : Str) : PV → Option PV
  | .lst xs => (match strsOf xs with
    | some zs => bif joinOk sep zs then some (.str (Txt.join sep zs)) else none
    | none => none)
  | _ => none
theorem pd_join {e : Expr} {d : E} {sep : Str} {j : Nat} {p0 ap cp : Pos} (he : PE Y e (tDB (gOf Y) F W d)) (hs : isStar e = false) (hl : (ap.endLine == cp.line) = true) : PE Y (.Call (.Attribute (.Constant (.str sep) j p0) "join" ap) [e] [] cp) (tD (gOf Y) F W (dUn (oJoin sep) d)) := by
  refine PE.imp (pe_join (pe_str (x := sep)) he (by rw [star_cons hs]; rfl) rfl hl) fun σ H Q ⟨env, cup, S, q⟩ => ?_
  refine ⟨⟨sep, rfl⟩, env, cup, S, post_bind q fun x c1 v H1 S1 e1 p1 q1 => ?_⟩
  obtain ⟨z, hz, kk⟩ := post_ofO q1 S1
  cases x with
  | lst xs =>
    simp only [oJoin] at hz
    cases ez : strsOf xs with
    | none => rw [ez] at hz; cases hz
    | some zs =>
      rw [ez] at hz
      simp only at hz
      cases ej : joinOk sep zs with
      | false => rw [ej] at hz; cases hz
      | true =>
        rw [ej] at hz
        cases hz
        obtain ⟨b, ws, rfl, h1, h2⟩ := RB.lst_of p1
        rw [strsOf_some ez] at h2
        have := reps_strs h2
        subst this
        unfold joinOk at ej
        have := Nat.le_of_ble_eq_true ej
        exact ⟨sep, b, zs, rfl, rfl, .inl (SqL.of h1), by omega, kk _ H1 (Evl.Ex.refl _) (.str _)⟩
  | _ => cases hz
def sufComp (g : Gam) : Expr → Option E
  | .ListComp (.Name w _) [⟨.Tuple [.Name w1 _, .Name f1 _] _ _, .Name r _, [.Name f _], 0⟩] scope _ =>
    let own := ownOf g.N scope.names
    let b := g.blk scope
    bif blkC g.N g.sc scope own && visB g r && visB b w && visB b f && lcB b w1 && lcB b f1 then
      (match ixOf g.N r, ixOf g.N w, ixOf g.N f, ixOf g.N w1, ixOf g.N f1 with
      | some jr, some jw, some jf, some jw1, some jf1 => bif memN (mapSnd own) jw1 && memN (mapSnd own) jf1 then
        some (dComp (mapSnd own) (dItemsL (dVarB jr)) (gT 2 (gsCons (gS jw1) (gsCons (gS jf1) gsNil))) (dTru (dVarB jf)) (dVar jw)) else none
      | _, _, _, _, _ => none) else none
  | _ => none
theorem pd_sufComp (k : Sui Y g i a sub) {e : Expr} {d : E} (h : sufComp g e = some d) : isStar e = false ∧ PE Y e (tD (gOf Y) F W d) := by
  unfold sufComp at h
  split at h
  · rename_i w p1 w1 p2 f1 p3 k1 p4 r p5 f p6 scope pos
    simp only at h
    cases ec : (blkC g.N g.sc scope (ownOf g.N scope.names) && visB g r && visB (g.blk scope) w && visB (g.blk scope) f && lcB (g.blk scope) w1 && lcB (g.blk scope) f1) with
    | false => rw [ec] at h; cases h
    | true =>
      rw [ec] at h
      simp only [cond_true] at h
      rw [Bool.and_eq_true, Bool.and_eq_true, Bool.and_eq_true, Bool.and_eq_true, Bool.and_eq_true] at ec
      obtain ⟨⟨⟨⟨⟨c1, c2⟩, c3⟩, c4⟩, c5⟩, c6⟩ := ec
      split at h
      · rename_i jr jw jf jw1 jf1 er ew ef ew1 ef1
        cases em : (memN (mapSnd (ownOf g.N scope.names)) jw1 && memN (mapSnd (ownOf g.N scope.names)) jf1) with
        | false => rw [em] at h; cases h
        | true =>
          rw [em] at h
          cases h
          rw [Bool.and_eq_true] at em
          have b : BlkOk Y.N Y.env.scope scope (ownOf g.N scope.names) := by rw [k.N, k.sc]; exact blkOk_by c1
          rw [mapSnd_eq] at em ⊢
          have hsc : ∀ (s : Shared) (H : Hp) (C : Addr) (cl : List (Str × Addr)) (fp : List Addr), (Y.blkH s H scope (compEnvC scope cl C Y.env) fp).env.scope = (g.blk scope).sc := fun s H C cl fp => by
            show (compEnvC scope cl C Y.env).scope = relS scope g.sc
            rw [← k.sc]; rfl
          have hN : Y.N = (g.blk scope).N := k.N
          refine ⟨rfl, PE.imp (pe_lcH (wi := tDI false (gOf Y) F W (dItemsL (dVarB jr))) k.hot k.nd (pi_itemsH (pd_varB (slotZ k.N k.sc c2 er))) b (fun s H C cl fp => PG.any (T := F.tl) fun F' hF' => ?_) (fun s H C cl fp => PTs.any (T := F.tl) fun F' hF' => ?_) (fun s H C cl fp => PE.any (T := F.tl) fun F' hF' => ?_) (fun x => rfl)) fun σ H Q h => lc_sem h⟩
          · have hotZ : HotC (Y.blkH s H scope (compEnvC scope cl C Y.env) fp) := k.hot
            refine PG.imp (pg_tupH (n := 2) (t := tGs (gOf Y) F' ((ownOf g.N scope.names).map (·.2)) (gsCons (gS jw1) (gsCons (gS jf1) gsNil))) hotZ (pgs_cs (tgZ (Z := Y.blkH s H scope (compEnvC scope cl C Y.env) fp) (g := g.blk scope) hN k.nd (hsc s H C cl fp) c5 ew1 em.1) (pgs_cs (tgZ (Z := Y.blkH s H scope (compEnvC scope cl C Y.env) fp) (g := g.blk scope) hN k.nd (hsc s H C cl fp) c6 ef1 em.2) pgs_nl rfl) rfl) rfl rfl) fun v σ H Q ⟨env, cup, x, S, r, env', e, kk⟩ => ?_
            cases r with
            | @tup a us xs h1 h2 h3 =>
              simp only [gT] at e
              cases q : Nat.beq xs.length 2 with
              | false => rw [q] at e; cases e
              | true =>
                rw [q] at e
                exact ⟨a, us, rfl, h1, by rw [h3.length]; exact Nat.eq_of_beq_eq_true q, env, cup, xs, S, h3, env', e, kk⟩
            | _ => cases e
          · exact pts_one (pt_tru (X := Y.blkH s H scope (compEnvC scope cl C Y.env) fp) (pd_varB (slotZ (Z := Y.blkH s H scope (compEnvC scope cl C Y.env) fp) (g := g.blk scope) hN (hsc s H C cl fp) c4 ef)) rfl)
          · exact pd_var (slotZ (Z := Y.blkH s H scope (compEnvC scope cl C Y.env) fp) (g := g.blk scope) hN (hsc s H C cl fp) c3 ew)
      · cases h
  · cases h
end RX
set_option maxHeartbeats 4000000
namespace RX
open PySem L2 L2H
variable {Y Z : Cx} {F : FC} {W : WX} {g : Gam} {G : GC} {i : Nat} {a : Addr} {sub : Str → Option Bool}

def sufRet0 (g : Gam) : Expr → Option E
  | .Call (.Attribute (.Constant (.str sep) _ _) m ap) [c] [] cp => bif decide (m = ("join" : Str)) && (ap.endLine == cp.line) then (sufComp g c).map fun d => dUn (oJoin sep) d else none
  | _ => none
theorem pd_sufRet0 (k : Sui Y g i a sub) {e : Expr} {d : E} (h : sufRet0 g e = some d) : PE Y e (tD (gOf Y) F W d) := by
  unfold sufRet0 at h
  split at h
  · rename_i sep j p0 m ap c cp
    cases ec : (decide (m = ("join" : Str)) && (ap.endLine == cp.line)) with
    | false => rw [ec] at h; cases h
    | true =>
      rw [ec] at h
      rw [Bool.and_eq_true, decide_eq_true_eq] at ec
      obtain ⟨rfl, e2⟩ := ec
      simp only [cond_true] at h
      cases es : sufComp g c with
      | none => rw [es] at h; cases h
      | some d' =>
        rw [es] at h
        cases h
        obtain ⟨n, hp⟩ := pd_sufComp (F := F) (W := W) k es
        exact pd_join (weakB hp) n e2
  · cases h
def sufRet (g : Gam) : Expr → Option E
  | .BoolOp .Or [e, .Constant (.str z) _ _] _ => (sufRet0 g e).map fun d => dOrV d (dC (.str z))
  | e => sufRet0 g e
theorem pd_sufRet (k : Sui Y g i a sub) {e : Expr} {d : E} (h : sufRet g e = some d) : PE Y e (tD (gOf Y) F W d) := by
  unfold sufRet at h
  split at h
  · rename_i e' z j p pos
    cases es : sufRet0 g e' with
    | none => rw [es] at h; cases h
    | some d' =>
      rw [es] at h
      cases h
      exact pd_orV (pd_sufRet0 k es) (pe_one (pd_c pe_str fun _ _ _ => .str z))
  · exact pd_sufRet0 k h
def sufVal (g : Gam) (i : Nat) (sub : Str → Option Bool) : Expr → Option E
  | .List es _ => (match rowsOf g i es with
    | some rs => (rowsE sub rs).map dLst
    | none => none)
  | .BinOp (.Name r _) .Add (.List es _) _ => bif visB g r then (match ixOf g.N r, rowsOf g i es with
    | some j, some rs => (rowsE sub rs).map fun ds => dBin oAdd (dVarB j) (dLst ds)
    | _, _ => none) else none
  | _ => none
theorem pe_sufVal (k : Sui Y g i a sub) {e : Expr} {d : E} (h : sufVal g i sub e = some d) : isComp e = false ∧ PE Y e (fx i a (tD (gOf Y) F W d)) := by
  unfold sufVal at h
  split at h
  · rename_i es p
    cases er : rowsOf g i es with
    | none => rw [er] at h; cases h
    | some rs =>
      rw [er] at h
      simp only at h
      cases ed : rowsE sub rs with
      | none => rw [ed] at h; cases h
      | some ds => rw [ed] at h; cases h; exact ⟨rfl, fx_lst (pa_rows k er ed)⟩
  · rename_i r p1 es p2 pos
    cases hv : visB g r with
    | false => rw [hv] at h; cases h
    | true =>
      rw [hv] at h
      simp only [cond_true] at h
      cases ej : ixOf g.N r with
      | none => rw [ej] at h; cases h
      | some j =>
        cases er : rowsOf g i es with
        | none => rw [ej, er] at h; cases h
        | some rs =>
          rw [ej, er] at h
          simp only at h
          cases ed : rowsE sub rs with
          | none => rw [ed] at h; cases h
          | some ds =>
            rw [ed] at h
            cases h
            exact ⟨rfl, fx_bin (pe_op (op_add2 F.B) (fx_of (pd_varB (k.slot hv ej))) (fx_weak (fx_lst (pa_rows k er ed))))⟩
  · cases h
def sufS (g : Gam) (i : Nat) (sub : Str → Option Bool) : List Stmt → Option Sd
  | [.Return (some e) _] => (sufRet g e).map dRet
  | .Assign [.Name r _] e _ :: rest => (match ixOf g.N r, sufVal g i sub e, sufS g i sub rest with
    | some j, some d, some s => bif neq j i && lcB g r then some (dSeq (dAsg (gS j) d) s) else none
    | _, _, _ => none)
  | _ => none
theorem pss_suf (k : Sui Y g i a sub) : ∀ {sts : List Stmt} {s : Sd}, sufS g i sub sts = some s → PSs Y sts (fun D σ H => σ[i]? = some (some (.ref a)) ∧ tS (gOf Y) F W s D σ H) := by
  intro sts
  induction sts with
  | nil => intro s h; cases h
  | cons st rest ih =>
    intro s h
    unfold sufS at h
    split at h
    · rename_i e pos hst
      cases hst
      cases er : sufRet g e with
      | none => rw [er] at h; cases h
      | some d =>
        rw [er] at h
        cases h
        exact PSs.imp (pds_one (pds_ret (pd_sufRet k er))) fun D σ H h => h.2
    · rename_i r p e pos rest' hst
      cases hst
      cases ej : ixOf g.N r with
      | none => rw [ej] at h; cases h
      | some j =>
        cases ev : sufVal g i sub e with
        | none => rw [ej, ev] at h; cases h
        | some d =>
          cases es : sufS g i sub rest with
          | none => rw [ej, ev, es] at h; cases h
          | some s' =>
            rw [ej, ev, es] at h
            simp only at h
            cases ec : (neq j i && lcB g r) with
            | false => rw [ec] at h; cases h
            | true =>
              rw [ec] at h
              cases h
              rw [Bool.and_eq_true] at ec
              have hl : Y.env.scope.names.lookup r = some .local := by
                rw [k.sc]
                have := ec.2
                unfold lcB at this
                split at this
                · assumption
                · cases this
              obtain ⟨nc, hp⟩ := pe_sufVal (F := F) (W := W) k ev
              refine PSs.imp (pss_cons (ps_set (i := j) (pos' := p) (pos := pos) k.nd (by rw [k.N]; exact ixOf_ok ej) (.inl hl) hp (sw_plain nc) (.inr hl)) (ih es)) ?_
              rintro D σ H ⟨hx, env, cup, S, q⟩
              refine ⟨hx, env, cup, S, ?_⟩
              unfold dSeq dAsg toS at q
              cases ed : d env cup with
              | stuck => rw [ed] at q; exact q
              | exc kk c => rw [ed] at q; exact fun H1 S1 e1 => q σ H1 S1.ends
              | ok x c =>
                rw [ed] at q
                intro v H1 S1 e1 p1
                have hji : j ≠ i := neq_ok ec.1
                refine ⟨by rw [List.getElem?_set_ne hji]; exact hx, env.set j (.va x), c, S1.set_va p1, ?_⟩
                exact PostS.mono q ((Step.ofE S e1).trans (Step.ofSub (oo_set (fun _ h => by cases h) S.len)))
    · cases h
end RX
set_option maxHeartbeats 4000000
namespace RX
open PySem L2 L2H LamX

/-- what is known of an own class k: its address D; sub tells which classes it is one of -/
structure ClsOk (K : PySem.W.Frag) (mg : Str → Option Value) (CS : Addr) (k : Str) (sub : Str → Option Bool) : Prop where
  ok : ∃ D, mg k = some (.ref D) ∧ ExcC K D ∧ PySem.W.exmOne K (.ref D) (.ref CS) = some true ∧ ∀ C b, sub C = some b → ∃ Cj, mg C = some (.ref Cj) ∧ PySem.W.kitOne K (.ref D) (.ref Cj) = some b
/-- the suite, run: the text that it returns -/
def sufRun (g : Gam) (i : Nat) (sub : Str → Option Bool) (sts : List Stmt) : Option Str := match sufS g i sub sts with
  | some s => (match s (List.replicate g.N.length .no) [] with
    | .rt (.str w) _ => some w
    | _ => none)
  | none => none
def empF (H : Hp) (T : Tl) : FC := ⟨none, fun _ => False, H, T⟩
theorem emp_S {G : GC} {σ : L2.St} {H : Hp} {T : Tl} {n : Nat} (hn : σ.length = n) (t : Tabs T H) : Ss G (empF H T) (List.replicate n .no) [] σ H := by
  have no : ∀ (i : Nat) (s : Sl), (List.replicate n Sl.no)[i]? = some s → s = .no := fun i s h => by
    have := List.mem_of_getElem? h
    exact (List.mem_replicate.mp this).2
  exact ⟨by simp [hn], (fun i x h => by cases no i _ h), (fun i xs h => by cases no i _ h), (fun i j xs ys p h _ _ _ => by cases no i _ h), (fun a h => by cases h), (fun a h => False.elim h), (fun a h => by cases h), ExE.refl, t⟩
theorem suf_sem {Y : Cx} {g : Gam} {i : Nat} {a : Addr} {sub : Str → Option Bool} (k : Sui Y g i a sub) {sts : List Stmt} {w : Str} {T : Tl} (h : sufRun g i sub sts = some w) :
    PSs Y sts (fun D σ H => σ[i]? = some (some (.ref a)) ∧ Tabs T H ∧ ∀ H2, ExtN H H2 → Tabs T H2 → D.rt (.str w) H2) := by
  unfold sufRun at h
  cases es : sufS g i sub sts with
  | none => rw [es] at h; cases h
  | some s =>
    rw [es] at h
    simp only at h
    refine ⟨fun pins sh σ H D I ⟨hx, ht, hq⟩ => ?_⟩
    have hl : σ.length = g.N.length := by rw [I.len, k.N]
    refine (pss_suf (F := empF H T) (W := W0) k es).run pins sh σ H D I ⟨hx, List.replicate g.N.length .no, [], emp_S hl ht, ?_⟩
    revert h
    cases s (List.replicate g.N.length .no) [] with
    | rt v c =>
      intro h
      cases v with
      | str z =>
        cases h
        intro v H' eo r
        cases r
        exact hq H' (fun b o hb n => eo.ent b o hb (fun z => by cases z) n) eo.tab
      | _ => cases h
    | _ => intro h; cases h
/-- try: a() / except te as e: suite / return normal -/
theorem err_gives {X : Cx} {Ng : List Str} {x a te en q normal : Str} {sg : Scope} {g CS : Addr} {cdg : Value} {j i : Nat} {p1 p2 p3 p4 p5 p6 p7 p8 : Pos} {b₀ : Stmt} {suite : List Stmt} {T : Tl} {h : Er} (ge : Gam)
    (hN : ge.N = Ng) (hnd : Ng.Nodup) (hsc : ge.sc = sg) (hkd : sg.kind = .function) (hi : Ng[i]? = some en) (hln : sg.names.lookup en = some .local) (h0 : ∀ f : Addr, (L2.start Ng [V.ref f])[0]? = some (some (V.ref f)))
    (hge : sg.names.lookup te = some .globalImplicit) (hme : X.mg te = some (.ref CS)) (hde : (te == ("__debug__" : Str)) = false) (hisf : X.mg "isinstance" = none) (hn : h.1 = normal)
    (hcls : ∀ k w, lkp h.2 k = some w → ∃ sub, ClsOk X.K X.mg CS k sub ∧ sufRun ge i sub (b₀ :: suite) = some w) :
    GivesN X Ng x sg g cdg [.Try [.Expr (.Call (.Name a p1) [] [] p2) p3] [.ExceptHandler (some (.Name te p4)) (some en) (b₀ :: suite) p5] [] [] p6, .Return (some (.Constant (.str normal) j p7)) p8] a q (TTer X.mg T h) := by
  intro f c' s H Q tl act hc hT
  have hgl : Gl (cxOf C8.CX0 X.prog X.w X.K X.mg X.base Ng x sg g cdg X.A X.stack s H C8.E0).nox te := hge
  refine ⟨_, pss_cons (L2N.ps_try_as (X := (cxOf C8.CX0 X.prog X.w X.K X.mg X.base Ng x sg g cdg X.A X.stack s H C8.E0).nox) (c := .ref CS) (i := i) (Wout := W0)
      (tb := fun W D σ H => ∃ Ech : XK, (∀ cls d σ' H', Ech cls d H' → W cls d σ' H') ∧ σ[0]? = some (some (.ref f)) ∧ H c' = some (CodeO c' q) ∧ tl Ech H fun v H1 => D.nx σ H1)
      (ts := fun a cls d D σ H => (∃ σ0 : L2.St, σ = σ0.set i (some (.ref a))) ∧ d = none ∧ Tabs T H ∧ ∃ k C w, X.mg k = some (.ref C) ∧ cls = .ref C ∧ lkp h.2 k = some w ∧ ∀ H2, ExtN H H2 → Tabs T H2 → D.rt (.str w) H2)
      rfl rfl hnd hi hln ⟨hgl, hde, .inl hme⟩ takes0 (fun W pn xe tk _ => ?_) (fun ax oe cls d pn hz hf => ?_)) (pss_one (ps_ret pe_str)), ?_⟩
  · refine ⟨fun pins s' σ H' D I h' => ?_⟩
    obtain ⟨Ech, hW, h1, h2, h3⟩ := h'
    have hp := act W pn xe Ech p1 p2 tk hW
    have hq := pss_one (ps_expr (pos := p3) hp (by rfl))
    exact hq.run pins s' σ H' D I ⟨h1, h2, h3⟩
  · refine ⟨fun pins s' σ H' D I h' => ?_⟩
    obtain ⟨⟨σ0, hσ⟩, hd, ht, k, C, w, hk, hcl, hw, hq⟩ := h'
    have hx : σ[i]? = some (some (.ref ax)) := by
      have hl : σ.length = Ng.length := I.len
      have hi' : i < Ng.length := (List.getElem?_eq_some_iff.mp hi).1
      rw [hσ] at hl ⊢
      rw [List.length_set] at hl
      exact List.getElem?_set_self (by omega)
    subst hd hcl
    obtain ⟨sub, ⟨D', hD, hE, _, hS⟩, hr⟩ := hcls k w hw
    rw [hk] at hD
    cases hD
    obtain ⟨vs, hv⟩ := hf
    have sui : Sui ((cxOf C8.CX0 X.prog X.w X.K X.mg X.base Ng x sg g cdg X.A X.stack s H C8.E0).nox.suite ax ((ax, oe) :: pn)) ge i ax sub := by
      refine ⟨hN.symm, hnd, hsc.symm, ⟨(ax, oe), ⟨rfl, vs, hv, hz.2.2 vs hv⟩, List.mem_cons_self⟩, by rw [hsc]; exact hkd, hisf, fun C' b hb => ?_⟩
      obtain ⟨Cj, e1, e2⟩ := hS C' b hb
      exact ⟨Cj, C, e1, call_isE hE hz.zc ⟨vs, hv⟩, e2⟩
    exact (suf_sem (T := T) sui hr).run pins s' σ H' D I ⟨hx, ht, hq⟩
  · refine ⟨fun cls d H' => d = none ∧ Tabs T H' ∧ ∃ k C w, X.mg k = some (.ref C) ∧ cls = .ref C ∧ lkp h.2 k = some w ∧ ∀ H2, ExtN H' H2 → Tabs T H2 → Q (.str w) H2, fun cls d σ' H' ⟨e1, e2, k, C, w, e3, e4, e5, e6⟩ => ?_, h0 f, hc, ?_⟩
    · subst e1 e4
      obtain ⟨sub, ⟨D', hD, hE, hm, hS⟩, hr⟩ := hcls k w e5
      rw [e3] at hD
      cases hD
      refine ⟨true, hm, fun _ ax _ => ⟨⟨σ', rfl⟩, rfl, e2, k, C, w, e3, rfl, e5, e6⟩, fun z => by cases z⟩
    · subst hn
      exact hT
end RX
set_option maxHeartbeats 4000000
namespace RX
open PySem L2 LamX
variable {X : Cx} {F : FC} {W : WX} {g : Gam}

/-! ### the cup: abs((list(script) + [0])[0]) -/
def cellOf (ns : List Int) : Int := if ns.headD 0 < 0 then -ns.headD 0 else ns.headD 0
theorem pe_cell {s0 : Str} {i0 : Nat} {p1 p2 p3 p4 p5 p6 p7 p8 p9 p10 : Pos} {k1 k2 : Nat} {a : Addr} {ns : List Int} (hx : PE X (.Name s0 p4) (tVar i0)) (hga : Gl X "abs") (hma : X.mg "abs" = none) (hgl : Gl X "list") (hml : X.mg "list" = none) (hn : ns.length ≤ 1000) :
    PE X (.Call (.Name "abs" p1) [.Subscript (.BinOp (.Call (.Name "list" p3) [.Name s0 p4] [] p5) .Add (.List [.Constant (.int 0) k1 p6] p7) p8) (.Constant (.int 0) k2 p9) p2] [] p10)
      (fun σ H Q => σ[i0]? = some (some (.ref a)) ∧ SqL X.K H a (ns.map V.int) ∧ ∀ H', Evl.Ex H H' → Q (.int (cellOf ns)) H') := by
  have hl : PE X (.Call (.Name "list" p3) [.Name s0 p4] [] p5) _ := pe_callTy call_list_of hgl hml (by rfl) (pa_cons hx pa_nil (by rfl)) (by decide) (by decide) (by rfl) (by rfl)
  have hz : PE X (.List [.Constant (.int 0) k1 p6] p7) _ := pe_lst (pa_cons pe_int pa_nil (by rfl))
  have hix : PE X (.Subscript (.BinOp (.Call (.Name "list" p3) [.Name s0 p4] [] p5) .Add (.List [.Constant (.int 0) k1 p6] p7) p8) (.Constant (.int 0) k2 p9) p2) _ := pe_ix ix_seq (pe_op op_cat hl hz) pe_int (plainIx rfl)
  refine PE.imp (pe_callB (bf_abs none) hga hma (by rfl) (pa_cons hix pa_nil (by rfl)) (by decide) (by decide) (by rfl) (by rfl)) ?_
  rintro σ H Q ⟨h1, h2, q⟩
  refine ⟨.ref a, h1, a, ns.map V.int, rfl, .inl h2, fun l hl => ?_⟩
  have e1 : Evl.Ex H (upd H l (.lst (ns.map V.int))) := Evl.Ex.new hl
  refine ⟨by rw [sizeLine_eq]; simp, fun p hp => ?_⟩
  have e2 := Evl.Ex.new (o := .lst [V.int 0]) hp
  refine ⟨l, p, ns.map V.int, [.int 0], rfl, rfl, e2 _ _ upd_same, upd_same, by rw [sizeLine_eq]; simp; omega, fun r hr => ?_⟩
  have e3 := Evl.Ex.new (o := .lst (ns.map V.int ++ [V.int 0])) hr
  have hat : atI (ns.map V.int ++ [V.int 0]) 0 = some (.int (ns.headD 0)) := by
    have z : (ns.map V.int ++ [V.int 0])[0]? = some (.int (ns.headD 0)) := by cases ns <;> rfl
    exact atI_nat z
  refine .inl ⟨r, _, 0, .int (ns.headD 0), rfl, rfl, SqL.of upd_same, hat, ?_⟩
  refine ⟨fun _ => False, [.int (ns.headD 0)], .int (cellOf ns), .cons (.inl (.int _)) .nil, by first | rfl | (unfold cellOf; rfl), fun a h => False.elim h, fun v H' ex r' => ?_⟩
  cases r'
  exact q H' (((e1.trans e2).trans e3).trans ex)

theorem cell_nat (ns : List Int) : 0 ≤ cellOf ns := by
  unfold cellOf
  split <;> omega
/-- a fresh cup from the script: the promise of the def that makes it; b: what it does with the number -/
def spCup (G : GC) (tl : Tl) (b : Sd) (m : Nat) : Sp := fun vs H Q _ => vs.length = 1 ∧ ∃ a ns xs c, vs = [.ref a] ∧ SqL G.K H a (ns.map V.int) ∧ ns.length ≤ 1000 ∧ Tabs tl H ∧ b (.no :: .va (.int (cellOf ns)) :: List.replicate m .no) [] = .rt (.lst xs) c ∧
  ∀ p us H', H' p = some (.lst us) → Reps G none (fun _ => False) H' us xs → ExtN H H' → Tabs tl H' → Q (.ref p) H'
theorem cup_ok {P : Program} {w : World} {K : PySem.W.Frag} {mg : Str → Option Value} {base : Heap} {name qual : Str} {params : Arguments} {scope : Scope} {k : Nat} {f : Addr} {fd : FuncData} {s0 cell : Str} {N : List Str} {b : Sd} {tl : Tl} {rest : List Stmt}
    {p1 p2 p3 p4 p5 p6 p7 p8 p9 p10 p11 p12 : Pos} {k1 k2 : Nat} (FD : FunD K name qual params (.Assign [.Name cell p11] (.Call (.Name "abs" p1) [.Subscript (.BinOp (.Call (.Name "list" p3) [.Name s0 p4] [] p5) .Add (.List [.Constant (.int 0) k1 p6] p7) p8) (.Constant (.int 0) k2 p9) p2] [] p10) p12 :: rest) scope [] [] f fd)
    (S : FnScope (s0 :: cell :: N) [s0] scope) (hs0 : Vis scope s0) (hd0 : (s0 == ("__debug__" : Str)) = false) (hd1 : (s0 == ("__classdict__" : Str)) = false) (hcell : scope.names.lookup cell = some .local) (hga : scope.names.lookup ("abs" : Str) = some .globalImplicit) (hma : mg "abs" = none) (hgl : scope.names.lookup ("list" : Str) = some .globalImplicit) (hml : mg "list" = none)
    (hb : ∀ (X : Cx) (E : XK) (F : FC), F.tl = tl → BCx P w K mg base (s0 :: cell :: N) scope qual fd.code k X E → PSs X rest (tS (gOf X) F (WE0 E) b)) :
    FnOk P w K mg base (L2N.CX P w) (k + 1) f fd [s0] (spCup ⟨K, mg⟩ tl b N.length) := by
  obtain ⟨oc, od, dV, kV, doc, pm, an, cdv, ct, osl, rfl, lk, hcd, _, _⟩ := FD.ex
  refine fn_of lk hcd S (fun vs H Q E h => h.1) (fun A outer s H vs Q E hr h => ?_)
  obtain ⟨hl, a, ns, xs, c, rfl, hS, hn, ht, hbb, hq⟩ := h
  have hctx := fun F hT => hb (cxOf (L2N.CX P w) P w K mg base (s0 :: cell :: N) qual scope f cdv A outer s H E) E F hT (bcx_of hr)
  refine ⟨_, pss_cons (ps_set (i := 1) S.nd rfl (.inl hcell) (pe_cell (a := a) (ns := ns) (pe_var (i := 0) rfl hs0 hd0 hd1) hga hma hgl hml hn) (by rfl) (.inr hcell)) (hctx ⟨none, fun _ => False, H, tl⟩ rfl), ?_⟩
  refine ⟨rfl, hS, fun H1 ex => ?_⟩
  have hst : (L2.start (s0 :: cell :: N) [V.ref a]).set 1 (some (.int (cellOf ns))) = some (.ref a) :: some (.int (cellOf ns)) :: List.replicate N.length none := by
    simp [L2.start, List.replicate_succ]
  show tS _ _ _ b _ ((L2.start (s0 :: cell :: N) [V.ref a]).set 1 (some (.int (cellOf ns)))) H1
  rw [hst]
  have no : ∀ (i : Nat) (s : Sl), (Sl.no :: Sl.va (.int (cellOf ns)) :: List.replicate N.length Sl.no)[i]? = some s → s = .no ∨ (i = 1 ∧ s = .va (.int (cellOf ns))) := fun i s h => by
    match i with
    | 0 => cases h; exact .inl rfl
    | 1 => cases h; exact .inr ⟨rfl, rfl⟩
    | i + 2 =>
      have := List.mem_of_getElem? (show (List.replicate N.length Sl.no)[i]? = some s from h)
      exact .inl (List.mem_replicate.mp this).2
  have t1 : Tabs tl H1 := ht.ext ex
  refine ⟨.no :: .va (.int (cellOf ns)) :: List.replicate N.length .no, [], ⟨by simp, (fun i x h => ?_), (fun i xs h => by rcases no i _ h with e | ⟨_, e⟩ <;> cases e), (fun i j xs ys p h _ _ _ => by rcases no i _ h with e | ⟨_, e⟩ <;> cases e), (fun a h => by cases h), (fun a h => False.elim h), (fun a h => by cases h), ExE.of_ex ex, t1⟩, ?_⟩
  · rcases no i _ h with e | ⟨rfl, e⟩
    · cases e
    · cases e; exact ⟨.int (cellOf ns), rfl, .int _⟩
  · rw [hbb]
    intro v H' eo r
    cases r with
    | lst h1 h2 h3 => exact hq _ _ H' h1 h3 (fun b o hb n => eo.ent b o hb (fun z => by cases z) n) eo.tab

theorem reps_of_ints {G : GC} {B : Option Addr} {O : Addr → Prop} {H : Hp} : ∀ (zs : List Int), Reps G B O H (zs.map V.int) (zs.map PV.int)
  | [] => .nil
  | z :: zs => .cons (.int z) (reps_of_ints zs)
/-- the law's promise: it tells True -/
def spLaw (G : GC) (tl : Tl) (bc : Sd) (mc : Nat) (bl : Sd) (ml : Nat) : Sp := fun vs H Q _ => vs.length = 1 ∧ ∃ (a : Addr) (ns : List Int) (zs : List Int) (c c' : Cup), vs = [.ref a] ∧ SqL G.K H a (ns.map V.int) ∧ ns.length ≤ 1000 ∧ Tabs tl H ∧ bc (.no :: .va (.int (cellOf ns)) :: List.replicate mc .no) [] = .rt (.lst (zs.map PV.int)) c ∧
  bl (.no :: .va .box :: List.replicate ml .no) (zs.map PV.int) = .rt (.bl true) c' ∧ ∀ H', Q (.bl true) H'
theorem law_ok {P : Program} {w : World} {K : PySem.W.Frag} {mg : Str → Option Value} {base : Heap} {name qual : Str} {params : Arguments} {scope : Scope} {k mc : Nat} {f fc : Addr} {fd fdc : FuncData} {s0 cup cf sc : Str} {N : List Str} {b bc : Sd} {tl : Tl} {rest : List Stmt}
    {p1 p2 p3 p4 p5 : Pos} (FD : FunD K name qual params (.Assign [.Name cup p1] (.Call (.Name cf p2) [.Name s0 p3] [] p4) p5 :: rest) scope [] [] f fd)
    (S : FnScope (s0 :: cup :: N) [s0] scope) (hs0 : Vis scope s0) (hd0 : (s0 == ("__debug__" : Str)) = false) (hd1 : (s0 == ("__classdict__" : Str)) = false) (hcup : scope.names.lookup cup = some .local) (hgc : scope.names.lookup cf = some .globalImplicit) (hdc : (cf == ("__debug__" : Str)) = false)
    (FNC : FnOk P w K mg base (L2N.CX P w) k fc fdc [sc] (spCup ⟨K, mg⟩ tl bc mc)) (hmc : mg cf = some (.ref fc)) (hkc : PySem.W.keepIn K (.ref fc) = true) (hbc : Binds K fdc [sc] [])
    (hb : ∀ (X : Cx) (E : XK) (F : FC), F.tl = tl → BCx P w K mg base (s0 :: cup :: N) scope qual fd.code k X E → PSs X rest (tS (gOf X) F (WE0 E) b)) :
    FnOk P w K mg base (L2N.CX P w) (k + 1) f fd [s0] (spLaw ⟨K, mg⟩ tl bc mc b N.length) := by
  obtain ⟨oc, od, dV, kV, doc, pm, an, cdv, ct, osl, rfl, lk, hcd, _, _⟩ := FD.ex
  refine fn_of lk hcd S (fun vs H Q E h => h.1) (fun A outer s H vs Q E hr h => ?_)
  obtain ⟨hl, a, ns, zs, c, c', rfl, hS, hn, ht, hbb, hlaw, hq⟩ := h
  have tk : L2N.Takes (cxOf (L2N.CX P w) P w K mg base (s0 :: cup :: N) qual scope f cdv A outer s H E) (WE0 E) := L2N.takes_of rfl rfl rfl rfl
  have hctx := fun F hT => hb (cxOf (L2N.CX P w) P w K mg base (s0 :: cup :: N) qual scope f cdv A outer s H E) E F hT (bcx_of hr)
  have hall : PSs (cxOf (L2N.CX P w) P w K mg base (s0 :: cup :: N) qual scope f cdv A outer s H E) rest (fun D σ H => ∃ F, F.tl = tl ∧ tS ⟨K, mg⟩ F (WE0 E) b D σ H) := ⟨fun pins sh σ H D I ⟨F, hT, hF⟩ => (hctx F hT).run pins sh σ H D I hF⟩
  refine ⟨_, pss_cons (ps_set (i := 1) S.nd rfl (.inl hcup) (pe_callS FNC hr hgc hmc hkc hbc (fun σ => L2N.passAt tk σ) (pa_cons (pe_var (i := 0) rfl hs0 hd0 hd1) pa_nil (by rfl)) hdc (by rfl) (by rfl)) (by rfl) (.inr hcup)) hall, ?_⟩
  refine ⟨.ref a, rfl, rfl, a, ns, zs.map PV.int, c, rfl, hS, hn, ht, hbb, fun p us H' hp r eN t => ?_⟩
  have hus := reps_ints r
  subst hus
  have hst : (L2.start (s0 :: cup :: N) [V.ref a]).set 1 (some (.ref p)) = some (.ref a) :: some (.ref p) :: List.replicate N.length none := by
    simp [L2.start, List.replicate_succ]
  show ∃ F, F.tl = tl ∧ tS _ F _ b _ ((L2.start (s0 :: cup :: N) [V.ref a]).set 1 (some (.ref p))) H'
  rw [hst]
  have no : ∀ (i : Nat) (s : Sl), (Sl.no :: Sl.va PV.box :: List.replicate N.length Sl.no)[i]? = some s → s = .no ∨ (i = 1 ∧ s = .va .box) := fun i s h => by
    match i with
    | 0 => cases h; exact .inl rfl
    | 1 => cases h; exact .inr ⟨rfl, rfl⟩
    | i + 2 =>
      have := List.mem_of_getElem? (show (List.replicate N.length Sl.no)[i]? = some s from h)
      exact .inl (List.mem_replicate.mp this).2
  refine ⟨⟨some p, fun b => b = p, H', tl⟩, rfl, .no :: .va .box :: List.replicate N.length .no, zs.map PV.int, ⟨by simp, (fun i x h => ?_), (fun i xs h => by rcases no i _ h with e | ⟨_, e⟩ <;> cases e), (fun i j xs ys p h _ _ _ => by rcases no i _ h with e | ⟨_, e⟩ <;> cases e), (fun b h => ?_), (fun b h => ?_), (fun b h => ?_), ExE.refl, t⟩, ?_⟩
  · rcases no i _ h with e | ⟨rfl, e⟩
    · cases e
    · cases e; exact ⟨.ref p, rfl, .box rfl⟩
  · cases h; exact ⟨_, hp, reps_of_ints zs⟩
  · subst h; exact ⟨_, hp, nt_lst⟩
  · cases h; rfl
  · rw [hlaw]
    intro v H2 eo r
    cases r
    exact hq H2
end RX
set_option maxHeartbeats 4000000
namespace RX
open PySem L2 LamX

/-! ### facts read off the head -/
def vpB (f : Value → PV → Bool) : List Value → List PV → Bool
  | [], [] => true
  | u :: us, p :: ps => f u p && vpB f us ps
  | _, _ => false
/-- K tells the value u as p -/
def repB (K : PySem.W.Frag) : Nat → Value → PV → Bool
  | 0, _, _ => false
  | n + 1, u, p => match p with
    | .non => (match u with
      | .none => true
      | _ => false)
    | .bl b => (match u with
      | .bool c => b == c
      | _ => false)
    | .int i => (match u with
      | .int j _ => decide (i = j)
      | _ => false)
    | .str x => (match u with
      | .str y _ => decide (x = y)
      | _ => false)
    | .tup xs => (match u with
      | .ref a => (match K.lookup a with
        | some ⟨.type c, _, .seq its _, _⟩ => decide (c = "tuple") && (decide (its.size ≤ sizeLine) && vpB (repB K n) its.toList xs)
        | _ => false)
      | _ => false)
    | _ => false
theorem vpB_ok {K : PySem.W.Frag} {mg : Str → Option Value} {f : Value → PV → Bool} (h : ∀ u p, f u p = true → ∃ v, RelV v u ∧ ∀ B O H, Rep ⟨K, mg⟩ B O H v p) : ∀ {us ps}, vpB f us ps = true → ∃ vs, Vals vs us ∧ ∀ B O H, Reps ⟨K, mg⟩ B O H vs ps
  | [], [], _ => ⟨[], .nil, fun _ _ _ => .nil⟩
  | u :: us, p :: ps, e => by
    obtain ⟨e1, e2⟩ := He.ba (show (f u p && vpB f us ps) = true from e)
    obtain ⟨v, r1, k1⟩ := h u p e1
    obtain ⟨vs, r2, k2⟩ := vpB_ok h e2
    exact ⟨v :: vs, .cons r1 r2, fun B O H => .cons (k1 B O H) (k2 B O H)⟩
  | [], _ :: _, e => by cases e
  | _ :: _, [], e => by cases e
theorem repB_ok {K : PySem.W.Frag} {mg : Str → Option Value} : ∀ n u p, repB K n u p = true → ∃ v, RelV v u ∧ ∀ B O H, Rep ⟨K, mg⟩ B O H v p
  | 0, _, _, h => by cases h
  | n + 1, u, p, h => by
    unfold repB at h
    cases p with
    | non => cases u with
      | none => exact ⟨.non, rfl, fun _ _ _ => .non⟩
      | _ => cases h
    | bl b => cases u with
      | bool c => have e : b = c := eq_of_beq h; subst e; exact ⟨.bl b, rfl, fun _ _ _ => .bl b⟩
      | _ => cases h
    | int i => cases u with
      | int j t => have e : i = j := of_decide_eq_true h; subst e; exact ⟨.int i, ⟨t, rfl⟩, fun _ _ _ => .int i⟩
      | _ => cases h
    | str x => cases u with
      | str y t => have e : x = y := of_decide_eq_true h; subst e; exact ⟨.str x, ⟨t, rfl⟩, fun _ _ _ => .str x⟩
      | _ => cases h
    | tup xs => cases u with
      | ref a =>
        have h2 : (match K.lookup a with
          | some ⟨.type c, _, .seq its _, _⟩ => decide (c = "tuple") && (decide (its.size ≤ sizeLine) && vpB (repB K n) its.toList xs)
          | _ => false) = true := h
        split at h2
        · rename_i c od its m osl q
          obtain ⟨e1, e2⟩ := He.ba h2
          obtain ⟨e3, e4⟩ := He.ba e2
          obtain ⟨vs, r, k⟩ := vpB_ok (mg := mg) (repB_ok n) e4
          have sq : ∀ H, SqT K H a vs := fun H => .inr ⟨_, its, m, q, congrArg Value.type (of_decide_eq_true e1), rfl, of_decide_eq_true e3, r⟩
          exact ⟨.ref a, rfl, fun B O H => .tup (sq H) (fun _ => sq _) (k B O H)⟩
        · cases h2
      | _ => cases h
    | _ => cases h
def nsT (K : PySem.W.Frag) (x : Str) (p : PV) : Bool := match PySem.W.nsIn K mainGlobals x with
  | some (some u) => repB K 20 u p
  | _ => false
def conB (K : PySem.W.Frag) (con : List (Str × PV)) : Bool := con.all fun q => nsT K q.1 q.2
/-- own exceptions: made of one text, raised -/
def excB (K : PySem.W.Frag) (xs : List Str) : Bool := xs.all fun x => !(x == ("__debug__" : Str)) && ((He.Fa.glo x).ok K && (He.Fa.exc x).ok K)
def freeB (K : PySem.W.Frag) (xs : List Str) : Bool := xs.all fun x => (He.Fa.free x).ok K
def kitB (K : PySem.W.Frag) (k : Str) (C : Str) : Bool := (He.Fa.glo C).ok K && decide (PySem.W.kitOne K (.ref (He.ga K k)) (.ref (He.ga K C)) = some (decide (C = k)))
/-- the own class k under te: what isinstance tells of it at the classes cs, no other of which it is one of -/
def clsB (K : PySem.W.Frag) (te : Str) (cs : List Str) (k : Str) : Bool :=
  (He.Fa.glo k).ok K && (He.eqO (PySem.W.findIn K (.ref (He.ga K k)) "__getattribute__") (some (some (.builtin "BaseException.__getattribute__"))) && (He.eqO (PySem.W.findIn K (.ref (He.ga K k)) "__getattr__") (some none) &&
  (decide (PySem.W.subIn K (.ref (He.ga K k)) (.type "BaseException") = some true) && (PySem.W.hasDictIn K (He.ga K k) && (He.eqO (PySem.W.findIn K (.ref (He.ga K k)) "__class__") (some (some (.builtin "object.__class__"))) &&
  (He.eqO (PySem.W.specialIn K (.builtin "object.__class__") "__get__") (some (some (.builtin "getset_descriptor.__get__"))) && (decide (PySem.W.takesIn K (.builtin "object.__class__") = some true) && (decide (PySem.W.mroIn K (He.ga K k) (.type "object") = some true) &&
  (decide (PySem.W.exmOne K (.ref (He.ga K k)) (.ref (He.ga K te)) = some true) && cs.all fun C => kitB K k C)))))))))
def subF (cs : List Str) (k : Str) : Str → Option Bool := fun C => bif has cs C then some (decide (C = k)) else none
section
variable {K : PySem.W.Frag} {h : Heap} {mg : Str → Option Value}
theorem clsB_ok (X : K.In h) (G : h.Ns mainGlobals mg) {te : Str} {cs : List Str} {k : Str} (c : clsB K te cs k = true) : ClsOk K mg (He.ga K te) k (subF cs k) := by
  obtain ⟨c1, c⟩ := He.ba c
  obtain ⟨c2, c⟩ := He.ba c
  obtain ⟨c3, c⟩ := He.ba c
  obtain ⟨c4, c⟩ := He.ba c
  obtain ⟨c5, c⟩ := He.ba c
  obtain ⟨c6, c⟩ := He.ba c
  obtain ⟨c7, c⟩ := He.ba c
  obtain ⟨c8, c⟩ := He.ba c
  obtain ⟨c9, c⟩ := He.ba c
  obtain ⟨c10, c11⟩ := He.ba c
  refine ⟨He.ga K k, He.glo_ok X G c1, ⟨He.eqO_ok c2, He.eqO_ok c3, of_decide_eq_true c4, c5, He.eqO_ok c6, He.eqO_ok c7, of_decide_eq_true c8, of_decide_eq_true c9⟩, of_decide_eq_true c10, fun C b e => ?_⟩
  unfold subF at e
  cases q : has cs C with
  | false => rw [q] at e; cases e
  | true =>
    rw [q] at e
    cases e
    obtain ⟨d1, d2⟩ := He.ba (List.all_eq_true.mp c11 C (has_mem q))
    exact ⟨He.ga K C, He.glo_ok X G d1, of_decide_eq_true d2⟩
end
/-- what is known of the module, whatever the def -/
structure Bas (K : PySem.W.Frag) (mg : Str → Option Value) (con : List (Str × PV)) (free exs : List Str) : Prop where
  con : ∀ x p, lkp con x = some p → ∃ v u, mg x = some u ∧ RelV v u ∧ ∀ B O H, Rep ⟨K, mg⟩ B O H v p
  free : ∀ x, x ∈ free → mg x = none
  exs : ∀ x, x ∈ exs → (x == ("__debug__" : Str)) = false ∧ mg x = some (.ref (He.ga K x)) ∧ PySem.W.excIn K (He.ga K x) He.veBase "ValueError.__new__" = true ∧ PySem.W.keepIn K (.ref (He.ga K x)) = true ∧ PySem.W.subIn K (.ref (He.ga K x)) (.type "BaseException") = some true ∧ PySem.W.typeIn K (.ref (He.ga K x)) = some (.type "type")
theorem bas_of {K : PySem.W.Frag} {h : Heap} {mg : Str → Option Value} {con : List (Str × PV)} {free exs : List Str} (X : K.In h) (G : h.Ns mainGlobals mg) (c1 : conB K con = true) (c2 : freeB K free = true) (c3 : excB K exs = true) : Bas K mg con free exs := by
  refine ⟨fun x p e => ?_, fun x hx => He.free_ok X G (List.all_eq_true.mp c2 x hx), fun x hx => ?_⟩
  · have c := List.all_eq_true.mp c1 _ (lkp_mem e)
    unfold nsT at c
    cases q : PySem.W.nsIn K mainGlobals x with
    | none =>
      rw [q] at c
      cases c
    | some o =>
      cases o with
      | none =>
        rw [q] at c
        cases c
      | some u =>
        rw [q] at c
        obtain ⟨v, r, k⟩ := repB_ok (mg := mg) _ _ _ c
        exact ⟨v, u, PySem.W.mg_of X G q, r, k⟩
  · obtain ⟨d0, d⟩ := He.ba (List.all_eq_true.mp c3 x hx)
    obtain ⟨d1, d2⟩ := He.ba d
    rw [Bool.not_eq_true'] at d0
    exact ⟨d0, He.glo_ok X G d1, He.exc_ok d2⟩
/-- a def keeps its promise, at a level of at most lvl -/
structure DefOk (P : Program) (w : World) (K : PySem.W.Frag) (mg : Str → Option Value) (base : Heap) (tl : Tl) (lvl : Nat) (x : Str) (f : Fn) (n : Nat) : Prop where
  dbg : (x == ("__debug__" : Str)) = false
  ok : ∃ (k : Nat) (a : Addr) (fd : FuncData) (ps : List Str), k ≤ lvl ∧ FnOk P w K mg base (L2N.CX P w) k a fd ps (spF ⟨K, mg⟩ tl f n) ∧ mg x = some (.ref a) ∧ PySem.W.keepIn K (.ref a) = true ∧ Binds K fd ps []
variable {P : Program} {w : World} {K : PySem.W.Frag} {mg : Str → Option Value} {base : Heap} {tl : Tl}
theorem DefOk.call {lvl : Nat} {x : Str} {f : Fn} {n : Nat} {A : Around} (d : DefOk P w K mg base tl lvl x f n) (r : Room lvl A) : CallOkA P w K mg base A tl x f n := by
  obtain ⟨d1, k, a, fd, ps, h1, h2, h3, h4, h5⟩ := d
  exact ⟨d1, k, a, fd, ps, h2, r.mono h1, h3, h4, h5⟩
theorem DefOk.mono {lvl lv2 : Nat} {x : Str} {f : Fn} {n : Nat} (d : DefOk P w K mg base tl lvl x f n) (h : lvl ≤ lv2) : DefOk P w K mg base tl lv2 x f n := by
  obtain ⟨d1, k, a, fd, ps, h1, h2⟩ := d
  exact ⟨d1, k, a, fd, ps, Nat.le_trans h1 h, h2⟩
/-- all of a list of defs -/
def AllD (P : Program) (w : World) (K : PySem.W.Frag) (mg : Str → Option Value) (base : Heap) (tl : Tl) (lvl : Nat) : List (Str × Fn × Nat) → Prop
  | [] => True
  | q :: r => DefOk P w K mg base tl lvl q.1 q.2.1 q.2.2 ∧ AllD P w K mg base tl lvl r
theorem AllD.get {lvl : Nat} : ∀ {l : List (Str × Fn × Nat)}, AllD P w K mg base tl lvl l → ∀ x f n, lkp l x = some (f, n) → DefOk P w K mg base tl lvl x f n
  | (y, g, m) :: r, h, x, f, n, e => by
    unfold lkp at e
    cases q : decide (y = x) with
    | true => rw [q] at e; cases e; rw [decide_eq_true_eq] at q; subst q; exact h.1
    | false => rw [q] at e; exact AllD.get h.2 x f n e
theorem okS_of {N : List Str} {scope : Scope} {qual : Str} {code : Value} {k : Nat} {X : Cx} {E : XK} {F : FC} {con : List (Str × PV)} {free exs xt : List Str} {fns : List (Str × Fn × Nat)} {ers : List (Str × Er)} {cells : List Str} (b : BCx P w K mg base N scope qual code k X E) (hT : F.tl = tl) (B : Bas K mg con free exs)
    (hN : N.Nodup) (hk : scope.kind = .function) (hf : AllD P w K mg base tl k fns) (hl : ∀ x h, lkp ers x = some h → LamOk X fns x h tl) : OkS X (WE0 E) ⟨N, scope, cells, fns, ers, con, exs, free, xt⟩ F := by
  subst hT
  obtain ⟨hP, hw, hK, hmg, hba, hXN, hsc, hq, hco, hca, hfn, hr, htk, hown⟩ := b
  subst hP hw hK hmg hba
  refine ⟨⟨hXN, by rw [hXN]; exact hN, hsc, hca, fun x _ => by rw [hfn], by have := hr.un; omega, htk, fun x f n e => (hf.get x f n e).call hr, B.con, B.free, hl⟩, hown, ?_, fun x hx m j p2 p pos hg => ?_⟩
  · show (match scope.kind with | .function => true | _ => false) = true
    rw [hk]
  · obtain ⟨e0, e1, e2, e3, e4, e5⟩ := B.exs x hx
    exact ⟨_, e1, L2N.pmk_own PySem.F.excBase_ValueError e2 e1 e3 (raises_own e4 e5) hg e0⟩
end RX
set_option maxHeartbeats 4000000
namespace RX
open PySem L2 LamX
variable {P : Program} {w : World} {K : PySem.W.Frag} {mg : Str → Option Value} {base : Heap} {tl : Tl}
theorem def_ok {x name qual : Str} {params : Arguments} {body : List Stmt} {scope : Scope} {f : Addr} {fd : FuncData} {N ps : List Str} {b : Sd} {con : List (Str × PV)} {free exs cells mu xt : List Str} {fns : List (Str × Fn × Nat)} {wf k m n : Nat} (B : Bas K mg con free exs)
    (FD : FunD K name qual params body scope [] [] f fd) (S : FnScope N ps scope) (hm : mg x = some (.ref f)) (hd : (x == ("__debug__" : Str)) = false) (hB : Binds K fd ps []) (hf : AllD P w K mg base tl k fns)
    (hb : bodyS ⟨N, scope, cells, fns, [], con, exs, free, xt⟩ mu wf body = b) (hn : ps.length = n) (hm2 : N.length - n = m) : DefOk P w K mg base tl (k + 1) x (runS b m) n := by
  subst hb hn hm2
  exact ⟨hd, k + 1, f, fd, ps, Nat.le_refl _, fn_ok FD S fun X E F hT bc => body_ok (okS_of bc hT B S.nd S.kind hf (fun x h e => by cases e)), hm, FD.kp, hB⟩
/-- the same, lambdas handed on -/
theorem defL_ok {x name qual : Str} {params : Arguments} {body : List Stmt} {scope : Scope} {f : Addr} {fd : FuncData} {N ps : List Str} {b : Sd} {con : List (Str × PV)} {free exs cells mu xt : List Str} {fns : List (Str × Fn × Nat)} {ers : List (Str × Er)} {wf k m n : Nat} (B : Bas K mg con free exs)
    (FD : FunD K name qual params body scope [] [] f fd) (S : FnScope N ps scope) (hm : mg x = some (.ref f)) (hd : (x == ("__debug__" : Str)) = false) (hB : Binds K fd ps []) (hf : AllD P w K mg base tl k fns) (hl : ∀ X E, BCx P w K mg base N scope qual fd.code k X E → ∀ x h, lkp ers x = some h → LamOk X fns x h tl)
    (hb : bodyS ⟨N, scope, cells, fns, ers, con, exs, free, xt⟩ mu wf body = b) (hn : ps.length = n) (hm2 : N.length - n = m) : DefOk P w K mg base tl (k + 1) x (runS b m) n := by
  subst hb hn hm2
  exact ⟨hd, k + 1, f, fd, ps, Nat.le_refl _, fn_ok FD S fun X E F hT bc => body_ok (okS_of bc hT B S.nd S.kind hf (hl X E bc)), hm, FD.kp, hB⟩
theorem lamOk_of {X : Cx} {E : XK} {N : List Str} {scope : Scope} {qual : Str} {code : Value} {k lv : Nat} (b : BCx P w K mg base N scope qual code k X E) {x a : Str} {g c Pt : Addr} {fdg : FuncData} {pg : Arguments} {bg : List Stmt} {sg : Scope} {Ng : List Str} {h : Er} {fns : List (Str × Fn × Nat)}
    (FDe : FunD K x x pg bg sg [] [] g fdg) (hx : mg x = some (.ref g)) (Sg : FnScope Ng [a] sg) (hN0 : Ng[0]? = some a) (hv : Vis sg a) (hB : Binds K fdg [a] []) (hG : ∀ (X : Cx) (q : Str), X.K = K → X.mg = mg → GivesN X Ng x sg g fdg.code bg a q (TTer mg tl h)) (TB : TabB base mg c Pt)
    (hc : code = .ref c) (hT : (Pt, qual ++ ".<locals>." ++ "<lambda>") ∈ tl) (hu : ∀ p ∈ tl, p.1 = Pt → p.2 = qual ++ ".<locals>." ++ "<lambda>") (hk : lv + 2 ≤ k) (d1 : (a == ("__debug__" : Str)) = false) (d2 : (a == ("__classdict__" : Str)) = false) (hf : AllD P w K mg base tl lv fns) : LamOk X fns x h tl := by
  obtain ⟨oc, od, dV, kV, doc, pm, an, cdv, ct, osl, rfl, lk, hcd, _, _⟩ := FDe.ex
  obtain ⟨hP, hw, hK, hmg, hba, hXN, hsc, hq, hco, hca, hfn, hr, htk, hown⟩ := b
  subst hP hw hK hmg hba
  exact ⟨a, g, c, Pt, lv, pg, bg, sg, dV, kV, doc, pm, cdv, ct, oc, an, od, osl, Ng, hx, FDe.kp, lk, hcd, hB, Sg, hN0, hv, hG X _ rfl rfl, TB, hco.trans hc, by rw [hq]; exact hT, by rw [hq]; exact hu, hr.mono hk, d1, d2, fun A r y f n e => (hf.get y f n e).call r⟩
/-- the code object of a def -/
theorem code_of {d : He.DefD} {fd : FuncData} (FD : FunD K d.name d.qual d.params d.body d.scope (d.dvs K) (d.kws K) (He.fAd K d.at_) fd) : fd.code = .ref (He.codeOf K d.at_) := by
  obtain ⟨oc, od, dV, kV, doc, pm, an, cdv, ct, osl, rfl, lk, hcd, _, _⟩ := FD.ex
  obtain ⟨c, rfl⟩ := He.codeIn_ref hcd
  rw [He.codeOf_eq lk rfl]
/-- the tables of the defs tf, each with its lambdas' name -/
def tlOf (K : PySem.W.Frag) (tf : List He.Defn) : Tl := tf.map fun p => ((He.cT K p).2, p.1 ++ ".<locals>." ++ "<lambda>")
theorem tl_mem {tf : List He.Defn} {p : He.Defn} (h : p ∈ tf) : ((He.cT K p).2, p.1 ++ ".<locals>." ++ "<lambda>") ∈ tlOf K tf := List.mem_map.mpr ⟨p, h, rfl⟩
theorem nodup_inj {α β : Type} {f : α → β} : ∀ {l : List α}, (l.map f).Nodup → ∀ a ∈ l, ∀ b ∈ l, f a = f b → a = b
  | x :: r, h, a, ha, b, hb, e => by
    rw [List.map_cons, List.nodup_cons] at h
    cases ha with
    | head =>
      cases hb with
      | head => rfl
      | tail _ hb => exact absurd (List.mem_map.mpr ⟨b, hb, e.symm⟩) h.1
    | tail _ ha =>
      cases hb with
      | head => exact absurd (List.mem_map.mpr ⟨a, ha, e⟩) h.1
      | tail _ hb => exact nodup_inj h.2 a ha b hb e
theorem tl_uni {tf : List He.Defn} (n : (tf.map fun p => (He.cT K p).2).Nodup) {p : He.Defn} (h : p ∈ tf) : ∀ q ∈ tlOf K tf, q.1 = (He.cT K p).2 → q.2 = p.1 ++ ".<locals>." ++ "<lambda>" := fun q hq e => by
  obtain ⟨p2, h2, rfl⟩ := List.mem_map.mp hq
  rw [nodup_inj n p2 h2 p h e]
theorem tabs0 {tf : List He.Defn} {H : Hp} (h : ∀ p ∈ tf.map (He.cT K), H p.2 = some (.tbl #[])) : Tabs (tlOf K tf) H := fun q hq => by
  obtain ⟨p, hp, rfl⟩ := List.mem_map.mp hq
  refine ⟨#[], h _ (List.mem_map.mpr ⟨p, hp, rfl⟩), trivial, fun pos cv e => ?_⟩
  cases e
/-- all of a law's end but its own FnOk and its plain law -/
theorem law_at {l : PySem.W.OpenLaw} {K : PySem.W.Frag} {h : Heap} {fa : Addr} {x : Str} {lvl ml mc : Nat} {fas : List He.Fa} {fn : List He.DefD} {tf : List He.Defn} {ex : PySem.W.Frag → Bool} {fd : FuncData} {bc bl : Sd} (X : K.In h) (c : He.SaysX fas fn [] tf ex w h K)
    (hb : ∀ (s : Shared) (u : Value), BindsTo s fd ⟨[u], []⟩ [(x, u)]) (plain : ∀ n : Int, 0 ≤ n → ∃ (zs : List Int) (c c' : Cup), bc (.no :: .va (.int n) :: List.replicate mc .no) [] = .rt (.lst (zs.map PV.int)) c ∧ bl (.no :: .va .box :: List.replicate ml .no) (zs.map PV.int) = .rt (.bl true) c')
    (F : ∀ base : Heap, K.In base → base.Ns mainGlobals mg → (∀ p ∈ tf, TabB base mg (He.cT K p).1 (He.cT K p).2) → FnOk l.prog w K mg base (L2N.CX l.prog w) lvl fa fd [x] (spLaw ⟨K, mg⟩ (tlOf K tf) bc mc bl ml)) : LawAtS l w K (L2N.CX l.prog w) lvl 63 x mg fa h := by
  have at_ : ∀ {p : Addr × Addr}, p ∈ tf.map (He.cT K) → ∃ q ∈ tf, He.cT K q = p := fun hp => by
    obtain ⟨q, hq, e⟩ := List.mem_map.mp hp
    exact ⟨q, hq, e⟩
  refine ⟨fd, tf.map (He.cT K), spLaw ⟨K, mg⟩ (tlOf K tf) bc mc bl ml, fun p hp => ?_, fun p hp => ?_, fun p hp => ?_, hb, fun H a ns hl _ ht hS => ?_, fun base hK hN hT => F base hK hN fun p hp => hT _ (List.mem_map.mpr ⟨p, hp, rfl⟩)⟩
  · obtain ⟨q, hq, rfl⟩ := at_ hp
    exact c.empty q hq
  · obtain ⟨q, hq, rfl⟩ := at_ hp
    exact c.out q hq
  · obtain ⟨q, hq, rfl⟩ := at_ hp
    exact PySem.W.codeHd_of_K X (c.hd q hq)
  · obtain ⟨zs, c1, c2, e1, e2⟩ := plain (cellOf ns) (cell_nat ns)
    exact ⟨rfl, a, ns, zs, c1, c2, rfl, hS, by omega, tabs0 ht, e1, e2, fun _ => rfl⟩
end RX
set_option maxHeartbeats 4000000
namespace RX
open PySem L2 LamX PyProof.Rows
/-! ### the head's part of the heap, small -/
def rfY (o : Obj) : List Addr := match o.data with
  | .func d => He.refV d.code
  | .cls d => d.ns :: d.mro.flatMap He.refV
  | .seq xs _ => xs.toList.flatMap He.refV
  | _ => []
def upY (g : Addr → Option Obj) (l : List Addr) : List Addr := l.flatMap fun b => match g b with
  | some u => rfY u
  | none => []
def gbY (g : Addr → Option Obj) : List Addr := match g mainGlobals with
  | some ⟨_, _, .dict es _, _⟩ => es.toList.flatMap fun e => He.refV e.val
  | _ => []
def asY (g : Addr → Option Obj) : List Addr := mainGlobals :: (gbY g ++ (upY g (gbY g) ++ (upY g (upY g (gbY g)) ++ upY g (upY g (upY g (gbY g))))))
variable {fa : List He.Fa} {fn : List He.DefD} {tf : List He.Defn} {ex : PySem.W.Frag → Bool}
def obY (fa : List He.Fa) (fn : List He.DefD) (tf : List He.Defn) (ex : PySem.W.Frag → Bool) (g : Addr → Option Obj) (K : PySem.W.Frag) : He.AlX := (He.obsT fa fn [] K, ex K && He.tabsB g tf K)
def hookY (fa : List He.Fa) (fn : List He.DefD) (tf : List He.Defn) (ex : PySem.W.Frag → Bool) : PySem.W.Hook where
  α := He.AlX
  obs := fun s => obY fa fn tf ex s.heap.get? (He.frT s.heap.get? (asY s.heap.get?))
  val := fun w => He.valX fn [] w
  says := fun w h => ∃ K : PySem.W.Frag, K.In h ∧ He.SaysX fa fn [] tf ex w h K
  of := fun w s e => by
    have a1 : He.obsT fa fn [] (He.frT s.heap.get? (asY s.heap.get?)) = He.valT fn [] w := (Prod.mk.inj e).1
    obtain ⟨a2, a3⟩ := He.ba (show (ex (He.frT s.heap.get? (asY s.heap.get?)) && He.tabsB s.heap.get? tf (He.frT s.heap.get? (asY s.heap.get?))) = true from (Prod.mk.inj e).2)
    have tb : ∀ p ∈ tf, PySem.W.codeHdIn (He.frT s.heap.get? (asY s.heap.get?)) (He.cT (He.frT s.heap.get? (asY s.heap.get?)) p).1 (He.cT (He.frT s.heap.get? (asY s.heap.get?)) p).2 = true ∧ ∃ o, s.heap.get? (He.cT (He.frT s.heap.get? (asY s.heap.get?)) p).2 = some o ∧ He.emptyTab o = true := by
      intro p hp
      obtain ⟨b1, b2⟩ := He.ba (List.all_eq_true.mp a3 p hp)
      split at b2
      · exact ⟨b1, _, by assumption, b2⟩
      · cases b2
    refine ⟨_, He.frT_in, a1, a2, fun p hp => (tb p hp).1, fun p hp => ?_, fun p hp => ?_⟩
    · obtain ⟨_, o, q1, q2⟩ := tb p hp
      exact He.frT_none q1 q2
    · obtain ⟨_, o, q1, q2⟩ := tb p hp
      rw [He.emptyTab_eq q2] at q1
      exact q1
  keeps := fun _ _ _ ⟨K, hK, c⟩ k => ⟨K, hK.keeps k, { t := c.t, more := c.more, hd := c.hd, out := c.out, empty := fun p hp => k _ _ (c.empty p hp) }⟩
def obG (fa : List He.Fa) (fn : List He.DefD) (tf : List He.Defn) (ex : PySem.W.Frag → Bool) (s : PySem.W.SharedT) : He.AlX := obY fa fn tf ex (HandSHeadRun.getT s) (He.frT (HandSHeadRun.getT s) (asY (HandSHeadRun.getT s)))
theorem obG_eq (s : PySem.W.SharedT) : obG fa fn tf ex s = (hookY fa fn tf ex).obs s.abs := by
  have e : HandSHeadRun.getT s = s.abs.heap.get? := funext (HandSHeadRun.getT_eq s)
  unfold obG
  rw [e]
  rfl
theorem two_of {α β γ δ : Type} {x : Option α} {f : α → β} {g : α → γ} {h : α → δ} {b : β} {c : γ} {d : δ} (h1 : x.map f = some b) (h2 : x.map g = some c) (h3 : x.map h = some d) : x.map (fun s => (f s, g s, h s)) = some (b, c, d) := by
  cases x with
  | none => cases h1
  | some s =>
    cases h1
    cases h2
    cases h3
    rfl
theorem pair_of {α β γ : Type} {x : Option α} {f : α → β × γ} {b : β} {c : γ} (h1 : x.map (fun s => (f s).1) = some b) (h2 : x.map (fun s => (f s).2) = some c) : x.map f = some (b, c) := by
  cases x with
  | none => cases h1
  | some s =>
    cases h1
    cases h2
    rfl
end RX
set_option maxHeartbeats 4000000
namespace RX
open PySem L2
/-! ### the law's dice -/
/-- roll: the first number's rest, else the second number stirred -/
def rollS (A B M C M2 D : Int) : Sd :=
  dSeq (dIfS (dBin oGt (dIx (dVarB 0) (dC (.int 0))) (dC (.int 0))) (dSeq (dAsg (gS 2) (dBin oMod (dBi bInt (dCons (dIx (dVarB 0) (dC (.int 0))) dNil)) (dVarB 1))) (dSeq (dSetIx 0 (dC (.int 0)) (dBin oFdiv (dIx (dVarB 0) (dC (.int 0))) (dVarB 1))) (dRet (dVar 2)))) dNext)
    (dSeq (dSetIx 0 (dC (.int 1)) (dBin oMod (dBi bInt (dCons (dBin oAdd (dBin oMul (dIx (dVarB 0) (dC (.int 1))) (dC (.int A))) (dC (.int B))) dNil)) (dC (.int M))))
      (dSeq (dAsg (gS 3) (dBin oMod (dBi bInt (dCons (dBin oMul (dIx (dVarB 0) (dC (.int 1))) (dBin oAdd (dIx (dVarB 0) (dC (.int 1))) (dC (.int C)))) dNil)) (dC (.int M2))))
        (dRet (dBin oMod (dBi bInt (dCons (dBin oFdiv (dVarB 3) (dC (.int D))) dNil)) (dVarB 1)))))
section
variable {a b e t : E} {env env1 : En} {c c1 : Cup} {x y z : PV} {f : PV → PV → Option PV} {s u : Sd} {i : Nat} {n : Int}
theorem bin_go (h1 : a env c = .ok x c) (h2 : b env c = .ok y c) (h3 : f x y = some z) : dBin f a b env c = .ok z c := by
  unfold dBin bindE
  rw [h1]
  show (match b env c with
    | .ok y c => ofO (f x y) env c
    | .exc k c => .exc k c
    | .stuck => .stuck) = _
  rw [h2]
  show ofO (f x y) env c = _
  rw [h3]
  rfl
theorem int_go (h : e env c = .ok (.int n) c) : dBi bInt (dCons e dNil) env c = .ok (.int n) c := by
  unfold dBi dCons bindE
  rw [h]
  rfl
theorem seq_nx (h : s env c = .nx env1 c1) : dSeq s u env c = u env1 c1 := by
  unfold dSeq
  rw [h]
theorem seq_rt (h : s env c = .rt x c1) : dSeq s u env c = .rt x c1 := by
  unfold dSeq
  rw [h]
theorem ifs_t (h : t env c = .ok (.bl true) c1) : dIfS t s u env c = s env c1 := by
  unfold dIfS
  rw [h]
  rfl
theorem ifs_f (h : t env c = .ok (.bl false) c1) : dIfS t s u env c = u env c1 := by
  unfold dIfS
  rw [h]
  rfl
theorem asg_go (h : e env c = .ok x c1) : dAsg (gS i) e env c = .nx (env.set i (.va x)) c1 := by
  unfold dAsg
  rw [h]
  rfl
theorem ret_go (h : e (frzA env) c = .ok x c1) : dRet e env c = .rt x c1 := by
  unfold dRet
  rw [h]
  rfl
theorem dif_t (h : t env c = .ok (.bl true) c) : dIf t a b env c = a env c := by
  unfold dIf bindE
  rw [h]
  rfl
theorem dif_f (h : t env c = .ok (.bl false) c) : dIf t a b env c = b env c := by
  unfold dIf bindE
  rw [h]
  rfl
theorem cons_go {xs : List PV} (h1 : a env c = .ok x c) (h2 : b env c = .ok (.tup xs) c) : dCons a b env c = .ok (.tup (x :: xs)) c := by
  have q : bindE b (fun y => ofO (consT x y)) env c = .ok (.tup (x :: xs)) c := by
    unfold bindE
    rw [h2]
    rfl
  unfold dCons bindE
  rw [h1]
  exact q
theorem lst2_go (h1 : a env c = .ok x c) (h2 : b env c = .ok y c) : dLst (dCons a (dCons b dNil)) env c = .ok (.lst [x, y]) c := by
  unfold dLst bindE
  rw [cons_go h1 (cons_go (xs := []) h2 rfl)]
  rfl
end
/-- cup: two numbers from one -/
def cupS (D A B M Z : Int) : Sd := dRet (dLst (dCons (dIf (dBin oGe (dVarB 1) (dBin oPow (dC (.int 10)) (dC (.int 18)))) (dBin oFdiv (dVarB 1) (dC (.int D))) (dC (.int 0)))
  (dCons (dBin oAdd (dBin oMod (dBi bInt (dCons (dBin oAdd (dBin oMul (dVarB 1) (dC (.int A))) (dC (.int B))) dNil)) (dC (.int M))) (dC (.int Z))) dNil)))
theorem cup_go {D A B M Z : Int} (hA : small64 A = true) (hM : 0 < M) (hD : cDiv 0 D = true) (n : Int) : ∃ a b : Int, cupS D A B M Z [.no, .va (.int n)] [] = .rt (.lst [.int a, .int b]) [] := by
  have hM1 : decide (0 < M) = true := decide_eq_true hM
  have p : dBin oPow (dC (.int 10)) (dC (.int 18)) [.no, .va (.int n)] [] = .ok (.int (10 ^ 18)) [] := bin_go (x := PV.int 10) (y := PV.int 18) rfl rfl rfl
  have e2 : dBin oAdd (dBin oMod (dBi bInt (dCons (dBin oAdd (dBin oMul (dVarB 1) (dC (.int A))) (dC (.int B))) dNil)) (dC (.int M))) (dC (.int Z)) [.no, .va (.int n)] [] = .ok (.int ((n * A + B) % M + Z)) [] := by
    refine bin_go (bin_go (int_go (bin_go (bin_go (x := PV.int n) rfl (y := PV.int A) rfl (z := PV.int (n * A)) ?_) (y := PV.int B) rfl rfl)) (y := PV.int M) rfl (z := PV.int ((n * A + B) % M)) ?_) (y := PV.int Z) rfl rfl
    · show (bif small64 n || small64 A then some (PV.int (n * A)) else none) = _
      rw [hA, Bool.or_true]
      rfl
    · show (bif decide (0 < M) then some (PV.int ((n * A + B) % M)) else none) = _
      rw [hM1]
      rfl
  cases h : decide ((10 : Int) ^ 18 ≤ n) with
  | true =>
    refine ⟨n / D, (n * A + B) % M + Z, ret_go (lst2_go ((dif_t (bin_go (x := PV.int n) rfl p (congrArg (fun t => some (PV.bl t)) h))).trans (bin_go (x := PV.int n) (y := PV.int D) (z := PV.int (n / D)) rfl rfl ?_)) e2)⟩
    show (bif cDiv 0 D then some (PV.int (n / D)) else none) = _
    rw [hD]
    rfl
  | false => exact ⟨0, (n * A + B) % M + Z, ret_go (lst2_go ((dif_f (bin_go (x := PV.int n) rfl p (congrArg (fun t => some (PV.bl t)) h))).trans rfl) e2)⟩
theorem roll_ok {A B M C M2 D m : Int} (hA : small64 A = true) (hM : 0 < M) (hM' : M < 9223372036854775808) (hM2 : 0 < M2) (hD' : cDiv 0 D = true) (hm : 0 < m) (hm' : cDiv 0 m = true) (a b : Int) :
    ∃ r a' b' : Int, runS (rollS A B M C M2 D) 2 [.box, .int m] [.int a, .int b] = .ok (.int r) [.int a', .int b'] ∧ 0 ≤ r ∧ r < m := by
  have hm1 : decide (0 < m) = true := decide_eq_true hm
  have hM1 : decide (0 < M) = true := decide_eq_true hM
  have hM3 : decide (0 < M2) = true := decide_eq_true hM2
  have hs : small64 ((b * A + B) % M) = true := by
    have h1 := Int.emod_nonneg (b * A + B) (Int.ne_of_gt hM)
    have h2 := Int.emod_lt_of_pos (b * A + B) hM
    unfold small64
    rw [Bool.and_eq_true, decide_eq_true_eq, decide_eq_true_eq]
    omega
  have mod_ : ∀ {i j : Int}, decide (0 < j) = true → oMod (PV.int i) (PV.int j) = some (PV.int (i % j)) := fun {i j} h => by
    show (bif decide (0 < j) then some (PV.int (i % j)) else none) = _
    rw [h]
    rfl
  have div_ : ∀ {i j : Int}, cDiv 0 j = true → oFdiv (PV.int i) (PV.int j) = some (PV.int (i / j)) := fun {i j} h => by
    show (bif cDiv 0 j then some (PV.int (i / j)) else none) = _
    rw [h]
    rfl
  suffices h : ∃ r a' b' : Int, rollS A B M C M2 D [.va .box, .va (.int m), .no, .no] [.int a, .int b] = .rt (.int r) [.int a', .int b'] ∧ 0 ≤ r ∧ r < m by
    obtain ⟨r, a', b', h1, h2⟩ := h
    refine ⟨r, a', b', ?_, h2⟩
    unfold runS
    show (match rollS A B M C M2 D [.va .box, .va (.int m), .no, .no] [.int a, .int b] with
      | .nx _ c => R.ok .non c
      | .rt v c => .ok v c
      | .ex k c => .exc k c
      | _ => .stuck) = _
    rw [h1]
  unfold rollS
  cases h : decide (0 < a) with
  | true =>
    refine ⟨a % m, a / m, b, ?_, Int.emod_nonneg _ (Int.ne_of_gt hm), Int.emod_lt_of_pos _ hm⟩
    refine seq_rt ((ifs_t (bin_go (x := PV.int a) rfl rfl (congrArg (fun t => some (PV.bl t)) h))).trans ?_)
    refine (seq_nx (asg_go (bin_go (int_go (n := a) rfl) (y := PV.int m) rfl (mod_ hm1)))).trans ?_
    have e3 : dBin oFdiv (dIx (dVarB 0) (dC (.int 0))) (dVarB 1) [.va .box, .va (.int m), .va (.int (a % m)), .no] [.int a, .int b] = .ok (.int (a / m)) [.int a, .int b] := bin_go (x := PV.int a) rfl (y := PV.int m) rfl (div_ hm')
    refine (seq_nx (env1 := [.va .box, .va (.int m), .va (.int (a % m)), .no]) (c1 := [.int (a / m), .int b]) ?_).trans (ret_go rfl)
    show toS (dBin oFdiv (dIx (dVarB 0) (dC (.int 0))) (dVarB 1) [.va .box, .va (.int m), .va (.int (a % m)), .no] [.int a, .int b]) _ = _
    rw [e3]
    rfl
  | false =>
    refine ⟨(((b * A + B) % M * ((b * A + B) % M + C)) % M2 / D) % m, a, (b * A + B) % M, ?_, Int.emod_nonneg _ (Int.ne_of_gt hm), Int.emod_lt_of_pos _ hm⟩
    refine (seq_nx (env1 := [.va .box, .va (.int m), .no, .no]) (c1 := [.int a, .int b]) ((ifs_f (bin_go (x := PV.int a) rfl rfl (congrArg (fun t => some (PV.bl t)) h))).trans rfl)).trans ?_
    have e2 : dBin oMod (dBi bInt (dCons (dBin oAdd (dBin oMul (dIx (dVarB 0) (dC (.int 1))) (dC (.int A))) (dC (.int B))) dNil)) (dC (.int M)) [.va .box, .va (.int m), .no, .no] [.int a, .int b] = .ok (.int ((b * A + B) % M)) [.int a, .int b] := by
      refine bin_go (int_go (bin_go (bin_go (x := PV.int b) rfl (y := PV.int A) rfl (z := PV.int (b * A)) ?_) (y := PV.int B) rfl rfl)) rfl (mod_ hM1)
      show (bif small64 b || small64 A then some (PV.int (b * A)) else none) = _
      rw [hA, Bool.or_true]
      rfl
    refine (seq_nx (env1 := [.va .box, .va (.int m), .no, .no]) (c1 := [.int a, .int ((b * A + B) % M)]) ?_).trans ?_
    · show toS (dBin oMod (dBi bInt (dCons (dBin oAdd (dBin oMul (dIx (dVarB 0) (dC (.int 1))) (dC (.int A))) (dC (.int B))) dNil)) (dC (.int M)) [.va .box, .va (.int m), .no, .no] [.int a, .int b]) _ = _
      rw [e2]
      rfl
    · generalize (b * A + B) % M = v at hs
      refine (seq_nx (asg_go (bin_go (int_go (bin_go (x := PV.int v) rfl (bin_go (x := PV.int v) rfl (y := PV.int C) rfl (z := PV.int (v + C)) rfl) (z := PV.int (v * (v + C))) ?_)) rfl (mod_ hM3)))).trans ?_
      · show (bif small64 v || small64 (v + C) then some (PV.int (v * (v + C))) else none) = _
        rw [hs]
        rfl
      · exact ret_go (bin_go (int_go (bin_go (x := PV.int (v * (v + C) % M2)) rfl (y := PV.int D) rfl (div_ hD'))) (y := PV.int m) rfl (mod_ hm1))
end RX
set_option maxHeartbeats 4000000
namespace RX
open PySem L2
/-! ### evaluation by rewriting -/
section
variable {env e2 : En} {c c1 : Cup} {x y z v : PV} {k : Str} {o : Option PV}
def bO (r : R) (f : PV → Cup → R) : R := match r with
  | .ok x c => f x c
  | .exc k c => .exc k c
  | .stuck => .stuck
theorem bO_ok {f : PV → Cup → R} : bO (.ok x c) f = f x c := rfl
theorem bO_exc {f : PV → Cup → R} : bO (.exc k c) f = .exc k c := rfl
theorem bO_congr {r r' : R} {f : PV → Cup → R} (h : r = r') : bO r f = bO r' f := by rw [h]
def sO (r : Oc) (f : En → Cup → Oc) : Oc := match r with
  | .nx e c => f e c
  | .bk e c => .bk e c
  | .ct e c => .ct e c
  | .rt v c => .rt v c
  | .ex k c => .ex k c
  | .st => .st
theorem sO_nx {f : En → Cup → Oc} : sO (.nx env c) f = f env c := rfl
theorem sO_rt {f : En → Cup → Oc} : sO (.rt v c) f = .rt v c := rfl
theorem sO_ex {f : En → Cup → Oc} : sO (.ex k c) f = .ex k c := rfl
theorem sO_congr {r r' : Oc} {f : En → Cup → Oc} (h : r = r') : sO r f = sO r' f := by rw [h]
def oR (o : Option PV) (c : Cup) : R := match o with
  | some z => .ok z c
  | none => .stuck
theorem oR_some : oR (some z) c = .ok z c := rfl
theorem toS_ok {f : PV → Cup → Oc} : toS (.ok x c) f = f x c := rfl
theorem toS_exc {f : PV → Cup → Oc} : toS (.exc k c) f = .ex k c := rfl
theorem toS_congr {r r' : R} {f : PV → Cup → Oc} (h : r = r') : toS r f = toS r' f := by rw [h]
def fin (r : Oc) : R := match r with
  | .nx _ c => .ok .non c
  | .rt v c => .ok v c
  | .ex k c => .exc k c
  | _ => .stuck
theorem fin_nx : fin (.nx env c) = .ok .non c := rfl
theorem fin_rt : fin (.rt v c) = .ok v c := rfl
theorem fin_ex : fin (.ex k c) = .exc k c := rfl
theorem run_ap {b : Sd} {m : Nat} {xs : List PV} : runS b m xs c = fin (b (xs.map .va ++ List.replicate m .no) c) := by
  unfold runS fin
  rfl
variable {a b t el wi : E} {s u : Sd} {f g : PV → PV → Option PV} {i : Nat}
theorem dSeq_ap : dSeq s u env c = sO (s env c) u := rfl
theorem dNext_ap : dNext env c = .nx env c := rfl
theorem dIfS_ap : dIfS t s u env c = toS (t env c) (kIfS s u env) := rfl
theorem kIfS_t : kIfS s u env (.bl true) c = s env c := rfl
theorem kIfS_f : kIfS s u env (.bl false) c = u env c := rfl
theorem dAsg_ap : dAsg (gS i) a env c = toS (a env c) fun x c => .nx (env.set i (.va x)) c := rfl
theorem dRet_ap : dRet a env c = toS (a (frzA env) c) fun x c => .rt x c := rfl
theorem dDrop_ap : dDrop a env c = toS (a env c) fun _ c => .nx env c := rfl
theorem dRaise_ap : dRaise k env c = .ex k c := rfl
theorem dBin_ap : dBin f a b env c = bO (a env c) fun x c => bO (b env c) fun y c => oR (f x y) c := rfl
def kCh (g : PV → PV → Option PV) (y : PV) (d : E) (z : PV) : E := match z with
  | .bl true => bindE d fun w => ofO (g y w)
  | .bl false => dC (.bl false)
  | _ => stk
theorem dChain_ap {d : E} : dChain f g a b d env c = bO (a env c) fun x c => bO (b env c) fun y c => bO (oR (f x y) c) fun z c => kCh g y d z env c := rfl
theorem kCh_t {d : E} : kCh g y d (.bl true) env c = bO (d env c) fun w c => oR (g y w) c := rfl
theorem kCh_f {d : E} : kCh g y d (.bl false) env c = .ok (.bl false) c := rfl
theorem dUn_ap {f : PV → Option PV} : dUn f a env c = bO (a env c) fun x c => oR (f x) c := rfl
theorem dVar_ap : dVar i env c = slV (getS env i) c := rfl
theorem dVarB_ap : dVarB i env c = slB (getS env i) c := rfl
theorem slV_va : slV (.va x) c = .ok x c := rfl
theorem slB_va : slB (.va x) c = .ok x c := rfl
theorem dC_ap : dC x env c = .ok x c := rfl
theorem dNrm_ap : dNrm a env c = bO (a env c) fun x c => .ok (nrm x) c := rfl
theorem dNil_ap : dNil env c = .ok (.tup []) c := rfl
theorem dCons_ap : dCons a b env c = bO (a env c) fun x c => bO (b env c) fun y c => oR (consT x y) c := rfl
theorem consT_ap {xs : List PV} : consT x (.tup xs) = some (.tup (x :: xs)) := rfl
theorem dTup_ap : dTup a env c = bO (a env c) fun x c => oR (mkT x) c := rfl
theorem dLst_ap : dLst a env c = bO (a env c) fun x c => oR (mkL x) c := rfl
theorem mkT_ap {xs : List PV} (h : lenOk xs = true) : mkT (.tup xs) = some (.tup xs) := by
  show (bif lenOk xs then some (PV.tup xs) else none) = _
  rw [h]
  rfl
theorem mkL_ap {xs : List PV} (h : lenOk xs = true) : mkL (.tup xs) = some (.lst xs) := by
  show (bif lenOk xs then some (PV.lst xs) else none) = _
  rw [h]
  rfl
theorem mkT_0 : mkT (.tup []) = some (.tup []) := rfl
theorem mkL_0 : mkL (.tup []) = some (.lst []) := rfl
theorem mkT_1 {a0 : PV} : mkT (.tup [a0]) = some (.tup [a0]) := rfl
theorem mkL_1 {a0 : PV} : mkL (.tup [a0]) = some (.lst [a0]) := rfl
theorem mkT_2 {a0 a1 : PV} : mkT (.tup [a0, a1]) = some (.tup [a0, a1]) := rfl
theorem mkL_2 {a0 a1 : PV} : mkL (.tup [a0, a1]) = some (.lst [a0, a1]) := rfl
theorem mkT_3 {a0 a1 a2 : PV} : mkT (.tup [a0, a1, a2]) = some (.tup [a0, a1, a2]) := rfl
theorem mkL_3 {a0 a1 a2 : PV} : mkL (.tup [a0, a1, a2]) = some (.lst [a0, a1, a2]) := rfl
theorem mkT_4 {a0 a1 a2 a3 : PV} : mkT (.tup [a0, a1, a2, a3]) = some (.tup [a0, a1, a2, a3]) := rfl
theorem mkL_4 {a0 a1 a2 a3 : PV} : mkL (.tup [a0, a1, a2, a3]) = some (.lst [a0, a1, a2, a3]) := rfl
theorem mkT_5 {a0 a1 a2 a3 a4 : PV} : mkT (.tup [a0, a1, a2, a3, a4]) = some (.tup [a0, a1, a2, a3, a4]) := rfl
theorem mkL_5 {a0 a1 a2 a3 a4 : PV} : mkL (.tup [a0, a1, a2, a3, a4]) = some (.lst [a0, a1, a2, a3, a4]) := rfl
theorem mkT_6 {a0 a1 a2 a3 a4 a5 : PV} : mkT (.tup [a0, a1, a2, a3, a4, a5]) = some (.tup [a0, a1, a2, a3, a4, a5]) := rfl
theorem mkL_6 {a0 a1 a2 a3 a4 a5 : PV} : mkL (.tup [a0, a1, a2, a3, a4, a5]) = some (.lst [a0, a1, a2, a3, a4, a5]) := rfl
theorem mkT_7 {a0 a1 a2 a3 a4 a5 a6 : PV} : mkT (.tup [a0, a1, a2, a3, a4, a5, a6]) = some (.tup [a0, a1, a2, a3, a4, a5, a6]) := rfl
theorem mkL_7 {a0 a1 a2 a3 a4 a5 a6 : PV} : mkL (.tup [a0, a1, a2, a3, a4, a5, a6]) = some (.lst [a0, a1, a2, a3, a4, a5, a6]) := rfl
theorem mkT_8 {a0 a1 a2 a3 a4 a5 a6 a7 : PV} : mkT (.tup [a0, a1, a2, a3, a4, a5, a6, a7]) = some (.tup [a0, a1, a2, a3, a4, a5, a6, a7]) := rfl
theorem mkL_8 {a0 a1 a2 a3 a4 a5 a6 a7 : PV} : mkL (.tup [a0, a1, a2, a3, a4, a5, a6, a7]) = some (.lst [a0, a1, a2, a3, a4, a5, a6, a7]) := rfl
theorem mkT_9 {a0 a1 a2 a3 a4 a5 a6 a7 a8 : PV} : mkT (.tup [a0, a1, a2, a3, a4, a5, a6, a7, a8]) = some (.tup [a0, a1, a2, a3, a4, a5, a6, a7, a8]) := rfl
theorem mkL_9 {a0 a1 a2 a3 a4 a5 a6 a7 a8 : PV} : mkL (.tup [a0, a1, a2, a3, a4, a5, a6, a7, a8]) = some (.lst [a0, a1, a2, a3, a4, a5, a6, a7, a8]) := rfl
theorem mkT_10 {a0 a1 a2 a3 a4 a5 a6 a7 a8 a9 : PV} : mkT (.tup [a0, a1, a2, a3, a4, a5, a6, a7, a8, a9]) = some (.tup [a0, a1, a2, a3, a4, a5, a6, a7, a8, a9]) := rfl
theorem mkL_10 {a0 a1 a2 a3 a4 a5 a6 a7 a8 a9 : PV} : mkL (.tup [a0, a1, a2, a3, a4, a5, a6, a7, a8, a9]) = some (.lst [a0, a1, a2, a3, a4, a5, a6, a7, a8, a9]) := rfl
theorem mkT_11 {a0 a1 a2 a3 a4 a5 a6 a7 a8 a9 a10 : PV} : mkT (.tup [a0, a1, a2, a3, a4, a5, a6, a7, a8, a9, a10]) = some (.tup [a0, a1, a2, a3, a4, a5, a6, a7, a8, a9, a10]) := rfl
theorem mkL_11 {a0 a1 a2 a3 a4 a5 a6 a7 a8 a9 a10 : PV} : mkL (.tup [a0, a1, a2, a3, a4, a5, a6, a7, a8, a9, a10]) = some (.lst [a0, a1, a2, a3, a4, a5, a6, a7, a8, a9, a10]) := rfl
theorem mkT_12 {a0 a1 a2 a3 a4 a5 a6 a7 a8 a9 a10 a11 : PV} : mkT (.tup [a0, a1, a2, a3, a4, a5, a6, a7, a8, a9, a10, a11]) = some (.tup [a0, a1, a2, a3, a4, a5, a6, a7, a8, a9, a10, a11]) := rfl
theorem mkL_12 {a0 a1 a2 a3 a4 a5 a6 a7 a8 a9 a10 a11 : PV} : mkL (.tup [a0, a1, a2, a3, a4, a5, a6, a7, a8, a9, a10, a11]) = some (.lst [a0, a1, a2, a3, a4, a5, a6, a7, a8, a9, a10, a11]) := rfl
theorem dBi_ap {f : List PV → Option PV} : dBi f a env c = bO (a env c) fun x c => oR (tupO f x) c := rfl
theorem tupO_ap {f : List PV → Option PV} {xs : List PV} : tupO f (.tup xs) = f xs := rfl
theorem dCall_ap {f : Fn} {n : Nat} : dCall f n a env c = bO (a env c) fun x c => fnE f n x env c := rfl
theorem fnE_ap {f : Fn} {n : Nat} {xs : List PV} (h : Nat.beq xs.length n = true) : fnE f n (.tup xs) env c = f xs c := by
  show (bif Nat.beq xs.length n then f xs c else .stuck) = _
  rw [h]
  rfl
theorem fnE_0 {f : Fn} : fnE f 0 (.tup []) env c = f [] c := rfl
theorem fnE_1 {f : Fn} {a0 : PV} : fnE f 1 (.tup [a0]) env c = f [a0] c := rfl
theorem fnE_2 {f : Fn} {a0 a1 : PV} : fnE f 2 (.tup [a0, a1]) env c = f [a0, a1] c := rfl
theorem fnE_3 {f : Fn} {a0 a1 a2 : PV} : fnE f 3 (.tup [a0, a1, a2]) env c = f [a0, a1, a2] c := rfl
theorem fnE_4 {f : Fn} {a0 a1 a2 a3 : PV} : fnE f 4 (.tup [a0, a1, a2, a3]) env c = f [a0, a1, a2, a3] c := rfl
theorem fnE_5 {f : Fn} {a0 a1 a2 a3 a4 : PV} : fnE f 5 (.tup [a0, a1, a2, a3, a4]) env c = f [a0, a1, a2, a3, a4] c := rfl
theorem dIx_ap : dIx a b env c = bO (a env c) fun x c => bO (b env c) fun y c => kIx x y env c := rfl
theorem kIx_tup {xs : List PV} {i : Int} : kIx (.tup xs) (.int i) env c = oR (ixF xs i) c := rfl
theorem kIx_lst {xs : List PV} {i : Int} : kIx (.lst xs) (.int i) env c = oR (ixF xs i) c := rfl
theorem dIf_ap {d : E} : dIf t a d env c = bO (t env c) fun x c => kIf a d x env c := rfl
theorem kIf_t : kIf a b (.bl true) env c = a env c := rfl
theorem kIf_f : kIf a b (.bl false) env c = b env c := rfl
theorem dNotT_ap : dNotT a env c = bO (a env c) fun x c => kNot x env c := rfl
theorem kNot_ap {q : Bool} : kNot (.bl q) env c = .ok (.bl (!q)) c := rfl
theorem dNotV_ap : dNotV a env c = bO (a env c) fun x c => kNotV x env c := rfl
theorem kNotV_ap {q : Bool} : kNotV (.bl q) env c = .ok (.bl (!q)) c := rfl
theorem dTru_ap : dTru a env c = bO (a env c) fun x c => kTru x env c := rfl
theorem kTru_bl {q : Bool} : kTru (.bl q) env c = .ok (.bl q) c := rfl
theorem dAndT_ap : dAndT a b env c = bO (a env c) fun x c => kAnd b x env c := rfl
theorem kAnd_t : kAnd b (.bl true) env c = b env c := rfl
theorem kAnd_f : kAnd b (.bl false) env c = .ok (.bl false) c := rfl
theorem dOrT_ap : dOrT a b env c = bO (a env c) fun x c => kOr b x env c := rfl
theorem kOr_t : kOr b (.bl true) env c = .ok (.bl true) c := rfl
theorem kOr_f : kOr b (.bl false) env c = b env c := rfl
theorem dAndV_ap : dAndV a b env c = bO (a env c) fun x c => kAndV b x env c := rfl
theorem kAndV_t : kAndV b (.bl true) env c = b env c := rfl
theorem kAndV_f : kAndV b (.bl false) env c = .ok (.bl false) c := rfl
theorem dOrV_ap : dOrV a b env c = bO (a env c) fun x c => kOrV b x env c := rfl
theorem kOrV_t : kOrV b (.bl true) env c = .ok (.bl true) c := rfl
theorem kOrV_f : kOrV b (.bl false) env c = b env c := rfl
theorem dItems_ap : dItems a env c = bO (a env c) fun x c => kItems x env c := rfl
theorem kItems_tup {xs : List PV} (h : lenOk xs = true) : kItems (.tup xs) env c = .ok (.lst xs) c := by
  show okLst xs env c = _
  unfold okLst
  rw [h]
  rfl
theorem kItems_lst {xs : List PV} (h : lenOk xs = true) : kItems (.lst xs) env c = .ok (.lst xs) c := by
  show okLst xs env c = _
  unfold okLst
  rw [h]
  rfl
theorem dZip_ap : dZip a env c = bO (a env c) fun x c => kZip x env c := rfl
theorem kZip_tt {xs ys : List PV} (h : lenOk (zipL xs ys) = true) : kZip (.tup [.tup xs, .tup ys]) env c = .ok (.lst (zipL xs ys)) c := by
  show okLst (zipL xs ys) env c = _
  unfold okLst
  rw [h]
  rfl
theorem dComp_ap {vs : List Nat} {t : Tg} {d : E} : dComp vs wi t d el env c = bO (wi env c) fun x c => walkC vs (turn1 t d el) x env c := rfl
theorem dFor_ap {t : Tg} : dFor wi t s env c = toS (wi env c) fun x c => (match x with
    | .lst xs => loopS t s xs env c
    | _ => .st) := rfl
theorem bLen_tup {xs : List PV} : bLen [.tup xs] = some (.int (xs.length : Nat)) := rfl
theorem bLen_lst {xs : List PV} : bLen [.lst xs] = some (.int (xs.length : Nat)) := rfl
theorem lenOk_of {xs : List PV} (h : xs.length ≤ 1000) : lenOk xs = true := by
  have q : ∀ {ys : List PV}, ys.length ≤ 1000000 → lenOk ys = true := fun {ys} h => by
    unfold lenOk
    exact Nat.ble_eq_true_of_le h
  exact q (by omega)
/-- a comprehension whose turns leave the cup -/
theorem loopA_go {fn : Turn} {gg : PV → Option PV} : ∀ {xs : List PV} {acc : List PV}, (∀ x ∈ xs, ∀ acc, fn x acc c = some (match gg x with | some y => y :: acc | none => acc, c)) → loopA fn xs acc c = some ((xs.filterMap gg).reverse ++ acc, c)
  | [], acc, _ => rfl
  | x :: r, acc, h => by
    unfold loopA
    rw [h x (.head _)]
    show loopA fn r _ c = _
    rw [loopA_go fun y m => h y (.tail _ m)]
    cases e : gg x with
    | none => rw [List.filterMap_cons_none e]
    | some y => rw [List.filterMap_cons_some e]; simp
theorem walk_go {vs : List Nat} {fn : En → Turn} {gg : PV → Option PV} {xs : List PV} (hc : clean env vs = true) (hl : xs.length ≤ 1000) (h : ∀ x ∈ xs, ∀ acc, fn (wipeE env vs) x acc c = some (match gg x with | some y => y :: acc | none => acc, c)) :
    walkC vs fn (.lst xs) env c = .ok (.lst (xs.filterMap gg)) c := by
  show (bif clean env vs then endC (loopA (fn (wipeE env vs)) xs [] c) else .stuck) = _
  rw [hc, loopA_go h, List.append_nil]
  show (bif lenOk (xs.filterMap gg).reverse then R.ok (.lst (xs.filterMap gg).reverse.reverse) c else .stuck) = _
  rw [lenOk_of (by rw [List.length_reverse]; exact Nat.le_trans (List.length_filterMap_le _ _) hl), List.reverse_reverse]
  rfl

theorem walk_map {α : Type} {vs : List Nat} {fn : En → Turn} {φ ff : α → PV} {ls : List α} (hc : clean env vs = true) (hl : ls.length ≤ 1000) (h : ∀ l acc, fn (wipeE env vs) (φ l) acc c = some (ff l :: acc, c)) : walkC vs fn (.lst (ls.map φ)) env c = .ok (.lst (ls.map ff)) c := by
  have q : ∀ (l : List α) (acc : List PV), loopA (fn (wipeE env vs)) (l.map φ) acc c = some ((l.map ff).reverse ++ acc, c) := by
    intro l
    induction l with
    | nil => intro acc; rfl
    | cons x r ih =>
      intro acc
      show (match fn (wipeE env vs) (φ x) acc c with
        | some (acc', c') => loopA (fn (wipeE env vs)) (r.map φ) acc' c'
        | none => none) = _
      rw [h]
      show loopA (fn (wipeE env vs)) (r.map φ) (ff x :: acc) c = _
      rw [ih]
      simp
  show (bif clean env vs then endC (loopA (fn (wipeE env vs)) (ls.map φ) [] c) else .stuck) = _
  rw [hc, q, List.append_nil]
  show (bif lenOk (ls.map ff).reverse then R.ok (.lst (ls.map ff).reverse.reverse) c else .stuck) = _
  rw [lenOk_of (by rw [List.length_reverse, List.length_map]; exact hl), List.reverse_reverse]
  rfl
theorem walk_mapM {α : Type} {vs : List Nat} {fn : En → Turn} {φ ff : α → PV} {ls : List α} (hc : clean env vs = true) (hl : ls.length ≤ 1000) (h : ∀ l ∈ ls, ∀ acc, fn (wipeE env vs) (φ l) acc c = some (ff l :: acc, c)) : walkC vs fn (.lst (ls.map φ)) env c = .ok (.lst (ls.map ff)) c := by
  have q : ∀ (l : List α) (acc : List PV), (∀ x ∈ l, ∀ acc, fn (wipeE env vs) (φ x) acc c = some (ff x :: acc, c)) → loopA (fn (wipeE env vs)) (l.map φ) acc c = some ((l.map ff).reverse ++ acc, c) := by
    intro l
    induction l with
    | nil => intro acc _; rfl
    | cons x r ih =>
      intro acc h
      show (match fn (wipeE env vs) (φ x) acc c with
        | some (acc', c') => loopA (fn (wipeE env vs)) (r.map φ) acc' c'
        | none => none) = _
      rw [h x (.head _)]
      show loopA (fn (wipeE env vs)) (r.map φ) (ff x :: acc) c = _
      rw [ih _ fun y m => h y (.tail _ m)]
      simp
  show (bif clean env vs then endC (loopA (fn (wipeE env vs)) (ls.map φ) [] c) else .stuck) = _
  rw [hc, q _ _ h, List.append_nil]
  show (bif lenOk (ls.map ff).reverse then R.ok (.lst (ls.map ff).reverse.reverse) c else .stuck) = _
  rw [lenOk_of (by rw [List.length_reverse, List.length_map]; exact hl), List.reverse_reverse]
  rfl
theorem dCut_ap {p q r : E} : dCut p q r env c = bO (p env c) fun a c => bO (q env c) fun b c => bO (r env c) fun d c => oR (oCut a b d) c := rfl
theorem dPart_ap {p : E} : dPart p env c = bO (p env c) fun x c => kPart x env c := rfl
theorem kPart_i {n : Int} : kPart (.int n) env c = .ok (.int n) c := rfl
theorem cut_tail {xs : List PV} : oCut (.tup xs) (.int 1) .non = some (.tup (xs.drop 1)) := by
  show some (PV.tup (cutL xs (some 1) none)) = _
  congr 2
  cases xs with
  | nil => rfl
  | cons x r =>
    have e : HT.sIx (x :: r).length 0 (some 1) = 1 := by
      unfold HT.sIx
      simp
    unfold cutL
    rw [e]
    show ((x :: r).drop 1).take ((x :: r).length - 1) = (x :: r).drop 1
    simp
def kP2 (i j : Nat) (env : En) (x : PV) (c : Cup) : Oc := match x with
  | .tup xs => (match setP [(i, false), (j, false)] xs env with
    | some env' => .nx env' c
    | none => .st)
  | _ => .st
def kP3 (i j m : Nat) (env : En) (x : PV) (c : Cup) : Oc := match x with
  | .tup xs => (match setP [(i, false), (j, false), (m, false)] xs env with
    | some env' => .nx env' c
    | none => .st)
  | _ => .st
theorem dPar2_ap {i j : Nat} {p : E} : dPar [(i, false), (j, false)] p env c = toS (p env c) fun x c => kP2 i j env x c := rfl
theorem dPar3_ap {i j m : Nat} {p : E} : dPar [(i, false), (j, false), (m, false)] p env c = toS (p env c) fun x c => kP3 i j m env x c := rfl
theorem kP2_ap {i j : Nat} : kP2 i j env (.tup [x, y]) c = .nx ((env.set i (.va x)).set j (.va y)) c := rfl
theorem kP3_ap {i j m : Nat} : kP3 i j m env (.tup [x, y, z]) c = .nx (((env.set i (.va x)).set j (.va y)).set m (.va z)) c := rfl
theorem kZip_ll {xs ys : List PV} (h : lenOk (zipL xs ys) = true) : kZip (.tup [.lst xs, .lst ys]) env c = .ok (.lst (zipL xs ys)) c := by
  show okLst (zipL xs ys) env c = _
  unfold okLst
  rw [h]
  rfl
theorem zip_self : ∀ {xs : List PV}, zipL xs xs = xs.map fun x => .tup [x, x]
  | [] => rfl
  | x :: r => by
    show PV.tup [x, x] :: zipL r r = _
    rw [zip_self]
    rfl
theorem walk_none {α : Type} {vs : List Nat} {fn : En → Turn} {φ : α → PV} {ls : List α} (hc : clean env vs = true) (h : ∀ l ∈ ls, ∀ acc, fn (wipeE env vs) (φ l) acc c = some (acc, c)) : walkC vs fn (.lst (ls.map φ)) env c = .ok (.lst []) c := by
  have q : ∀ (l : List α) (acc : List PV), (∀ x ∈ l, ∀ acc, fn (wipeE env vs) (φ x) acc c = some (acc, c)) → loopA (fn (wipeE env vs)) (l.map φ) acc c = some (acc, c) := by
    intro l
    induction l with
    | nil => intro acc _; rfl
    | cons x r ih =>
      intro acc h
      show (match fn (wipeE env vs) (φ x) acc c with
        | some (acc', c') => loopA (fn (wipeE env vs)) (r.map φ) acc' c'
        | none => none) = _
      rw [h x (.head _)]
      exact ih _ fun y m => h y (.tail _ m)
  show (bif clean env vs then endC (loopA (fn (wipeE env vs)) (ls.map φ) [] c) else .stuck) = _
  rw [hc, q _ _ h]
  rfl
theorem turn_no {tg : Tg} {d : E} {ew env2 : En} {acc : List PV} {x : PV} (h1 : tg x ew = some env2) (h2 : d env2 c = .ok (.bl false) c) : turn1 tg d el ew x acc c = some (acc, c) := by
  unfold turn1 tgR
  rw [h1]
  show ifR (d env2 c) (fun c2 => pushR (el env2 c2) acc) acc = _
  rw [h2]
  rfl
theorem dRng1_ap {p : E} : dRng1 p env c = bO (p env c) fun x c => kRng1 x env c := rfl
theorem upto_l : ∀ (n : Nat) (a : Int), (upto a n).length = n
  | 0, _ => rfl
  | n + 1, a => by
    show (upto (a + 1) n).length + 1 = n + 1
    rw [upto_l n]
theorem kRng1_nat {n : Nat} (h : n ≤ 1000) : kRng1 (.tup [.int (n : Int)]) env c = .ok (.lst (upto 0 n)) c := by
  have e : small62 (n : Int) = true := by
    unfold small62
    rw [Bool.and_eq_true, decide_eq_true_eq, decide_eq_true_eq]
    omega
  show (bif small62 (n : Int) then okLst (upto 0 (n : Int).toNat) else stk) env c = _
  rw [e]
  show okLst (upto 0 (n : Int).toNat) env c = _
  unfold okLst
  rw [Int.toNat_natCast, lenOk_of (by rw [upto_l]; exact h)]
  rfl
/-- a turn that changes the cup -/
theorem turn_cup {tg : Tg} {ew env2 : En} {acc : List PV} {x y : PV} {c2 : Cup} (h1 : tg x ew = some env2) (h3 : el env2 c = .ok y c2) : turn1 tg (dC (.bl true)) el ew x acc c = some (y :: acc, c2) := by
  unfold turn1 tgR
  rw [h1]
  show pushR (el env2 c) acc = _
  rw [h3]
  rfl
theorem walk_cup {α : Type} {vs : List Nat} {fn : En → Turn} {φ : α → PV} {xs : List PV} {P : Cup → Prop} (hc : clean env vs = true) (hl : xs.length ≤ 1000) (hp : P c) (h : ∀ x c acc, P c → ∃ a c2, fn (wipeE env vs) x acc c = some (φ a :: acc, c2) ∧ P c2) :
    ∃ (ls : List α) (c2 : Cup), walkC vs fn (.lst xs) env c = .ok (.lst (ls.map φ)) c2 ∧ ls.length = xs.length ∧ P c2 := by
  have q : ∀ (l : List PV) (acc : List PV) (c : Cup), P c → ∃ (ls : List α) (c2 : Cup), loopA (fn (wipeE env vs)) l acc c = some ((ls.map φ).reverse ++ acc, c2) ∧ ls.length = l.length ∧ P c2 := by
    intro l
    induction l with
    | nil => intro acc c hp; exact ⟨[], c, rfl, rfl, hp⟩
    | cons x r ih =>
      intro acc c hp
      obtain ⟨a, c2, e, p2⟩ := h x c acc hp
      obtain ⟨ls, c3, e3, l3, p3⟩ := ih (φ a :: acc) c2 p2
      refine ⟨a :: ls, c3, ?_, by rw [List.length_cons, List.length_cons, l3], p3⟩
      show (match fn (wipeE env vs) x acc c with
        | some (acc', c') => loopA (fn (wipeE env vs)) r acc' c'
        | none => none) = _
      rw [e]
      show loopA (fn (wipeE env vs)) r (φ a :: acc) c2 = _
      rw [e3]
      simp
  obtain ⟨ls, c2, e, l2, p2⟩ := q xs [] c hp
  refine ⟨ls, c2, ?_, l2, p2⟩
  show (bif clean env vs then endC (loopA (fn (wipeE env vs)) xs [] c) else .stuck) = _
  rw [hc, e, List.append_nil]
  show (bif lenOk (ls.map φ).reverse then R.ok (.lst (ls.map φ).reverse.reverse) c2 else .stuck) = _
  rw [lenOk_of (by rw [List.length_reverse, List.length_map]; omega), List.reverse_reverse]
  rfl
theorem add_ll {xs ys : List PV} (h : xs.length + ys.length ≤ 1000) : oAdd (.lst xs) (.lst ys) = some (.lst (xs ++ ys)) := by
  show okLen (xs.length + ys.length) (.lst (xs ++ ys)) = _
  unfold okLen
  rw [Nat.ble_eq_true_of_le (by omega)]
  rfl
def kM1 (chk : PV → Bool) (f : PV → PV → Option PV) (b : E) (x : PV) : E := bif chk x then bindE b fun y => ofO (f x y) else stk
theorem dM1_ap {chk : PV → Bool} {p q : E} : dM1 chk f p q env c = bO (p env c) fun x c => kM1 chk f q x env c := rfl
theorem kM1_xt {q : E} {xs : List PV} : kM1 isXtP f q (.xt xs) env c = bO (q env c) fun y c => oR (f (.xt xs) y) c := rfl
def kT2 (i j : Nat) (env : En) (x : PV) (c : Cup) : Oc := match gT 2 (gsCons (gS i) (gsCons (gS j) gsNil)) x env with
  | some env' => .nx env' c
  | none => .st
theorem dAsgT2_ap {i j : Nat} {p : E} : dAsg (gT 2 (gsCons (gS i) (gsCons (gS j) gsNil))) p env c = toS (p env c) fun x c => kT2 i j env x c := rfl
theorem kT2_ap {i j : Nat} : kT2 i j env (.tup [x, y]) c = .nx ((env.set i (.va x)).set j (.va y)) c := rfl
/-- a turn's target, test and value -/
theorem turn_go {tg : Tg} {d : E} {ew env2 : En} {acc : List PV} {x y : PV} (h1 : tg x ew = some env2) (h2 : d env2 c = .ok (.bl true) c) (h3 : el env2 c = .ok y c) : turn1 tg d el ew x acc c = some (y :: acc, c) := by
  unfold turn1 tgR
  rw [h1]
  show ifR (d env2 c) (fun c2 => pushR (el env2 c2) acc) acc = _
  rw [h2]
  show pushR (el env2 c) acc = _
  rw [h3]
  rfl
theorem walk_fil {α : Type} {vs : List Nat} {fn : En → Turn} {φ ff : α → PV} {p : α → Bool} {ls : List α} (hc : clean env vs = true) (hl : ls.length ≤ 1000) (h : ∀ l acc, fn (wipeE env vs) (φ l) acc c = some (bif p l then ff l :: acc else acc, c)) :
    walkC vs fn (.lst (ls.map φ)) env c = .ok (.lst ((ls.filter p).map ff)) c := by
  have q : ∀ (l : List α) (acc : List PV), loopA (fn (wipeE env vs)) (l.map φ) acc c = some (((l.filter p).map ff).reverse ++ acc, c) := by
    intro l
    induction l with
    | nil => intro acc; rfl
    | cons x r ih =>
      intro acc
      show (match fn (wipeE env vs) (φ x) acc c with
        | some (acc', c') => loopA (fn (wipeE env vs)) (r.map φ) acc' c'
        | none => none) = _
      rw [h]
      show loopA (fn (wipeE env vs)) (r.map φ) (bif p x then ff x :: acc else acc) c = _
      rw [ih]
      cases e : p x with
      | true => simp [e]
      | false => simp [e]
  show (bif clean env vs then endC (loopA (fn (wipeE env vs)) (ls.map φ) [] c) else .stuck) = _
  rw [hc, q, List.append_nil]
  show (bif lenOk ((ls.filter p).map ff).reverse then R.ok (.lst ((ls.filter p).map ff).reverse.reverse) c else .stuck) = _
  rw [lenOk_of (by rw [List.length_reverse, List.length_map]; exact Nat.le_trans (List.length_filter_le _ _) hl), List.reverse_reverse]
  rfl
theorem zip_map {α : Type} {φ : α → PV} : ∀ {l1 l2 : List α}, zipL (l1.map φ) (l2.map φ) = (l1.zip l2).map fun p => .tup [φ p.1, φ p.2]
  | [], _ => rfl
  | _ :: _, [] => rfl
  | x :: r, y :: t => by
    show PV.tup [φ x, φ y] :: zipL (r.map φ) (t.map φ) = _
    rw [zip_map (l1 := r) (l2 := t)]
    rfl
theorem zip_walk {α : Type} {φ : α → PV} {l1 l2 : List α} (h : l1.length ≤ 1000) : kZip (.tup [.tup (l1.map φ), .tup (l2.map φ)]) env c = .ok (.lst ((l1.zip l2).map fun p => .tup [φ p.1, φ p.2])) c := by
  rw [kZip_tt (lenOk_of (by rw [zipL_len, List.length_map]; omega)), zip_map]
theorem all_true {α : Type} {l : List α} : bAll [.lst (l.map fun _ => PV.bl true)] = some (.bl true) := by
  show (RX.allB (l.map fun _ => PV.bl true)).map PV.bl = _
  have q : RX.allB (l.map fun _ => PV.bl true) = some true := by
    induction l with
    | nil => rfl
    | cons x r ih =>
      show RX.allB (PV.bl true :: r.map fun _ => PV.bl true) = _
      unfold RX.allB
      first
        | exact ih
        | (rw [ih]; rfl)
        | (simp only [truthy]; exact ih)
  rw [q]
  rfl
end
theorem getS_0 {s0 : Sl} {r : En} : getS (s0 :: r) 0 = s0 := rfl
theorem set_0 {s0 v : Sl} {r : En} : List.set (s0 :: r) 0 v = v :: r := rfl
theorem getS_1 {s0 s1 : Sl} {r : En} : getS (s0 :: s1 :: r) 1 = s1 := rfl
theorem set_1 {s0 s1 v : Sl} {r : En} : List.set (s0 :: s1 :: r) 1 v = s0 :: v :: r := rfl
theorem getS_2 {s0 s1 s2 : Sl} {r : En} : getS (s0 :: s1 :: s2 :: r) 2 = s2 := rfl
theorem set_2 {s0 s1 s2 v : Sl} {r : En} : List.set (s0 :: s1 :: s2 :: r) 2 v = s0 :: s1 :: v :: r := rfl
theorem getS_3 {s0 s1 s2 s3 : Sl} {r : En} : getS (s0 :: s1 :: s2 :: s3 :: r) 3 = s3 := rfl
theorem set_3 {s0 s1 s2 s3 v : Sl} {r : En} : List.set (s0 :: s1 :: s2 :: s3 :: r) 3 v = s0 :: s1 :: s2 :: v :: r := rfl
theorem getS_4 {s0 s1 s2 s3 s4 : Sl} {r : En} : getS (s0 :: s1 :: s2 :: s3 :: s4 :: r) 4 = s4 := rfl
theorem set_4 {s0 s1 s2 s3 s4 v : Sl} {r : En} : List.set (s0 :: s1 :: s2 :: s3 :: s4 :: r) 4 v = s0 :: s1 :: s2 :: s3 :: v :: r := rfl
theorem getS_5 {s0 s1 s2 s3 s4 s5 : Sl} {r : En} : getS (s0 :: s1 :: s2 :: s3 :: s4 :: s5 :: r) 5 = s5 := rfl
theorem set_5 {s0 s1 s2 s3 s4 s5 v : Sl} {r : En} : List.set (s0 :: s1 :: s2 :: s3 :: s4 :: s5 :: r) 5 v = s0 :: s1 :: s2 :: s3 :: s4 :: v :: r := rfl
theorem getS_6 {s0 s1 s2 s3 s4 s5 s6 : Sl} {r : En} : getS (s0 :: s1 :: s2 :: s3 :: s4 :: s5 :: s6 :: r) 6 = s6 := rfl
theorem set_6 {s0 s1 s2 s3 s4 s5 s6 v : Sl} {r : En} : List.set (s0 :: s1 :: s2 :: s3 :: s4 :: s5 :: s6 :: r) 6 v = s0 :: s1 :: s2 :: s3 :: s4 :: s5 :: v :: r := rfl
theorem getS_7 {s0 s1 s2 s3 s4 s5 s6 s7 : Sl} {r : En} : getS (s0 :: s1 :: s2 :: s3 :: s4 :: s5 :: s6 :: s7 :: r) 7 = s7 := rfl
theorem set_7 {s0 s1 s2 s3 s4 s5 s6 s7 v : Sl} {r : En} : List.set (s0 :: s1 :: s2 :: s3 :: s4 :: s5 :: s6 :: s7 :: r) 7 v = s0 :: s1 :: s2 :: s3 :: s4 :: s5 :: s6 :: v :: r := rfl
theorem getS_8 {s0 s1 s2 s3 s4 s5 s6 s7 s8 : Sl} {r : En} : getS (s0 :: s1 :: s2 :: s3 :: s4 :: s5 :: s6 :: s7 :: s8 :: r) 8 = s8 := rfl
theorem set_8 {s0 s1 s2 s3 s4 s5 s6 s7 s8 v : Sl} {r : En} : List.set (s0 :: s1 :: s2 :: s3 :: s4 :: s5 :: s6 :: s7 :: s8 :: r) 8 v = s0 :: s1 :: s2 :: s3 :: s4 :: s5 :: s6 :: s7 :: v :: r := rfl
theorem getS_9 {s0 s1 s2 s3 s4 s5 s6 s7 s8 s9 : Sl} {r : En} : getS (s0 :: s1 :: s2 :: s3 :: s4 :: s5 :: s6 :: s7 :: s8 :: s9 :: r) 9 = s9 := rfl
theorem set_9 {s0 s1 s2 s3 s4 s5 s6 s7 s8 s9 v : Sl} {r : En} : List.set (s0 :: s1 :: s2 :: s3 :: s4 :: s5 :: s6 :: s7 :: s8 :: s9 :: r) 9 v = s0 :: s1 :: s2 :: s3 :: s4 :: s5 :: s6 :: s7 :: s8 :: v :: r := rfl
theorem getS_10 {s0 s1 s2 s3 s4 s5 s6 s7 s8 s9 s10 : Sl} {r : En} : getS (s0 :: s1 :: s2 :: s3 :: s4 :: s5 :: s6 :: s7 :: s8 :: s9 :: s10 :: r) 10 = s10 := rfl
theorem set_10 {s0 s1 s2 s3 s4 s5 s6 s7 s8 s9 s10 v : Sl} {r : En} : List.set (s0 :: s1 :: s2 :: s3 :: s4 :: s5 :: s6 :: s7 :: s8 :: s9 :: s10 :: r) 10 v = s0 :: s1 :: s2 :: s3 :: s4 :: s5 :: s6 :: s7 :: s8 :: s9 :: v :: r := rfl
theorem getS_11 {s0 s1 s2 s3 s4 s5 s6 s7 s8 s9 s10 s11 : Sl} {r : En} : getS (s0 :: s1 :: s2 :: s3 :: s4 :: s5 :: s6 :: s7 :: s8 :: s9 :: s10 :: s11 :: r) 11 = s11 := rfl
theorem set_11 {s0 s1 s2 s3 s4 s5 s6 s7 s8 s9 s10 s11 v : Sl} {r : En} : List.set (s0 :: s1 :: s2 :: s3 :: s4 :: s5 :: s6 :: s7 :: s8 :: s9 :: s10 :: s11 :: r) 11 v = s0 :: s1 :: s2 :: s3 :: s4 :: s5 :: s6 :: s7 :: s8 :: s9 :: s10 :: v :: r := rfl
theorem getS_12 {s0 s1 s2 s3 s4 s5 s6 s7 s8 s9 s10 s11 s12 : Sl} {r : En} : getS (s0 :: s1 :: s2 :: s3 :: s4 :: s5 :: s6 :: s7 :: s8 :: s9 :: s10 :: s11 :: s12 :: r) 12 = s12 := rfl
theorem set_12 {s0 s1 s2 s3 s4 s5 s6 s7 s8 s9 s10 s11 s12 v : Sl} {r : En} : List.set (s0 :: s1 :: s2 :: s3 :: s4 :: s5 :: s6 :: s7 :: s8 :: s9 :: s10 :: s11 :: s12 :: r) 12 v = s0 :: s1 :: s2 :: s3 :: s4 :: s5 :: s6 :: s7 :: s8 :: s9 :: s10 :: s11 :: v :: r := rfl
theorem getS_13 {s0 s1 s2 s3 s4 s5 s6 s7 s8 s9 s10 s11 s12 s13 : Sl} {r : En} : getS (s0 :: s1 :: s2 :: s3 :: s4 :: s5 :: s6 :: s7 :: s8 :: s9 :: s10 :: s11 :: s12 :: s13 :: r) 13 = s13 := rfl
theorem set_13 {s0 s1 s2 s3 s4 s5 s6 s7 s8 s9 s10 s11 s12 s13 v : Sl} {r : En} : List.set (s0 :: s1 :: s2 :: s3 :: s4 :: s5 :: s6 :: s7 :: s8 :: s9 :: s10 :: s11 :: s12 :: s13 :: r) 13 v = s0 :: s1 :: s2 :: s3 :: s4 :: s5 :: s6 :: s7 :: s8 :: s9 :: s10 :: s11 :: s12 :: v :: r := rfl
theorem getS_14 {s0 s1 s2 s3 s4 s5 s6 s7 s8 s9 s10 s11 s12 s13 s14 : Sl} {r : En} : getS (s0 :: s1 :: s2 :: s3 :: s4 :: s5 :: s6 :: s7 :: s8 :: s9 :: s10 :: s11 :: s12 :: s13 :: s14 :: r) 14 = s14 := rfl
theorem set_14 {s0 s1 s2 s3 s4 s5 s6 s7 s8 s9 s10 s11 s12 s13 s14 v : Sl} {r : En} : List.set (s0 :: s1 :: s2 :: s3 :: s4 :: s5 :: s6 :: s7 :: s8 :: s9 :: s10 :: s11 :: s12 :: s13 :: s14 :: r) 14 v = s0 :: s1 :: s2 :: s3 :: s4 :: s5 :: s6 :: s7 :: s8 :: s9 :: s10 :: s11 :: s12 :: s13 :: v :: r := rfl
theorem getS_15 {s0 s1 s2 s3 s4 s5 s6 s7 s8 s9 s10 s11 s12 s13 s14 s15 : Sl} {r : En} : getS (s0 :: s1 :: s2 :: s3 :: s4 :: s5 :: s6 :: s7 :: s8 :: s9 :: s10 :: s11 :: s12 :: s13 :: s14 :: s15 :: r) 15 = s15 := rfl
theorem set_15 {s0 s1 s2 s3 s4 s5 s6 s7 s8 s9 s10 s11 s12 s13 s14 s15 v : Sl} {r : En} : List.set (s0 :: s1 :: s2 :: s3 :: s4 :: s5 :: s6 :: s7 :: s8 :: s9 :: s10 :: s11 :: s12 :: s13 :: s14 :: s15 :: r) 15 v = s0 :: s1 :: s2 :: s3 :: s4 :: s5 :: s6 :: s7 :: s8 :: s9 :: s10 :: s11 :: s12 :: s13 :: s14 :: v :: r := rfl
theorem getS_16 {s0 s1 s2 s3 s4 s5 s6 s7 s8 s9 s10 s11 s12 s13 s14 s15 s16 : Sl} {r : En} : getS (s0 :: s1 :: s2 :: s3 :: s4 :: s5 :: s6 :: s7 :: s8 :: s9 :: s10 :: s11 :: s12 :: s13 :: s14 :: s15 :: s16 :: r) 16 = s16 := rfl
theorem set_16 {s0 s1 s2 s3 s4 s5 s6 s7 s8 s9 s10 s11 s12 s13 s14 s15 s16 v : Sl} {r : En} : List.set (s0 :: s1 :: s2 :: s3 :: s4 :: s5 :: s6 :: s7 :: s8 :: s9 :: s10 :: s11 :: s12 :: s13 :: s14 :: s15 :: s16 :: r) 16 v = s0 :: s1 :: s2 :: s3 :: s4 :: s5 :: s6 :: s7 :: s8 :: s9 :: s10 :: s11 :: s12 :: s13 :: s14 :: s15 :: v :: r := rfl
theorem getS_17 {s0 s1 s2 s3 s4 s5 s6 s7 s8 s9 s10 s11 s12 s13 s14 s15 s16 s17 : Sl} {r : En} : getS (s0 :: s1 :: s2 :: s3 :: s4 :: s5 :: s6 :: s7 :: s8 :: s9 :: s10 :: s11 :: s12 :: s13 :: s14 :: s15 :: s16 :: s17 :: r) 17 = s17 := rfl
theorem set_17 {s0 s1 s2 s3 s4 s5 s6 s7 s8 s9 s10 s11 s12 s13 s14 s15 s16 s17 v : Sl} {r : En} : List.set (s0 :: s1 :: s2 :: s3 :: s4 :: s5 :: s6 :: s7 :: s8 :: s9 :: s10 :: s11 :: s12 :: s13 :: s14 :: s15 :: s16 :: s17 :: r) 17 v = s0 :: s1 :: s2 :: s3 :: s4 :: s5 :: s6 :: s7 :: s8 :: s9 :: s10 :: s11 :: s12 :: s13 :: s14 :: s15 :: s16 :: v :: r := rfl
theorem getS_18 {s0 s1 s2 s3 s4 s5 s6 s7 s8 s9 s10 s11 s12 s13 s14 s15 s16 s17 s18 : Sl} {r : En} : getS (s0 :: s1 :: s2 :: s3 :: s4 :: s5 :: s6 :: s7 :: s8 :: s9 :: s10 :: s11 :: s12 :: s13 :: s14 :: s15 :: s16 :: s17 :: s18 :: r) 18 = s18 := rfl
theorem set_18 {s0 s1 s2 s3 s4 s5 s6 s7 s8 s9 s10 s11 s12 s13 s14 s15 s16 s17 s18 v : Sl} {r : En} : List.set (s0 :: s1 :: s2 :: s3 :: s4 :: s5 :: s6 :: s7 :: s8 :: s9 :: s10 :: s11 :: s12 :: s13 :: s14 :: s15 :: s16 :: s17 :: s18 :: r) 18 v = s0 :: s1 :: s2 :: s3 :: s4 :: s5 :: s6 :: s7 :: s8 :: s9 :: s10 :: s11 :: s12 :: s13 :: s14 :: s15 :: s16 :: s17 :: v :: r := rfl
theorem getS_19 {s0 s1 s2 s3 s4 s5 s6 s7 s8 s9 s10 s11 s12 s13 s14 s15 s16 s17 s18 s19 : Sl} {r : En} : getS (s0 :: s1 :: s2 :: s3 :: s4 :: s5 :: s6 :: s7 :: s8 :: s9 :: s10 :: s11 :: s12 :: s13 :: s14 :: s15 :: s16 :: s17 :: s18 :: s19 :: r) 19 = s19 := rfl
theorem set_19 {s0 s1 s2 s3 s4 s5 s6 s7 s8 s9 s10 s11 s12 s13 s14 s15 s16 s17 s18 s19 v : Sl} {r : En} : List.set (s0 :: s1 :: s2 :: s3 :: s4 :: s5 :: s6 :: s7 :: s8 :: s9 :: s10 :: s11 :: s12 :: s13 :: s14 :: s15 :: s16 :: s17 :: s18 :: s19 :: r) 19 v = s0 :: s1 :: s2 :: s3 :: s4 :: s5 :: s6 :: s7 :: s8 :: s9 :: s10 :: s11 :: s12 :: s13 :: s14 :: s15 :: s16 :: s17 :: s18 :: v :: r := rfl
theorem getS_20 {s0 s1 s2 s3 s4 s5 s6 s7 s8 s9 s10 s11 s12 s13 s14 s15 s16 s17 s18 s19 s20 : Sl} {r : En} : getS (s0 :: s1 :: s2 :: s3 :: s4 :: s5 :: s6 :: s7 :: s8 :: s9 :: s10 :: s11 :: s12 :: s13 :: s14 :: s15 :: s16 :: s17 :: s18 :: s19 :: s20 :: r) 20 = s20 := rfl
theorem set_20 {s0 s1 s2 s3 s4 s5 s6 s7 s8 s9 s10 s11 s12 s13 s14 s15 s16 s17 s18 s19 s20 v : Sl} {r : En} : List.set (s0 :: s1 :: s2 :: s3 :: s4 :: s5 :: s6 :: s7 :: s8 :: s9 :: s10 :: s11 :: s12 :: s13 :: s14 :: s15 :: s16 :: s17 :: s18 :: s19 :: s20 :: r) 20 v = s0 :: s1 :: s2 :: s3 :: s4 :: s5 :: s6 :: s7 :: s8 :: s9 :: s10 :: s11 :: s12 :: s13 :: s14 :: s15 :: s16 :: s17 :: s18 :: s19 :: v :: r := rfl
theorem getS_21 {s0 s1 s2 s3 s4 s5 s6 s7 s8 s9 s10 s11 s12 s13 s14 s15 s16 s17 s18 s19 s20 s21 : Sl} {r : En} : getS (s0 :: s1 :: s2 :: s3 :: s4 :: s5 :: s6 :: s7 :: s8 :: s9 :: s10 :: s11 :: s12 :: s13 :: s14 :: s15 :: s16 :: s17 :: s18 :: s19 :: s20 :: s21 :: r) 21 = s21 := rfl
theorem set_21 {s0 s1 s2 s3 s4 s5 s6 s7 s8 s9 s10 s11 s12 s13 s14 s15 s16 s17 s18 s19 s20 s21 v : Sl} {r : En} : List.set (s0 :: s1 :: s2 :: s3 :: s4 :: s5 :: s6 :: s7 :: s8 :: s9 :: s10 :: s11 :: s12 :: s13 :: s14 :: s15 :: s16 :: s17 :: s18 :: s19 :: s20 :: s21 :: r) 21 v = s0 :: s1 :: s2 :: s3 :: s4 :: s5 :: s6 :: s7 :: s8 :: s9 :: s10 :: s11 :: s12 :: s13 :: s14 :: s15 :: s16 :: s17 :: s18 :: s19 :: s20 :: v :: r := rfl
theorem frzA_nil : frzA [] = [] := rfl
theorem frzA_cons {s : Sl} {r : En} : frzA (s :: r) = frzS s :: frzA r := rfl
theorem frzS_no : frzS .no = .no := rfl
theorem frzS_va {x : PV} : frzS (.va x) = .va x := rfl
theorem frzA_no {r : En} : frzA (.no :: r) = .no :: frzA r := rfl
theorem frzA_va {r : En} {x : PV} : frzA (.va x :: r) = .va x :: frzA r := rfl
theorem ixF_0 {x : PV} {r : List PV} : ixF (x :: r) 0 = some x := rfl
theorem ixF_1 {x y : PV} {r : List PV} : ixF (x :: y :: r) 1 = some y := rfl
end RX
set_option maxHeartbeats 4000000
namespace RX
open PySem L2 LamX
variable {P : Program} {w : World} {K : PySem.W.Frag} {mg : Str → Option Value} {base : Heap} {tl : Tl}
/-- a def of which nothing is said -/
theorem stk_ok {x name qual : Str} {params : Arguments} {body : List Stmt} {scope : Scope} {f : Addr} {fd : FuncData} {ps : List Str} {lvl n : Nat} (FD : FunD K name qual params body scope [] [] f fd) (hm : mg x = some (.ref f)) (hd : (x == ("__debug__" : Str)) = false) (hB : Binds K fd ps []) (hn : ps.length = n) :
    DefOk P w K mg base tl lvl x (fun _ _ => .stuck) n := by
  subst hn
  refine ⟨hd, 0, f, fd, ps, Nat.zero_le _, ⟨fun vs H Q E h => h.1, ?_⟩, hm, FD.kp, hB⟩
  intro A outer s H args us vs Q E hr e0 hb r hsp
  obtain ⟨_, _, _, _, _, _, _, _, q⟩ := hsp
  exact False.elim q
end RX
set_option maxHeartbeats 0
namespace K00
open PySem PySem.Spec PyProof.Rows L2 RX
def top (i : Nat) : Stmt := PySem.Challenge.pw_halfturns_k00_whole_signed_words.main.body.getD i (.Pass ⟨0, 0, 0, 0⟩)
def D_is_whole : He.DefD := ⟨("is_whole", none), "is_whole", "is_whole", defArgs (top 6), defBody (top 6), defScope (top 6), [], []⟩
def D_is_tuple_of : He.DefD := ⟨("is_tuple_of", none), "is_tuple_of", "is_tuple_of", defArgs (top 7), defBody (top 7), defScope (top 7), [], []⟩
def D_is_word_of : He.DefD := ⟨("is_word_of", none), "is_word_of", "is_word_of", defArgs (top 13), defBody (top 13), defScope (top 13), [], []⟩
def D_is_word : He.DefD := ⟨("is_word", none), "is_word", "is_word", defArgs (top 14), defBody (top 14), defScope (top 14), [], []⟩
def D_need_word : He.DefD := ⟨("need_word", none), "need_word", "need_word", defArgs (top 15), defBody (top 15), defScope (top 15), [], []⟩
def D_need_mate : He.DefD := ⟨("need_mate", none), "need_mate", "need_mate", defArgs (top 16), defBody (top 16), defScope (top 16), [], []⟩
def D_times : He.DefD := ⟨("times", none), "times", "times", defArgs (top 17), defBody (top 17), defScope (top 17), [], []⟩
def D_are_opposite : He.DefD := ⟨("are_opposite", none), "are_opposite", "are_opposite", defArgs (top 18), defBody (top 18), defScope (top 18), [], []⟩
def D_product : He.DefD := ⟨("product", none), "product", "product", defArgs (top 19), defBody (top 19), defScope (top 19), [], []⟩
def D_agree : He.DefD := ⟨("agree", none), "agree", "agree", defArgs (top 20), defBody (top 20), defScope (top 20), [], []⟩
def D_product_of : He.DefD := ⟨("product_of", none), "product_of", "product_of", defArgs (top 21), defBody (top 21), defScope (top 21), [], []⟩
def D_undone : He.DefD := ⟨("undone", none), "undone", "undone", defArgs (top 22), defBody (top 22), defScope (top 22), [], []⟩
def D_is_straight : He.DefD := ⟨("is_straight", none), "is_straight", "is_straight", defArgs (top 23), defBody (top 23), defScope (top 23), [], []⟩
def D_weight_of : He.DefD := ⟨("weight_of", none), "weight_of", "weight_of", defArgs (top 24), defBody (top 24), defScope (top 24), [], []⟩
def D_bits_of : He.DefD := ⟨("bits_of", none), "bits_of", "bits_of", defArgs (top 25), defBody (top 25), defScope (top 25), [], []⟩
def D_from_bits : He.DefD := ⟨("from_bits", none), "from_bits", "from_bits", defArgs (top 26), defBody (top 26), defScope (top 26), [], []⟩
def D_beside : He.DefD := ⟨("beside", none), "beside", "beside", defArgs (top 27), defBody (top 27), defScope (top 27), [], []⟩
def D__law_cup : He.DefD := ⟨("_law_cup", none), "_law_cup", "_law_cup", defArgs (top 29), defBody (top 29), defScope (top 29), [], []⟩
def D__law_roll : He.DefD := ⟨("_law_roll", none), "_law_roll", "_law_roll", defArgs (top 30), defBody (top 30), defScope (top 30), [], []⟩
def D__law_some : He.DefD := ⟨("_law_some", none), "_law_some", "_law_some", defArgs (top 31), defBody (top 31), defScope (top 31), [], []⟩
def D__law_sort : He.DefD := ⟨("_law_sort", none), "_law_sort", "_law_sort", defArgs (top 32), defBody (top 32), defScope (top 32), [], []⟩
def D__law_like : He.DefD := ⟨("_law_like", none), "_law_like", "_law_like", defArgs (top 33), defBody (top 33), defScope (top 33), [], []⟩
def D__law_word : He.DefD := ⟨("_law_word", none), "_law_word", "_law_word", defArgs (top 34), defBody (top 34), defScope (top 34), [], []⟩
def D__law_tables : He.DefD := ⟨("_law_tables", none), "_law_tables", "_law_tables", defArgs (top 35), defBody (top 35), defScope (top 35), [], []⟩
def D__law_times : He.DefD := ⟨("_law_times", none), "_law_times", "_law_times", defArgs (top 36), defBody (top 36), defScope (top 36), [], []⟩
def D__law_table_times : He.DefD := ⟨("_law_table_times", none), "_law_table_times", "_law_table_times", defArgs (top 37), defBody (top 37), defScope (top 37), [], []⟩
def D__law_letter : He.DefD := ⟨("_law_letter", none), "_law_letter", "_law_letter", defArgs (top 38), defBody (top 38), defScope (top 38), [], []⟩
def D__law_product : He.DefD := ⟨("_law_product", none), "_law_product", "_law_product", defArgs (top 39), defBody (top 39), defScope (top 39), [], []⟩
def D__law_words_right : He.DefD := ⟨("_law_words_right", none), "_law_words_right", "_law_words_right", defArgs (top 40), defBody (top 40), defScope (top 40), [], []⟩
def D__law_great_right : He.DefD := ⟨("_law_great_right", none), "_law_great_right", "_law_great_right", defArgs (top 41), defBody (top 41), defScope (top 41), [], []⟩
def D__law_error : He.DefD := ⟨("_law_error", none), "_law_error", "_law_error", defArgs (top 42), defBody (top 42), defScope (top 42), [], []⟩
def D__law_limits_right : He.DefD := ⟨("_law_limits_right", none), "_law_limits_right", "_law_limits_right", defArgs (top 43), defBody (top 43), defScope (top 43), [], []⟩
def D_law : He.DefD := ⟨("law", none), "law", "law", defArgs (top 44), defBody (top 44), defScope (top 44), [], []⟩
def fn : List He.DefD := ([D_is_whole, D_is_tuple_of, D_is_word_of, D_is_word, D_need_word, D_need_mate, D_times, D_are_opposite, D_product, D_agree, D_product_of, D_undone, D_is_straight, D_weight_of, D_bits_of, D_from_bits, D_beside, D__law_cup, D__law_roll, D__law_some, D__law_sort, D__law_like, D__law_word, D__law_tables, D__law_times, D__law_table_times, D__law_letter, D__law_product, D__law_words_right, D__law_great_right] : List He.DefD) ++ ([D__law_error, D__law_limits_right, D_law] : List He.DefD)
def fa : List He.Fa := ([.glo "is_whole", .glo "is_tuple_of", .glo "is_word_of", .glo "is_word", .glo "need_word", .glo "need_mate", .glo "times", .glo "are_opposite", .glo "product", .glo "agree", .glo "product_of", .glo "undone", .glo "is_straight", .glo "weight_of", .glo "bits_of", .glo "from_bits", .glo "beside", .glo "_law_cup", .glo "_law_roll", .glo "_law_some", .glo "_law_sort", .glo "_law_like", .glo "_law_word", .glo "_law_tables", .glo "_law_times", .glo "_law_table_times", .glo "_law_letter", .glo "_law_product", .glo "_law_words_right", .glo "_law_great_right"] : List He.Fa) ++ ([.glo "_law_error", .glo "_law_limits_right", .glo "law"] : List He.Fa)
def tf : List He.Defn := [("_law_limits_right", none)]
def c_PLACES : PV := .int 12
def c_MANY : PV := .int 200
def c_LETTERS : PV := .tup [.tup [.int 0, .int 1, .int 2, .int 3], .tup [.int 1, .int 0, .int 3, .int 2], .tup [.int 2, .int 3, .int 0, .int 1], .tup [.int 3, .int 2, .int 1, .int 0]]
def c_TURNS : PV := .tup [.tup [.int 0, .int 0, .int 0, .int 0], .tup [.int 0, .int 0, .int 3, .int 1], .tup [.int 0, .int 1, .int 0, .int 3], .tup [.int 0, .int 3, .int 1, .int 0]]
def con : List (Str × PV) := [("PLACES", c_PLACES), ("MANY", c_MANY), ("LETTERS", c_LETTERS), ("TURNS", c_TURNS)]
def exs : List Str := ["InvalidWord", "InvalidWords", "InvalidPlaces"]
def free : List Str := ["len", "range", "enumerate", "zip", "sum", "all", "any", "abs", "isinstance", "max", "min", "int", "bool", "str", "tuple", "list", "sorted"]
def ex (K : PySem.W.Frag) : Bool := conB K con && (freeB K free && (excB K exs && ((He.Fa.glo "TurnError").ok K && (exs.all (fun k => clsB K "TurnError" exs k) && decide ((tf.map fun p => (He.cT K p).2).Nodup)))))

abbrev R : PySem.W.OpenRow := PySem.W.OpenLaw.row PySem.Challenge.rw_halfturns_k00_whole_signed_words
abbrev hk : PySem.W.Hook := hookY fa fn tf ex
abbrev ob (s : PySem.W.SharedT) : He.AlX := obG fa fn tf ex s
def loose : List Str := (["TurnError", "InvalidWord", "InvalidWords", "InvalidPlaces", "is_whole", "is_tuple_of", "PLACES", "MANY", "LETTERS", "TURNS", "is_word_of", "is_word", "need_word", "need_mate", "times", "are_opposite", "product", "agree", "product_of", "undone", "is_straight", "weight_of", "bits_of", "from_bits", "beside", "_law_cup", "_law_roll", "_law_some", "_law_sort", "_law_like"] : List Str) ++ (["_law_word", "_law_tables", "_law_times", "_law_table_times", "_law_letter", "_law_product", "_law_words_right", "_law_great_right", "_law_error", "_law_limits_right"] : List Str)
abbrev qv : Program := PySem.W.view R.prog [44]
noncomputable abbrev fin (w : World) (os : OsState) : Option PySem.W.SharedT := HandSHeadRun.endF (HandSHeadRun.stepQ (HandSHeadRun.denQ HandSHeadRun.tabQ) R.prog w) 20000 R.prog w os
end K00
set_option maxHeartbeats 0
namespace K00
open PySem PySem.Spec PyProof.Rows L2 RX
def ers : List (Str × Er) := [("_law_error", ("none", [("InvalidWord", "word"), ("InvalidWords", "words"), ("InvalidPlaces", "places")]))]
def N_6 : List Str := ["value", "low", "high"]
def f_6 : List (Str × Fn × Nat) := []
def s_6 : Sd := bodyS ⟨N_6, defScope (top 6), [], f_6, [], con, exs, free, []⟩ [] 10000 (defBody (top 6))
def F_6 : Fn := runS s_6 0
def N_7 : List Str := ["value", "low", "high"]
def f_7 : List (Str × Fn × Nat) := []
def s_7 : Sd := bodyS ⟨N_7, defScope (top 7), [], f_7, [], con, exs, free, []⟩ [] 10000 (defBody (top 7))
def F_7 : Fn := runS s_7 0
def N_17 : List Str := ["one", "other", "turns", ".0", "first", "second"]
def f_17 : List (Str × Fn × Nat) := []
def s_17 : Sd := bodyS ⟨N_17, defScope (top 17), [], f_17, [], con, exs, free, []⟩ [] 10000 (defBody (top 17))
def F_17 : Fn := runS s_17 4
def N_18 : List Str := ["one", "other", "unlike", ".0", "first", "second"]
def f_18 : List (Str × Fn × Nat) := []
def s_18 : Sd := bodyS ⟨N_18, defScope (top 18), [], f_18, [], con, exs, free, []⟩ [] 10000 (defBody (top 18))
def F_18 : Fn := runS s_18 4
def N_30 : List Str := ["cup", "many", "found", "deep"]
def f_30 : List (Str × Fn × Nat) := []
def s_30 : Sd := bodyS ⟨N_30, defScope (top 30), [], f_30, [], con, exs, free, []⟩ ["cup"] 10000 (defBody (top 30))
def F_30 : Fn := runS s_30 2
def N_32 : List Str := ["value"]
def f_32 : List (Str × Fn × Nat) := []
def s_32 : Sd := bodyS ⟨N_32, defScope (top 32), [], f_32, [], con, exs, free, []⟩ [] 10000 (defBody (top 32))
def F_32 : Fn := runS s_32 0
def N_35 : List Str := ["none", "one", "back", "up", "down"]
def f_35 : List (Str × Fn × Nat) := []
def s_35 : Sd := bodyS ⟨N_35, defScope (top 35), [], f_35, [], con, exs, free, []⟩ [] 10000 (defBody (top 35))
def F_35 : Fn := runS s_35 5
def N_36 : List Str := ["one", "other"]
def f_36 : List (Str × Fn × Nat) := []
def s_36 : Sd := bodyS ⟨N_36, defScope (top 36), [], f_36, [], con, exs, free, []⟩ [] 10000 (defBody (top 36))
def F_36 : Fn := runS s_36 0
def N_13 : List Str := ["value", "places", ".0", "letter"]
def f_13 : List (Str × Fn × Nat) := [("is_tuple_of", F_7, 3), ("is_whole", F_6, 3)]
def s_13 : Sd := bodyS ⟨N_13, defScope (top 13), [], f_13, [], con, exs, free, []⟩ [] 10000 (defBody (top 13))
def F_13 : Fn := runS s_13 2
def N_26 : List Str := ["flips", "signs", ".0", "bit", "flip", "sign"]
def f_26 : List (Str × Fn × Nat) := [("is_tuple_of", F_7, 3), ("is_whole", F_6, 3)]
def s_26 : Sd := bodyS ⟨N_26, defScope (top 26), [], f_26, [], con, exs, free, []⟩ [] 10000 (defBody (top 26))
def F_26 : Fn := runS s_26 4
def N_31 : List Str := ["cup", "things"]
def f_31 : List (Str × Fn × Nat) := [("_law_roll", F_30, 2)]
def s_31 : Sd := bodyS ⟨N_31, defScope (top 31), [], f_31, [], con, exs, free, []⟩ [] 10000 (defBody (top 31))
def F_31 : Fn := runS s_31 0
def N_33 : List Str := ["one", "other", "sort", ".0", "first", "second"]
def f_33 (self : Fn) : List (Str × Fn × Nat) := [("_law_sort", F_32, 1), ("_law_like", self, 2)]
def s_33 (self : Fn) : Sd := bodyS ⟨N_33, defScope (top 33), [], f_33 self, [], con, exs, free, []⟩ [] 10000 (defBody (top 33))
def R_33 : Nat → Fn
  | 0 => fun _ _ => .stuck
  | n + 1 => runS (s_33 (R_33 n)) 4
def F_33 : Fn := R_33 9
def N_34 : List Str := ["cup", "places", ".0", "place"]
def f_34 : List (Str × Fn × Nat) := [("_law_roll", F_30, 2)]
def s_34 : Sd := bodyS ⟨N_34, defScope (top 34), ["cup"], f_34, [], con, exs, free, ["return"]⟩ [] 10000 (defBody (top 34))
def F_34 : Fn := runS s_34 2
def N_37 : List Str := ["one", "other", "found", "row", "line", "column", "first", "second"]
def f_37 : List (Str × Fn × Nat) := [("_law_times", F_36, 2)]
def s_37 : Sd := bodyS ⟨N_37, defScope (top 37), [], f_37, [], con, exs, free, []⟩ ["line", "found"] 10000 (defBody (top 37))
def F_37 : Fn := runS s_37 6
def N_38 : List Str := ["table", "powers", "letter", "own", "turns", "power", ".0", "row", "entry"]
def f_38 : List (Str × Fn × Nat) := [("_law_tables", F_35, 0), ("_law_times", F_36, 2)]
def s_38 : Sd := bodyS ⟨N_38, defScope (top 38), ["power"], f_38, [], con, exs, free, []⟩ [] 10000 (defBody (top 38))
def F_38 : Fn := runS s_38 8
def N_14 : List Str := ["value"]
def f_14 : List (Str × Fn × Nat) := [("is_word_of", F_13, 2), ("is_tuple_of", F_7, 3)]
def s_14 : Sd := bodyS ⟨N_14, defScope (top 14), [], f_14, [], con, exs, free, []⟩ [] 10000 (defBody (top 14))
def F_14 : Fn := runS s_14 0
def N_16 : List Str := ["one", "other"]
def f_16 : List (Str × Fn × Nat) := [("is_word_of", F_13, 2)]
def s_16 : Sd := bodyS ⟨N_16, defScope (top 16), [], f_16, [], con, exs, free, []⟩ [] 10000 (defBody (top 16))
def F_16 : Fn := runS s_16 0
def N_39 : List Str := ["one", "other", "tables", "turns", "letters", "first", "second", "more", "letter"]
def f_39 : List (Str × Fn × Nat) := [("_law_tables", F_35, 0), ("_law_letter", F_38, 1), ("_law_table_times", F_37, 2)]
def s_39 : Sd := bodyS ⟨N_39, defScope (top 39), [], f_39, [], con, exs, free, []⟩ [] 10000 (defBody (top 39))
def F_39 : Fn := runS s_39 7
def N_15 : List Str := ["value"]
def f_15 : List (Str × Fn × Nat) := [("is_word", F_14, 1)]
def s_15 : Sd := bodyS ⟨N_15, defScope (top 15), [], f_15, [], con, exs, free, []⟩ [] 10000 (defBody (top 15))
def F_15 : Fn := runS s_15 0
def N_21 : List Str := ["words", "word", "found", ".0"]
def f_21 : List (Str × Fn × Nat) := [("times", F_17, 2), ("is_tuple_of", F_7, 3), ("is_word", F_14, 1)]
def s_21 : Sd := bodyS ⟨N_21, defScope (top 21), ["words"], f_21, [], con, exs, free, []⟩ [] 10000 (defBody (top 21))
def F_21 : Fn := runS s_21 3
def N_19 : List Str := ["one", "other"]
def f_19 : List (Str × Fn × Nat) := [("need_word", F_15, 1), ("need_mate", F_16, 2), ("times", F_17, 2)]
def s_19 : Sd := bodyS ⟨N_19, defScope (top 19), [], f_19, [], con, exs, free, []⟩ [] 10000 (defBody (top 19))
def F_19 : Fn := runS s_19 0
def N_20 : List Str := ["one", "other"]
def f_20 : List (Str × Fn × Nat) := [("need_word", F_15, 1), ("need_mate", F_16, 2), ("are_opposite", F_18, 2)]
def s_20 : Sd := bodyS ⟨N_20, defScope (top 20), [], f_20, [], con, exs, free, []⟩ [] 10000 (defBody (top 20))
def F_20 : Fn := runS s_20 0
def N_22 : List Str := ["word"]
def f_22 : List (Str × Fn × Nat) := [("need_word", F_15, 1)]
def s_22 : Sd := bodyS ⟨N_22, defScope (top 22), [], f_22, [], con, exs, free, []⟩ [] 10000 (defBody (top 22))
def F_22 : Fn := runS s_22 0
def N_23 : List Str := ["word"]
def f_23 : List (Str × Fn × Nat) := [("need_word", F_15, 1)]
def s_23 : Sd := bodyS ⟨N_23, defScope (top 23), [], f_23, [], con, exs, free, []⟩ [] 10000 (defBody (top 23))
def F_23 : Fn := runS s_23 0
def N_24 : List Str := ["word", ".0", "letter"]
def f_24 : List (Str × Fn × Nat) := [("need_word", F_15, 1)]
def s_24 : Sd := bodyS ⟨N_24, defScope (top 24), [], f_24, [], con, exs, free, []⟩ [] 10000 (defBody (top 24))
def F_24 : Fn := runS s_24 2
def N_25 : List Str := ["word", ".0", "letter"]
def f_25 : List (Str × Fn × Nat) := [("need_word", F_15, 1)]
def s_25 : Sd := bodyS ⟨N_25, defScope (top 25), [], f_25, [], con, exs, free, []⟩ [] 10000 (defBody (top 25))
def F_25 : Fn := runS s_25 2
def N_27 : List Str := ["one", "other"]
def f_27 : List (Str × Fn × Nat) := [("need_word", F_15, 1)]
def s_27 : Sd := bodyS ⟨N_27, defScope (top 27), [], f_27, [], con, exs, free, []⟩ [] 10000 (defBody (top 27))
def F_27 : Fn := runS s_27 0
def N_40 : List Str := ["cup", "places", "one", "other", "third", "there", "back", "told", "none", "square", "flips", "signs", "due", "both", "more", ".0", "letter"]
def f_40 : List (Str × Fn × Nat) := [("_law_product", F_39, 2), ("bits_of", F_25, 1), ("beside", F_27, 2), ("_law_like", F_33, 2), ("_law_word", F_34, 2), ("is_word", F_14, 1), ("product", F_19, 2), ("agree", F_20, 2), ("product_of", F_21, 1), ("is_straight", F_23, 1), ("weight_of", F_24, 1), ("undone", F_22, 1), ("from_bits", F_26, 2)]
def s_40 : Sd := bodyS ⟨N_40, defScope (top 40), [], f_40, [], con, exs, free, ["one", "other", "third"]⟩ [] 10000 (defBody (top 40))
def F_40 : Fn := runS s_40 15
def N_41 : List Str := ["cup", "places", "many", "half", "flip", "sign", "none", "told", "letters"]
def f_41 : List (Str × Fn × Nat) := [("_law_like", F_33, 2), ("product_of", F_21, 1), ("agree", F_20, 2), ("_law_roll", F_30, 2), ("product", F_19, 2)]
def s_41 : Sd := bodyS ⟨N_41, defScope (top 41), [], f_41, [], con, exs, free, []⟩ [] 10000 (defBody (top 41))
def F_41 : Fn := runS s_41 8
def N_43 : List Str := ["cup", "odds", "words", "flip", "sign", "both", "told", "due", "bad", "bits", "good", "name", "row", ".0", "odd"]
def f_43 : List (Str × Fn × Nat) := [("undone", F_22, 1), ("is_straight", F_23, 1), ("weight_of", F_24, 1), ("bits_of", F_25, 1), ("product", F_19, 2), ("agree", F_20, 2), ("beside", F_27, 2), ("_law_like", F_33, 2), ("_law_some", F_31, 2), ("product_of", F_21, 1), ("is_word", F_14, 1), ("from_bits", F_26, 2)]
def s_43 : Sd := bodyS ⟨N_43, defScope (top 43), ["bad", "bits", "good", "name", "row"], f_43, ers, con, exs, free, []⟩ [] 10000 (defBody (top 43))
def F_43 : Fn := runS s_43 14
end K00
set_option maxHeartbeats 0
namespace K00
open PySem PySem.Spec PyProof.Rows L2 RX
def b_6 : Sd := (dRet (dAndV (dBi bIsi (dCons (dVarB 0) (dCons (dC (.ty 0)) dNil))) (dAndV (dNotV (dBi bIsi (dCons (dVarB 0) (dCons (dC (.ty 1)) dNil)))) (dChain oLe oLe (dVarB 1) (dVarB 0) (dVarB 2)))))
theorem n_6 : s_6 = b_6 := by kernel_rfl
def b_7 : Sd := (dRet (dAndV (dBi bIsi (dCons (dVarB 0) (dCons (dC (.ty 3)) dNil))) (dChain oLe oLe (dVarB 1) (dBi bLen (dCons (dVarB 0) dNil)) (dVarB 2))))
theorem n_7 : s_7 = b_7 := by kernel_rfl
def b_17 : Sd := (dSeq (dAsg (gS 2) (dBin oAdd (dBin oAdd (dIx (dVarB 0) (dC (.int 0))) (dIx (dVarB 1) (dC (.int 0)))) (dBi bSum (dCons (dComp [3, 4, 5] (dZip (dCons (dIx (dVarB 0) (dC (.int 1))) (dCons (dIx (dVarB 1) (dC (.int 1))) dNil))) (gT 2 (gsCons (gS 4) (gsCons (gS 5) gsNil))) (dC (.bl true)) (dIx (dIx (dC c_TURNS) (dVarB 4)) (dVarB 5))) dNil)))) (dRet (dTup (dCons (dBin oMod (dVarB 2) (dC (.int 4))) (dCons (dBi bTup (dCons (dComp [3, 4, 5] (dZip (dCons (dIx (dVarB 0) (dC (.int 1))) (dCons (dIx (dVarB 1) (dC (.int 1))) dNil))) (gT 2 (gsCons (gS 4) (gsCons (gS 5) gsNil))) (dC (.bl true)) (dIx (dIx (dC c_LETTERS) (dVarB 4)) (dVarB 5))) dNil)) dNil)))))
theorem n_17 : s_17 = b_17 := by kernel_rfl
def b_18 : Sd := (dSeq (dAsg (gS 2) (dComp [3, 4, 5] (dZip (dCons (dIx (dVarB 0) (dC (.int 1))) (dCons (dIx (dVarB 1) (dC (.int 1))) dNil))) (gT 2 (gsCons (gS 4) (gsCons (gS 5) gsNil))) (dAndT (dBin oNe (dVarB 4) (dC (.int 0))) (dAndT (dBin oNe (dVarB 5) (dC (.int 0))) (dBin oNe (dVarB 4) (dVarB 5)))) (dC (.int 1)))) (dRet (dBin oEq (dBin oMod (dBi bLen (dCons (dVarB 2) dNil)) (dC (.int 2))) (dC (.int 1)))))
theorem n_18 : s_18 = b_18 := by kernel_rfl
def b_32 : Sd := (dSeq (dIfS (dOrT (dBin (oIs false) (dVarB 0) (dC .non)) (dTru (dBi bIsi (dCons (dVarB 0) (dCons (dC (.ty 1)) dNil))))) (dRet (dIf (dBin (oIs false) (dVarB 0) (dC .non)) (dC (.int 0)) (dC (.int 1)))) dNext) (dSeq (dIfS (dOrT (dTru (dBi bIsi (dCons (dVarB 0) (dCons (dC (.ty 0)) dNil)))) (dTru (dBi bIsi (dCons (dVarB 0) (dCons (dC (.ty 2)) dNil))))) (dRet (dIf (dTru (dBi bIsi (dCons (dVarB 0) (dCons (dC (.ty 0)) dNil)))) (dC (.int 2)) (dC (.int 3)))) dNext) (dRet (dIf (dTru (dBi bIsi (dCons (dVarB 0) (dCons (dC (.ty 3)) dNil)))) (dC (.int 4)) (dIf (dTru (dBi bIsi (dCons (dVarB 0) (dCons (dC (.ty 4)) dNil)))) (dC (.int 5)) (dC (.int 6)))))))
theorem n_32 : s_32 = b_32 := by kernel_rfl
def b_13 : Sd := (dSeq (dIfS (dOrT (dNotT (dTru (dCall F_7 3 (dCons (dVar 0) (dCons (dC (.int 2)) (dCons (dC (.int 2)) dNil)))))) (dOrT (dNotT (dTru (dCall F_6 3 (dCons (dIx (dVarB 0) (dC (.int 0))) (dCons (dC (.int 0)) (dCons (dC (.int 3)) dNil)))))) (dNotT (dTru (dCall F_7 3 (dCons (dIx (dVarB 0) (dC (.int 1))) (dCons (dVar 1) (dCons (dVar 1) dNil)))))))) (dRet (dC (.bl false))) dNext) (dRet (dBi bAll (dCons (dComp [2, 3] (dItems (dIx (dVarB 0) (dC (.int 1)))) (gS 3) (dC (.bl true)) (dCall F_6 3 (dCons (dVar 3) (dCons (dC (.int 0)) (dCons (dC (.int 3)) dNil))))) dNil))))
theorem n_13 : s_13 = b_13 := by kernel_rfl
def b_26 : Sd := (dSeq (dIfS (dOrT (dNotT (dTru (dCall F_7 3 (dCons (dVar 0) (dCons (dC (.int 1)) (dCons (dC c_PLACES) dNil)))))) (dNotT (dTru (dBi bAll (dCons (dComp [2, 3] (dItems (dVarB 0)) (gS 3) (dC (.bl true)) (dCall F_6 3 (dCons (dVar 3) (dCons (dC (.int 0)) (dCons (dC (.int 1)) dNil))))) dNil))))) (dRaise "InvalidPlaces") dNext) (dSeq (dIfS (dOrT (dNotT (dTru (dCall F_7 3 (dCons (dVar 1) (dCons (dBi bLen (dCons (dVarB 0) dNil)) (dCons (dBi bLen (dCons (dVarB 0) dNil)) dNil)))))) (dNotT (dTru (dBi bAll (dCons (dComp [2, 3] (dItems (dVarB 1)) (gS 3) (dC (.bl true)) (dCall F_6 3 (dCons (dVar 3) (dCons (dC (.int 0)) (dCons (dC (.int 1)) dNil))))) dNil))))) (dRaise "InvalidPlaces") dNext) (dRet (dTup (dCons (dC (.int 0)) (dCons (dBi bTup (dCons (dComp [2, 4, 5] (dZip (dCons (dVarB 0) (dCons (dVarB 1) dNil))) (gT 2 (gsCons (gS 4) (gsCons (gS 5) gsNil))) (dC (.bl true)) (dBin oAdd (dVarB 4) (dBin oMul (dC (.int 2)) (dVarB 5)))) dNil)) dNil))))))
theorem n_26 : s_26 = b_26 := by kernel_rfl
def b_33 (self : Fn) : Sd := (dSeq (dAsg (gS 2) (dCall F_32 1 (dCons (dVar 1) dNil))) (dSeq (dIfS (dOrT (dBin oNe (dCall F_32 1 (dCons (dVar 0) dNil)) (dVarB 2)) (dBin oEq (dVarB 2) (dC (.int 6)))) (dRet (dC (.bl false))) dNext) (dSeq (dIfS (dBin (oIn false) (dVarB 2) (dTup (dCons (dC (.int 4)) (dCons (dC (.int 5)) dNil)))) (dRet (dAndV (dBin oEq (dBi bLen (dCons (dVarB 0) dNil)) (dBi bLen (dCons (dVarB 1) dNil))) (dBin oEq (dComp [3, 4, 5] (dZip (dCons (dVarB 0) (dCons (dVarB 1) dNil))) (gT 2 (gsCons (gS 4) (gsCons (gS 5) gsNil))) (dNotT (dTru (dCall self 2 (dCons (dVar 4) (dCons (dVar 5) dNil))))) (dC (.int 1))) (dLst dNil)))) dNext) (dRet (dBin oEq (dVarB 0) (dVarB 1))))))
theorem n_33 (self : Fn) : s_33 self = b_33 self := by kernel_rfl
def b_34 : Sd := (dRet (dTup (dCons (dCall F_30 2 (dCons (dVar 0) (dCons (dC (.int 4)) dNil))) (dCons (dBi bXt (dCons (dComp [2, 3] (dRng1 (dCons (dVarB 1) dNil)) (gS 3) (dC (.bl true)) (dCall F_30 2 (dCons (dVar 0) (dCons (dC (.int 4)) dNil)))) dNil)) dNil))))
theorem n_34 : s_34 = b_34 := by kernel_rfl
def b_14 : Sd := (dSeq (dIfS (dOrT (dNotT (dTru (dCall F_7 3 (dCons (dVar 0) (dCons (dC (.int 2)) (dCons (dC (.int 2)) dNil)))))) (dNotT (dTru (dCall F_7 3 (dCons (dIx (dVarB 0) (dC (.int 1))) (dCons (dC (.int 1)) (dCons (dC c_PLACES) dNil))))))) (dRet (dC (.bl false))) dNext) (dRet (dCall F_13 2 (dCons (dVar 0) (dCons (dBi bLen (dCons (dIx (dVarB 0) (dC (.int 1))) dNil)) dNil)))))
theorem n_14 : s_14 = b_14 := by kernel_rfl
def b_16 : Sd := (dIfS (dNotT (dTru (dCall F_13 2 (dCons (dVar 1) (dCons (dBi bLen (dCons (dIx (dVarB 0) (dC (.int 1))) dNil)) dNil))))) (dRaise "InvalidWord") dNext)
theorem n_16 : s_16 = b_16 := by kernel_rfl
def b_39 : Sd := (dSeq (dPar [(2, false), (3, false), (4, false)] (dCons (dCall F_35 0 dNil) (dCons (dBin oAdd (dIx (dVarB 0) (dC (.int 0))) (dIx (dVarB 1) (dC (.int 0)))) (dCons (dLst dNil) dNil)))) (dSeq (dFor (dZip (dCons (dIx (dVarB 0) (dC (.int 1))) (dCons (dIx (dVarB 1) (dC (.int 1))) dNil))) (gT 2 (gsCons (gS 5) (gsCons (gS 6) gsNil))) (dSeq (dAsg (gT 2 (gsCons (gS 7) (gsCons (gS 8) gsNil))) (dCall F_38 1 (dCons (dCall F_37 2 (dCons (dIx (dVarB 2) (dVarB 5)) (dCons (dIx (dVarB 2) (dVarB 6)) dNil))) dNil))) (dPar [(3, false), (4, false)] (dCons (dBin oAdd (dVarB 3) (dVarB 7)) (dCons (dBin oAdd (dVarB 4) (dLst (dCons (dVar 8) dNil))) dNil))))) (dRet (dTup (dCons (dBin oMod (dBi bInt (dCons (dVarB 3) dNil)) (dC (.int 4))) (dCons (dBi bTup (dCons (dVarB 4) dNil)) dNil))))))
theorem n_39 : s_39 = b_39 := by kernel_rfl
def b_15 : Sd := (dIfS (dNotT (dTru (dCall F_14 1 (dCons (dVar 0) dNil)))) (dRaise "InvalidWord") dNext)
theorem n_15 : s_15 = b_15 := by kernel_rfl
def b_21 : Sd := (dSeq (dIfS (dOrT (dNotT (dTru (dCall F_7 3 (dCons (dVar 0) (dCons (dC (.int 1)) (dCons (dC c_MANY) dNil)))))) (dNotT (dTru (dBi bAll (dCons (dComp [3, 1] (dItems (dVarB 0)) (gS 1) (dC (.bl true)) (dCall F_14 1 (dCons (dVar 1) dNil))) dNil))))) (dRaise "InvalidWords") dNext) (dSeq (dIfS (dNotT (dTru (dBi bAll (dCons (dComp [3, 1] (dItems (dVarB 0)) (gS 1) (dC (.bl true)) (dBin oEq (dBi bLen (dCons (dIx (dVarB 1) (dC (.int 1))) dNil)) (dBi bLen (dCons (dIx (dIx (dVarB 0) (dC (.int 0))) (dC (.int 1))) dNil)))) dNil)))) (dRaise "InvalidWords") dNext) (dSeq (dAsg (gS 2) (dIx (dVarB 0) (dC (.int 0)))) (dSeq (dFor (dItems (dCut (dVarB 0) (dPart (dC (.int 1))) (dC .non))) (gS 1) (dAsg (gS 2) (dCall F_17 2 (dCons (dVar 2) (dCons (dVar 1) dNil))))) (dRet (dVar 2))))))
theorem n_21 : s_21 = b_21 := by kernel_rfl
def b_19 : Sd := (dSeq (dDrop (dCall F_15 1 (dCons (dVar 0) dNil))) (dSeq (dDrop (dCall F_16 2 (dCons (dVar 0) (dCons (dVar 1) dNil)))) (dRet (dCall F_17 2 (dCons (dVar 0) (dCons (dVar 1) dNil))))))
theorem n_19 : s_19 = b_19 := by kernel_rfl
def b_20 : Sd := (dSeq (dDrop (dCall F_15 1 (dCons (dVar 0) dNil))) (dSeq (dDrop (dCall F_16 2 (dCons (dVar 0) (dCons (dVar 1) dNil)))) (dRet (dNotV (dCall F_18 2 (dCons (dVar 0) (dCons (dVar 1) dNil)))))))
theorem n_20 : s_20 = b_20 := by kernel_rfl
def b_22 : Sd := (dSeq (dDrop (dCall F_15 1 (dCons (dVar 0) dNil))) (dRet (dTup (dCons (dBin oMod (dUn oNeg (dIx (dVarB 0) (dC (.int 0)))) (dC (.int 4))) (dCons (dIx (dVarB 0) (dC (.int 1))) dNil)))))
theorem n_22 : s_22 = b_22 := by kernel_rfl
def b_23 : Sd := (dSeq (dDrop (dCall F_15 1 (dCons (dVar 0) dNil))) (dRet (dBin oEq (dBin oMod (dIx (dVarB 0) (dC (.int 0))) (dC (.int 2))) (dC (.int 0)))))
theorem n_23 : s_23 = b_23 := by kernel_rfl
def b_24 : Sd := (dSeq (dDrop (dCall F_15 1 (dCons (dVar 0) dNil))) (dRet (dBi bLen (dCons (dComp [1, 2] (dItems (dIx (dVarB 0) (dC (.int 1)))) (gS 2) (dBin oNe (dVarB 2) (dC (.int 0))) (dVar 2)) dNil))))
theorem n_24 : s_24 = b_24 := by kernel_rfl
def b_25 : Sd := (dSeq (dDrop (dCall F_15 1 (dCons (dVar 0) dNil))) (dRet (dTup (dCons (dBi bTup (dCons (dComp [1, 2] (dItems (dIx (dVarB 0) (dC (.int 1)))) (gS 2) (dC (.bl true)) (dBin oMod (dVarB 2) (dC (.int 2)))) dNil)) (dCons (dBi bTup (dCons (dComp [1, 2] (dItems (dIx (dVarB 0) (dC (.int 1)))) (gS 2) (dC (.bl true)) (dBin oFdiv (dVarB 2) (dC (.int 2)))) dNil)) dNil)))))
theorem n_25 : s_25 = b_25 := by kernel_rfl
def b_27 : Sd := (dSeq (dDrop (dCall F_15 1 (dCons (dVar 0) dNil))) (dSeq (dDrop (dCall F_15 1 (dCons (dVar 1) dNil))) (dSeq (dIfS (dBin oGt (dBin oAdd (dBi bLen (dCons (dIx (dVarB 0) (dC (.int 1))) dNil)) (dBi bLen (dCons (dIx (dVarB 1) (dC (.int 1))) dNil))) (dC c_PLACES)) (dRaise "InvalidWord") dNext) (dRet (dTup (dCons (dBin oMod (dBin oAdd (dIx (dVarB 0) (dC (.int 0))) (dIx (dVarB 1) (dC (.int 0)))) (dC (.int 4))) (dCons (dBin oAdd (dIx (dVarB 0) (dC (.int 1))) (dIx (dVarB 1) (dC (.int 1)))) dNil)))))))
theorem n_27 : s_27 = b_27 := by kernel_rfl
def b_40 : Sd := (dSeq (dPar [(2, false), (3, false), (4, false)] (dCons (dCall F_34 2 (dCons (dVar 0) (dCons (dVar 1) dNil))) (dCons (dCall F_34 2 (dCons (dVar 0) (dCons (dVar 1) dNil))) (dCons (dCall F_34 2 (dCons (dVar 0) (dCons (dVar 1) dNil))) dNil)))) (dSeq (dPar [(5, false), (6, false)] (dCons (dCall F_39 2 (dCons (dNrm (dVar 2)) (dCons (dNrm (dVar 3)) dNil))) (dCons (dCall F_39 2 (dCons (dNrm (dVar 3)) (dCons (dNrm (dVar 2)) dNil))) dNil))) (dSeq (dAsg (gS 7) (dLst (dCons (dCall F_14 1 (dCons (dNrm (dVar 2)) dNil)) (dCons (dCall F_19 2 (dCons (dNrm (dVar 2)) (dCons (dNrm (dVar 3)) dNil))) (dCons (dCall F_19 2 (dCons (dNrm (dVar 3)) (dCons (dNrm (dVar 2)) dNil))) (dCons (dCall F_20 2 (dCons (dNrm (dVar 2)) (dCons (dNrm (dVar 3)) dNil))) (dCons (dCall F_21 1 (dCons (dTup (dCons (dNrm (dVar 2)) (dCons (dNrm (dVar 3)) (dCons (dNrm (dVar 4)) dNil)))) dNil)) dNil))))))) (dSeq (dIfS (dOrT (dNotT (dTru (dCall F_33 2 (dCons (dVar 7) (dCons (dLst (dCons (dC (.bl true)) (dCons (dVar 5) (dCons (dVar 6) (dCons (dBin oEq (dVarB 5) (dVarB 6)) (dCons (dCall F_39 2 (dCons (dVar 5) (dCons (dNrm (dVar 4)) dNil))) dNil)))))) dNil))))) (dBin oNe (dIx (dVarB 5) (dC (.int 1))) (dIx (dVarB 6) (dC (.int 1))))) (dRet (dC (.bl false))) dNext) (dSeq (dIfS (dAndT (dBin oNe (dVarB 5) (dVarB 6)) (dBin oNe (dBin oMod (dBi bInt (dCons (dBin oAdd (dIx (dVarB 5) (dC (.int 0))) (dC (.int 2))) dNil)) (dC (.int 4))) (dIx (dVarB 6) (dC (.int 0))))) (dRet (dC (.bl false))) dNext) (dSeq (dIfS (dBin oNe (dCall F_19 2 (dCons (dNrm (dVar 2)) (dCons (dCall F_19 2 (dCons (dNrm (dVar 3)) (dCons (dNrm (dVar 4)) dNil))) dNil))) (dCall F_19 2 (dCons (dCall F_19 2 (dCons (dNrm (dVar 2)) (dCons (dNrm (dVar 3)) dNil))) (dCons (dNrm (dVar 4)) dNil)))) (dRet (dC (.bl false))) dNext) (dSeq (dAsg (gS 8) (dTup (dCons (dC (.int 0)) (dCons (dBin oMul (dTup (dCons (dC (.int 0)) dNil)) (dVarB 1)) dNil)))) (dSeq (dAsg (gS 7) (dLst (dCons (dCall F_19 2 (dCons (dNrm (dVar 2)) (dCons (dCall F_22 1 (dCons (dNrm (dVar 2)) dNil)) dNil))) (dCons (dCall F_19 2 (dCons (dCall F_22 1 (dCons (dNrm (dVar 2)) dNil)) (dCons (dNrm (dVar 2)) dNil))) (dCons (dCall F_23 1 (dCons (dNrm (dVar 2)) dNil)) (dCons (dCall F_24 1 (dCons (dNrm (dVar 2)) dNil)) (dCons (dCall F_19 2 (dCons (dVar 8) (dCons (dNrm (dVar 2)) dNil))) dNil))))))) (dSeq (dIfS (dNotT (dTru (dCall F_33 2 (dCons (dVar 7) (dCons (dLst (dCons (dVar 8) (dCons (dVar 8) (dCons (dBin oEq (dBin oMod (dIx (dNrm (dVarB 2)) (dC (.int 0))) (dC (.int 2))) (dC (.int 0))) (dCons (dBin oSub (dVarB 1) (dM1 isXtP oXCnt (dIx (dVarB 2) (dC (.int 1))) (dC (.int 0)))) (dCons (dNrm (dVar 2)) dNil)))))) dNil))))) (dRet (dC (.bl false))) dNext) (dSeq (dAsg (gS 9) (dCall F_39 2 (dCons (dNrm (dVar 2)) (dCons (dNrm (dVar 2)) dNil)))) (dSeq (dIfS (dNotT (dTru (dCall F_33 2 (dCons (dLst (dCons (dCall F_23 1 (dCons (dNrm (dVar 2)) dNil)) (dCons (dIx (dVarB 9) (dC (.int 1))) dNil))) (dCons (dLst (dCons (dBin oEq (dVarB 9) (dVarB 8)) (dCons (dIx (dVarB 8) (dC (.int 1))) dNil))) dNil))))) (dRet (dC (.bl false))) dNext) (dSeq (dAsg (gT 2 (gsCons (gS 10) (gsCons (gS 11) gsNil))) (dCall F_25 1 (dCons (dNrm (dVar 2)) dNil))) (dSeq (dAsg (gS 12) (dTup (dCons (dBi bTup (dCons (dComp [15, 16] (dItems (dIx (dNrm (dVarB 2)) (dC (.int 1)))) (gS 16) (dC (.bl true)) (dIf (dBin (oIn false) (dVarB 16) (dTup (dCons (dC (.int 1)) (dCons (dC (.int 3)) dNil)))) (dC (.int 1)) (dC (.int 0)))) dNil)) (dCons (dBi bTup (dCons (dComp [15, 16] (dItems (dIx (dNrm (dVarB 2)) (dC (.int 1)))) (gS 16) (dC (.bl true)) (dIf (dBin (oIn false) (dVarB 16) (dTup (dCons (dC (.int 2)) (dCons (dC (.int 3)) dNil)))) (dC (.int 1)) (dC (.int 0)))) dNil)) dNil)))) (dSeq (dIfS (dNotT (dTru (dCall F_33 2 (dCons (dLst (dCons (dTup (dCons (dVar 10) (dCons (dVar 11) dNil))) (dCons (dCall F_26 2 (dCons (dVar 10) (dCons (dVar 11) dNil))) dNil))) (dCons (dLst (dCons (dVar 12) (dCons (dTup (dCons (dC (.int 0)) (dCons (dIx (dNrm (dVarB 2)) (dC (.int 1))) dNil))) dNil))) dNil))))) (dRet (dC (.bl false))) dNext) (dSeq (dIfS (dBin oGt (dVarB 1) (dC (.int 6))) (dRet (dC (.bl true))) dNext) (dSeq (dAsg (gS 13) (dCall F_27 2 (dCons (dNrm (dVar 2)) (dCons (dNrm (dVar 3)) dNil)))) (dSeq (dAsg (gS 14) (dCall F_27 2 (dCons (dNrm (dVar 4)) (dCons (dNrm (dVar 2)) dNil)))) (dSeq (dAsg (gS 7) (dLst (dCons (dVar 13) (dCons (dCall F_19 2 (dCons (dVar 13) (dCons (dVar 14) dNil))) (dCons (dCall F_24 1 (dCons (dVar 13) dNil)) dNil))))) (dSeq (dAsg (gS 12) (dLst (dCons (dTup (dCons (dBin oMod (dBi bInt (dCons (dBin oAdd (dIx (dNrm (dVarB 2)) (dC (.int 0))) (dIx (dNrm (dVarB 3)) (dC (.int 0)))) dNil)) (dC (.int 4))) (dCons (dBin oAdd (dIx (dNrm (dVarB 2)) (dC (.int 1))) (dIx (dNrm (dVarB 3)) (dC (.int 1)))) dNil))) (dCons (dCall F_27 2 (dCons (dCall F_19 2 (dCons (dNrm (dVar 2)) (dCons (dNrm (dVar 4)) dNil))) (dCons (dCall F_19 2 (dCons (dNrm (dVar 3)) (dCons (dNrm (dVar 2)) dNil))) dNil))) (dCons (dBin oAdd (dCall F_24 1 (dCons (dNrm (dVar 2)) dNil)) (dCall F_24 1 (dCons (dNrm (dVar 3)) dNil))) dNil))))) (dRet (dCall F_33 2 (dCons (dVar 7) (dCons (dVar 12) dNil)))))))))))))))))))))))
theorem n_40 : s_40 = b_40 := by kernel_rfl
def b_41 : Sd := (dSeq (dPar [(1, false), (2, false), (3, false)] (dCons (dBin oAdd (dC (.int 1)) (dCall F_30 2 (dCons (dVar 0) (dCons (dC (.int 12)) dNil)))) (dCons (dBin oAdd (dC (.int 1)) (dCall F_30 2 (dCons (dVar 0) (dCons (dC (.int 200)) dNil)))) (dCons (dBin oAdd (dC (.int 1)) (dCall F_30 2 (dCons (dVar 0) (dCons (dC (.int 100)) dNil)))) dNil)))) (dSeq (dPar [(4, false), (5, false), (6, false)] (dCons (dTup (dCons (dC (.int 0)) (dCons (dBin oMul (dTup (dCons (dC (.int 1)) dNil)) (dVarB 1)) dNil))) (dCons (dTup (dCons (dC (.int 0)) (dCons (dBin oMul (dTup (dCons (dC (.int 2)) dNil)) (dVarB 1)) dNil))) (dCons (dTup (dCons (dC (.int 0)) (dCons (dBin oMul (dTup (dCons (dC (.int 0)) dNil)) (dVarB 1)) dNil))) dNil)))) (dSeq (dAsg (gS 7) (dLst (dCons (dCall F_21 1 (dCons (dBin oMul (dTup (dCons (dVar 4) dNil)) (dVarB 2)) dNil)) (dCons (dIx (dCall F_21 1 (dCons (dBin oMul (dTup (dCons (dVar 5) (dCons (dVar 4) dNil))) (dVarB 3)) dNil)) (dC (.int 1))) (dCons (dCall F_20 2 (dCons (dVar 4) (dCons (dVar 5) dNil))) dNil))))) (dSeq (dAsg (gS 8) (dIf (dBin oEq (dBin oMod (dVarB 2) (dC (.int 2))) (dC (.int 0))) (dIx (dVarB 6) (dC (.int 1))) (dIx (dVarB 4) (dC (.int 1))))) (dSeq (dIfS (dNotT (dTru (dCall F_33 2 (dCons (dVar 7) (dCons (dLst (dCons (dTup (dCons (dC (.int 0)) (dCons (dVar 8) dNil))) (dCons (dIf (dBin oEq (dBin oMod (dVarB 3) (dC (.int 2))) (dC (.int 0))) (dIx (dVarB 6) (dC (.int 1))) (dBin oMul (dTup (dCons (dC (.int 3)) dNil)) (dVarB 1))) (dCons (dBin oEq (dBin oMod (dVarB 1) (dC (.int 2))) (dC (.int 0))) dNil)))) dNil))))) (dRet (dC (.bl false))) dNext) (dRet (dCall F_33 2 (dCons (dLst (dCons (dCall F_19 2 (dCons (dVar 5) (dCons (dVar 4) dNil))) (dCons (dCall F_19 2 (dCons (dVar 4) (dCons (dVar 5) dNil))) dNil))) (dCons (dLst (dCons (dTup (dCons (dBin oMod (dVarB 1) (dC (.int 4))) (dCons (dBin oMul (dTup (dCons (dC (.int 3)) dNil)) (dVarB 1)) dNil))) (dCons (dTup (dCons (dBin oMod (dBin oMul (dC (.int 3)) (dVarB 1)) (dC (.int 4))) (dCons (dBin oMul (dTup (dCons (dC (.int 3)) dNil)) (dVarB 1)) dNil))) dNil))) dNil)))))))))
theorem n_41 : s_41 = b_41 := by kernel_rfl
end K00
set_option maxHeartbeats 400000
namespace K00
open PySem PySem.Spec PyProof.Rows L2 RX
/-- the four letters -/
inductive L4 where
  | i | x | z | y
def li : L4 → Int
  | .i => 0
  | .x => 1
  | .z => 2
  | .y => 3
def lv (l : L4) : PV := .int (li l)
abbrev lp (ls : List L4) : PV := .tup (ls.map lv)
/-- a signed word -/
abbrev W (t : L4) (ls : List L4) : PV := .tup [lv t, lp ls]
theorem f_whole (l : L4) (c : Cup) : F_6 [lv l, .int 0, .int 3] c = .ok (.bl true) c := by
  cases l <;> kernel_rfl
theorem f_tuple {xs : List PV} {a b : Int} (c : Cup) (h1 : a ≤ (xs.length : Int)) (h2 : (xs.length : Int) ≤ b) : F_7 [.tup xs, .int a, .int b] c = .ok (.bl true) c := by
  have e1 : oLe (.int a) (.int (xs.length : Nat)) = some (.bl true) := congrArg (fun t => some (PV.bl t)) (decide_eq_true h1)
  have e2 : oLe (.int (xs.length : Nat)) (.int b) = some (.bl true) := congrArg (fun t => some (PV.bl t)) (decide_eq_true h2)
  have e3 : bIsi [.tup xs, .ty 3] = some (.bl true) := rfl
  unfold F_7
  rw [n_7]
  unfold b_7
  simp (config := { implicitDefEqProofs := false }) only [run_ap, List.map_cons, List.map_nil, List.replicate, List.cons_append, List.nil_append, bO_ok, bO_exc, sO_nx, sO_rt, sO_ex, oR_some, toS_ok, toS_exc, fin_nx, fin_rt, fin_ex, dSeq_ap, dNext_ap, dIfS_ap, kIfS_t, kIfS_f, dAsg_ap, dRet_ap, dDrop_ap, dRaise_ap, dBin_ap, dChain_ap, kCh_t, kCh_f, dUn_ap, dVar_ap, dVarB_ap, slV_va, slB_va, dC_ap, dNrm_ap, dNil_ap, dCons_ap, consT_ap, dTup_ap, dLst_ap, dBi_ap, tupO_ap, dCall_ap, dIx_ap, fnE_0, fnE_1, fnE_2, fnE_3, fnE_4, fnE_5, kIx_tup, kIx_lst, dIf_ap, kIf_t, kIf_f, dNotT_ap, kNot_ap, dNotV_ap, kNotV_ap, dTru_ap, kTru_bl, dAndT_ap, kAnd_t, kAnd_f, dOrT_ap, kOr_t, kOr_f, dAndV_ap, kAndV_t, kAndV_f, dOrV_ap, kOrV_t, kOrV_f, dItems_ap, dZip_ap, dComp_ap, dFor_ap, dM1_ap, kM1_xt, dAsgT2_ap, kT2_ap, dRng1_ap, dPar2_ap, dPar3_ap, kP2_ap, kP3_ap, dCut_ap, dPart_ap, kPart_i, bLen_tup, bLen_lst, frzA_nil, frzA_cons, frzS_no, frzS_va, ixF_0, ixF_1, Bool.not_true, Bool.not_false, getS_0, getS_1, getS_2, getS_3, getS_4, getS_5, getS_6, getS_7, getS_8, getS_9, getS_10, getS_11, getS_12, getS_13, getS_14, getS_15, getS_16, getS_17, getS_18, getS_19, getS_20, getS_21, set_0, set_1, set_2, set_3, set_4, set_5, set_6, set_7, set_8, set_9, set_10, set_11, set_12, set_13, set_14, set_15, set_16, set_17, set_18, set_19, set_20, set_21, mkT_0, mkT_1, mkT_2, mkT_3, mkT_4, mkT_5, mkT_6, mkT_7, mkT_8, mkT_9, mkT_10, mkT_11, mkT_12, mkL_0, mkL_1, mkL_2, mkL_3, mkL_4, mkL_5, mkL_6, mkL_7, mkL_8, mkL_9, mkL_10, mkL_11, mkL_12, e1, e2, e3]
theorem f_word {t : L4} {ls : List L4} (c : Cup) (h : ls.length ≤ 12) : F_13 [W t ls, .int (ls.length : Nat)] c = .ok (.bl true) c := by
  unfold F_13
  rw [n_13]
  unfold b_13
  have e1 : F_7 [W t ls, .int 2, .int 2] c = .ok (.bl true) c := f_tuple c (by show (2 : Int) ≤ 2; decide) (by show (2 : Int) ≤ 2; decide)
  have e2 : F_7 [lp ls, .int (ls.length : Nat), .int (ls.length : Nat)] c = .ok (.bl true) c := f_tuple c (by simp) (by simp)
  have e3 : lenOk (ls.map lv) = true := lenOk_of (by simp; omega)
  simp (config := { implicitDefEqProofs := false }) only [run_ap, List.map_cons, List.map_nil, List.replicate, List.cons_append, List.nil_append, bO_ok, bO_exc, sO_nx, sO_rt, sO_ex, oR_some, toS_ok, toS_exc, fin_nx, fin_rt, fin_ex, dSeq_ap, dNext_ap, dIfS_ap, kIfS_t, kIfS_f, dAsg_ap, dRet_ap, dDrop_ap, dRaise_ap, dBin_ap, dChain_ap, kCh_t, kCh_f, dUn_ap, dVar_ap, dVarB_ap, slV_va, slB_va, dC_ap, dNrm_ap, dNil_ap, dCons_ap, consT_ap, dTup_ap, dLst_ap, dBi_ap, tupO_ap, dCall_ap, dIx_ap, fnE_0, fnE_1, fnE_2, fnE_3, fnE_4, fnE_5, kIx_tup, kIx_lst, dIf_ap, kIf_t, kIf_f, dNotT_ap, kNot_ap, dNotV_ap, kNotV_ap, dTru_ap, kTru_bl, dAndT_ap, kAnd_t, kAnd_f, dOrT_ap, kOr_t, kOr_f, dAndV_ap, kAndV_t, kAndV_f, dOrV_ap, kOrV_t, kOrV_f, dItems_ap, dZip_ap, dComp_ap, dFor_ap, dM1_ap, kM1_xt, dAsgT2_ap, kT2_ap, dRng1_ap, dPar2_ap, dPar3_ap, kP2_ap, kP3_ap, dCut_ap, dPart_ap, kPart_i, bLen_tup, bLen_lst, frzA_nil, frzA_cons, frzS_no, frzS_va, ixF_0, ixF_1, Bool.not_true, Bool.not_false, getS_0, getS_1, getS_2, getS_3, getS_4, getS_5, getS_6, getS_7, getS_8, getS_9, getS_10, getS_11, getS_12, getS_13, getS_14, getS_15, getS_16, getS_17, getS_18, getS_19, getS_20, getS_21, set_0, set_1, set_2, set_3, set_4, set_5, set_6, set_7, set_8, set_9, set_10, set_11, set_12, set_13, set_14, set_15, set_16, set_17, set_18, set_19, set_20, set_21, mkT_0, mkT_1, mkT_2, mkT_3, mkT_4, mkT_5, mkT_6, mkT_7, mkT_8, mkT_9, mkT_10, mkT_11, mkT_12, mkL_0, mkL_1, mkL_2, mkL_3, mkL_4, mkL_5, mkL_6, mkL_7, mkL_8, mkL_9, mkL_10, mkL_11, mkL_12, e1, e2, f_whole, kItems_tup e3]
  rw [walk_map (ff := fun _ => PV.bl true) rfl (by omega) (fun l acc => by cases l <;> kernel_rfl)]
  simp (config := { implicitDefEqProofs := false }) only [run_ap, List.map_cons, List.map_nil, List.replicate, List.cons_append, List.nil_append, bO_ok, bO_exc, sO_nx, sO_rt, sO_ex, oR_some, toS_ok, toS_exc, fin_nx, fin_rt, fin_ex, dSeq_ap, dNext_ap, dIfS_ap, kIfS_t, kIfS_f, dAsg_ap, dRet_ap, dDrop_ap, dRaise_ap, dBin_ap, dChain_ap, kCh_t, kCh_f, dUn_ap, dVar_ap, dVarB_ap, slV_va, slB_va, dC_ap, dNrm_ap, dNil_ap, dCons_ap, consT_ap, dTup_ap, dLst_ap, dBi_ap, tupO_ap, dCall_ap, dIx_ap, fnE_0, fnE_1, fnE_2, fnE_3, fnE_4, fnE_5, kIx_tup, kIx_lst, dIf_ap, kIf_t, kIf_f, dNotT_ap, kNot_ap, dNotV_ap, kNotV_ap, dTru_ap, kTru_bl, dAndT_ap, kAnd_t, kAnd_f, dOrT_ap, kOr_t, kOr_f, dAndV_ap, kAndV_t, kAndV_f, dOrV_ap, kOrV_t, kOrV_f, dItems_ap, dZip_ap, dComp_ap, dFor_ap, dM1_ap, kM1_xt, dAsgT2_ap, kT2_ap, dRng1_ap, dPar2_ap, dPar3_ap, kP2_ap, kP3_ap, dCut_ap, dPart_ap, kPart_i, bLen_tup, bLen_lst, frzA_nil, frzA_cons, frzS_no, frzS_va, ixF_0, ixF_1, Bool.not_true, Bool.not_false, getS_0, getS_1, getS_2, getS_3, getS_4, getS_5, getS_6, getS_7, getS_8, getS_9, getS_10, getS_11, getS_12, getS_13, getS_14, getS_15, getS_16, getS_17, getS_18, getS_19, getS_20, getS_21, set_0, set_1, set_2, set_3, set_4, set_5, set_6, set_7, set_8, set_9, set_10, set_11, set_12, set_13, set_14, set_15, set_16, set_17, set_18, set_19, set_20, set_21, mkT_0, mkT_1, mkT_2, mkT_3, mkT_4, mkT_5, mkT_6, mkT_7, mkT_8, mkT_9, mkT_10, mkT_11, mkT_12, mkL_0, mkL_1, mkL_2, mkL_3, mkL_4, mkL_5, mkL_6, mkL_7, mkL_8, mkL_9, mkL_10, mkL_11, mkL_12, all_true]
theorem f_isword {t : L4} {ls : List L4} (c : Cup) (h : ls.length ≤ 12) (h1 : 1 ≤ ls.length) : F_14 [W t ls] c = .ok (.bl true) c := by
  unfold F_14
  rw [n_14]
  unfold b_14 c_PLACES
  have e1 : F_7 [W t ls, .int 2, .int 2] c = .ok (.bl true) c := f_tuple c (by show (2 : Int) ≤ 2; decide) (by show (2 : Int) ≤ 2; decide)
  have e2 : F_7 [lp ls, .int 1, .int 12] c = .ok (.bl true) c := f_tuple c (by simp; omega) (by simp; omega)
  simp (config := { implicitDefEqProofs := false }) only [run_ap, List.map_cons, List.map_nil, List.replicate, List.cons_append, List.nil_append, bO_ok, bO_exc, sO_nx, sO_rt, sO_ex, oR_some, toS_ok, toS_exc, fin_nx, fin_rt, fin_ex, dSeq_ap, dNext_ap, dIfS_ap, kIfS_t, kIfS_f, dAsg_ap, dRet_ap, dDrop_ap, dRaise_ap, dBin_ap, dChain_ap, kCh_t, kCh_f, dUn_ap, dVar_ap, dVarB_ap, slV_va, slB_va, dC_ap, dNrm_ap, dNil_ap, dCons_ap, consT_ap, dTup_ap, dLst_ap, dBi_ap, tupO_ap, dCall_ap, dIx_ap, fnE_0, fnE_1, fnE_2, fnE_3, fnE_4, fnE_5, kIx_tup, kIx_lst, dIf_ap, kIf_t, kIf_f, dNotT_ap, kNot_ap, dNotV_ap, kNotV_ap, dTru_ap, kTru_bl, dAndT_ap, kAnd_t, kAnd_f, dOrT_ap, kOr_t, kOr_f, dAndV_ap, kAndV_t, kAndV_f, dOrV_ap, kOrV_t, kOrV_f, dItems_ap, dZip_ap, dComp_ap, dFor_ap, dM1_ap, kM1_xt, dAsgT2_ap, kT2_ap, dRng1_ap, dPar2_ap, dPar3_ap, kP2_ap, kP3_ap, dCut_ap, dPart_ap, kPart_i, bLen_tup, bLen_lst, frzA_nil, frzA_cons, frzS_no, frzS_va, ixF_0, ixF_1, Bool.not_true, Bool.not_false, getS_0, getS_1, getS_2, getS_3, getS_4, getS_5, getS_6, getS_7, getS_8, getS_9, getS_10, getS_11, getS_12, getS_13, getS_14, getS_15, getS_16, getS_17, getS_18, getS_19, getS_20, getS_21, set_0, set_1, set_2, set_3, set_4, set_5, set_6, set_7, set_8, set_9, set_10, set_11, set_12, set_13, set_14, set_15, set_16, set_17, set_18, set_19, set_20, set_21, mkT_0, mkT_1, mkT_2, mkT_3, mkT_4, mkT_5, mkT_6, mkT_7, mkT_8, mkT_9, mkT_10, mkT_11, mkT_12, mkL_0, mkL_1, mkL_2, mkL_3, mkL_4, mkL_5, mkL_6, mkL_7, mkL_8, mkL_9, mkL_10, mkL_11, mkL_12, e1, e2, List.length_map, f_word c h]
theorem f_needword {t : L4} {ls : List L4} (c : Cup) (h : ls.length ≤ 12) (h1 : 1 ≤ ls.length) : F_15 [W t ls] c = .ok .non c := by
  unfold F_15
  rw [n_15]
  unfold b_15
  simp (config := { implicitDefEqProofs := false }) only [run_ap, List.map_cons, List.map_nil, List.replicate, List.cons_append, List.nil_append, bO_ok, bO_exc, sO_nx, sO_rt, sO_ex, oR_some, toS_ok, toS_exc, fin_nx, fin_rt, fin_ex, dSeq_ap, dNext_ap, dIfS_ap, kIfS_t, kIfS_f, dAsg_ap, dRet_ap, dDrop_ap, dRaise_ap, dBin_ap, dChain_ap, kCh_t, kCh_f, dUn_ap, dVar_ap, dVarB_ap, slV_va, slB_va, dC_ap, dNrm_ap, dNil_ap, dCons_ap, consT_ap, dTup_ap, dLst_ap, dBi_ap, tupO_ap, dCall_ap, dIx_ap, fnE_0, fnE_1, fnE_2, fnE_3, fnE_4, fnE_5, kIx_tup, kIx_lst, dIf_ap, kIf_t, kIf_f, dNotT_ap, kNot_ap, dNotV_ap, kNotV_ap, dTru_ap, kTru_bl, dAndT_ap, kAnd_t, kAnd_f, dOrT_ap, kOr_t, kOr_f, dAndV_ap, kAndV_t, kAndV_f, dOrV_ap, kOrV_t, kOrV_f, dItems_ap, dZip_ap, dComp_ap, dFor_ap, dM1_ap, kM1_xt, dAsgT2_ap, kT2_ap, dRng1_ap, dPar2_ap, dPar3_ap, kP2_ap, kP3_ap, dCut_ap, dPart_ap, kPart_i, bLen_tup, bLen_lst, frzA_nil, frzA_cons, frzS_no, frzS_va, ixF_0, ixF_1, Bool.not_true, Bool.not_false, getS_0, getS_1, getS_2, getS_3, getS_4, getS_5, getS_6, getS_7, getS_8, getS_9, getS_10, getS_11, getS_12, getS_13, getS_14, getS_15, getS_16, getS_17, getS_18, getS_19, getS_20, getS_21, set_0, set_1, set_2, set_3, set_4, set_5, set_6, set_7, set_8, set_9, set_10, set_11, set_12, set_13, set_14, set_15, set_16, set_17, set_18, set_19, set_20, set_21, mkT_0, mkT_1, mkT_2, mkT_3, mkT_4, mkT_5, mkT_6, mkT_7, mkT_8, mkT_9, mkT_10, mkT_11, mkT_12, mkL_0, mkL_1, mkL_2, mkL_3, mkL_4, mkL_5, mkL_6, mkL_7, mkL_8, mkL_9, mkL_10, mkL_11, mkL_12, f_isword c h h1]
theorem f_needmate {t t2 : L4} {ls l2 : List L4} (c : Cup) (h : l2.length ≤ 12) (h1 : ls.length = l2.length) : F_16 [W t ls, W t2 l2] c = .ok .non c := by
  unfold F_16
  rw [n_16]
  unfold b_16
  simp (config := { implicitDefEqProofs := false }) only [run_ap, List.map_cons, List.map_nil, List.replicate, List.cons_append, List.nil_append, bO_ok, bO_exc, sO_nx, sO_rt, sO_ex, oR_some, toS_ok, toS_exc, fin_nx, fin_rt, fin_ex, dSeq_ap, dNext_ap, dIfS_ap, kIfS_t, kIfS_f, dAsg_ap, dRet_ap, dDrop_ap, dRaise_ap, dBin_ap, dChain_ap, kCh_t, kCh_f, dUn_ap, dVar_ap, dVarB_ap, slV_va, slB_va, dC_ap, dNrm_ap, dNil_ap, dCons_ap, consT_ap, dTup_ap, dLst_ap, dBi_ap, tupO_ap, dCall_ap, dIx_ap, fnE_0, fnE_1, fnE_2, fnE_3, fnE_4, fnE_5, kIx_tup, kIx_lst, dIf_ap, kIf_t, kIf_f, dNotT_ap, kNot_ap, dNotV_ap, kNotV_ap, dTru_ap, kTru_bl, dAndT_ap, kAnd_t, kAnd_f, dOrT_ap, kOr_t, kOr_f, dAndV_ap, kAndV_t, kAndV_f, dOrV_ap, kOrV_t, kOrV_f, dItems_ap, dZip_ap, dComp_ap, dFor_ap, dM1_ap, kM1_xt, dAsgT2_ap, kT2_ap, dRng1_ap, dPar2_ap, dPar3_ap, kP2_ap, kP3_ap, dCut_ap, dPart_ap, kPart_i, bLen_tup, bLen_lst, frzA_nil, frzA_cons, frzS_no, frzS_va, ixF_0, ixF_1, Bool.not_true, Bool.not_false, getS_0, getS_1, getS_2, getS_3, getS_4, getS_5, getS_6, getS_7, getS_8, getS_9, getS_10, getS_11, getS_12, getS_13, getS_14, getS_15, getS_16, getS_17, getS_18, getS_19, getS_20, getS_21, set_0, set_1, set_2, set_3, set_4, set_5, set_6, set_7, set_8, set_9, set_10, set_11, set_12, set_13, set_14, set_15, set_16, set_17, set_18, set_19, set_20, set_21, mkT_0, mkT_1, mkT_2, mkT_3, mkT_4, mkT_5, mkT_6, mkT_7, mkT_8, mkT_9, mkT_10, mkT_11, mkT_12, mkL_0, mkL_1, mkL_2, mkL_3, mkL_4, mkL_5, mkL_6, mkL_7, mkL_8, mkL_9, mkL_10, mkL_11, mkL_12, List.length_map, h1, f_word c h]
/-! ### products -/
def tn : L4 → L4 → Int
  | .x, .z => 3
  | .x, .y => 1
  | .z, .x => 1
  | .z, .y => 3
  | .y, .x => 3
  | .y, .z => 1
  | _, _ => 0
def ml : L4 → L4 → L4
  | .i, b => b
  | a, .i => a
  | .x, .x => .i
  | .z, .z => .i
  | .y, .y => .i
  | .x, .z => .y
  | .z, .x => .y
  | .x, .y => .z
  | .y, .x => .z
  | .z, .y => .x
  | .y, .z => .x
def m4 (n : Int) : L4 := if n % 4 = 0 then .i else if n % 4 = 1 then .x else if n % 4 = 2 then .z else .y
theorem li_m4 (n : Int) : li (m4 n) = n % 4 := by
  unfold m4
  split
  · rename_i h; rw [h]; rfl
  · split
    · rename_i h; rw [h]; rfl
    · split
      · rename_i h; rw [h]; rfl
      · show (3 : Int) = n % 4
        omega
theorem mod4 (n : Int) : oMod (.int n) (.int 4) = some (lv (m4 n)) := by
  show some (PV.int (n % 4)) = some (PV.int (li (m4 n)))
  rw [li_m4]
def sm (l1 l2 : List L4) : Int := ((l1.zip l2).map fun p => tn p.1 p.2).sum
def mm (l1 l2 : List L4) : List L4 := (l1.zip l2).map fun p => ml p.1 p.2
theorem sum_go {α : Type} {f : α → Int} : ∀ {l : List α} {s : Int}, sumI (l.map fun a => PV.int (f a)) s = some (s + (l.map f).sum)
  | [], s => by simp [sumI]
  | a :: r, s => by
    show sumI (r.map fun a => PV.int (f a)) (s + f a) = _
    rw [sum_go (l := r)]
    simp [Int.add_assoc]
theorem b_sum {α : Type} {f : α → Int} {l : List α} : bSum [.lst (l.map fun a => PV.int (f a))] = some (.int (l.map f).sum) := by
  show (sumI (l.map fun a => PV.int (f a)) 0).map PV.int = _
  rw [sum_go, Int.zero_add]
  rfl
theorem b_tup {xs : List PV} : bTup [.lst xs] = some (.tup xs) := rfl
theorem add_i {i j : Int} : oAdd (.int i) (.int j) = some (.int (i + j)) := rfl
theorem add_lv {a b : L4} : oAdd (lv a) (lv b) = some (.int (li a + li b)) := rfl
theorem times_ok {t t2 : L4} {ls l2 : List L4} (c : Cup) (h : ls.length ≤ 12) : F_17 [W t ls, W t2 l2] c = .ok (W (m4 (li t + li t2 + sm ls l2)) (mm ls l2)) c := by
  unfold F_17
  rw [n_17]
  unfold b_17
  simp (config := { implicitDefEqProofs := false }) only [run_ap, List.map_cons, List.map_nil, List.replicate, List.cons_append, List.nil_append, bO_ok, bO_exc, sO_nx, sO_rt, sO_ex, oR_some, toS_ok, toS_exc, fin_nx, fin_rt, fin_ex, dSeq_ap, dNext_ap, dIfS_ap, kIfS_t, kIfS_f, dAsg_ap, dRet_ap, dDrop_ap, dRaise_ap, dBin_ap, dChain_ap, kCh_t, kCh_f, dUn_ap, dVar_ap, dVarB_ap, slV_va, slB_va, dC_ap, dNrm_ap, dNil_ap, dCons_ap, consT_ap, dTup_ap, dLst_ap, dBi_ap, tupO_ap, dCall_ap, dIx_ap, fnE_0, fnE_1, fnE_2, fnE_3, fnE_4, fnE_5, kIx_tup, kIx_lst, dIf_ap, kIf_t, kIf_f, dNotT_ap, kNot_ap, dNotV_ap, kNotV_ap, dTru_ap, kTru_bl, dAndT_ap, kAnd_t, kAnd_f, dOrT_ap, kOr_t, kOr_f, dAndV_ap, kAndV_t, kAndV_f, dOrV_ap, kOrV_t, kOrV_f, dItems_ap, dZip_ap, dComp_ap, dFor_ap, dM1_ap, kM1_xt, dAsgT2_ap, kT2_ap, dRng1_ap, dPar2_ap, dPar3_ap, kP2_ap, kP3_ap, dCut_ap, dPart_ap, kPart_i, bLen_tup, bLen_lst, frzA_nil, frzA_cons, frzS_no, frzS_va, ixF_0, ixF_1, Bool.not_true, Bool.not_false, getS_0, getS_1, getS_2, getS_3, getS_4, getS_5, getS_6, getS_7, getS_8, getS_9, getS_10, getS_11, getS_12, getS_13, getS_14, getS_15, getS_16, getS_17, getS_18, getS_19, getS_20, getS_21, set_0, set_1, set_2, set_3, set_4, set_5, set_6, set_7, set_8, set_9, set_10, set_11, set_12, set_13, set_14, set_15, set_16, set_17, set_18, set_19, set_20, set_21, mkT_0, mkT_1, mkT_2, mkT_3, mkT_4, mkT_5, mkT_6, mkT_7, mkT_8, mkT_9, mkT_10, mkT_11, mkT_12, mkL_0, mkL_1, mkL_2, mkL_3, mkL_4, mkL_5, mkL_6, mkL_7, mkL_8, mkL_9, mkL_10, mkL_11, mkL_12, add_lv, zip_walk (show ls.length ≤ 1000 by omega)]
  rw [walk_map (ff := fun p : L4 × L4 => PV.int (tn p.1 p.2)) rfl (by rw [List.length_zip]; omega) (fun l acc => by obtain ⟨a, b⟩ := l; cases a <;> cases b <;> kernel_rfl)]
  simp (config := { implicitDefEqProofs := false }) only [run_ap, List.map_cons, List.map_nil, List.replicate, List.cons_append, List.nil_append, bO_ok, bO_exc, sO_nx, sO_rt, sO_ex, oR_some, toS_ok, toS_exc, fin_nx, fin_rt, fin_ex, dSeq_ap, dNext_ap, dIfS_ap, kIfS_t, kIfS_f, dAsg_ap, dRet_ap, dDrop_ap, dRaise_ap, dBin_ap, dChain_ap, kCh_t, kCh_f, dUn_ap, dVar_ap, dVarB_ap, slV_va, slB_va, dC_ap, dNrm_ap, dNil_ap, dCons_ap, consT_ap, dTup_ap, dLst_ap, dBi_ap, tupO_ap, dCall_ap, dIx_ap, fnE_0, fnE_1, fnE_2, fnE_3, fnE_4, fnE_5, kIx_tup, kIx_lst, dIf_ap, kIf_t, kIf_f, dNotT_ap, kNot_ap, dNotV_ap, kNotV_ap, dTru_ap, kTru_bl, dAndT_ap, kAnd_t, kAnd_f, dOrT_ap, kOr_t, kOr_f, dAndV_ap, kAndV_t, kAndV_f, dOrV_ap, kOrV_t, kOrV_f, dItems_ap, dZip_ap, dComp_ap, dFor_ap, dM1_ap, kM1_xt, dAsgT2_ap, kT2_ap, dRng1_ap, dPar2_ap, dPar3_ap, kP2_ap, kP3_ap, dCut_ap, dPart_ap, kPart_i, bLen_tup, bLen_lst, frzA_nil, frzA_cons, frzS_no, frzS_va, ixF_0, ixF_1, Bool.not_true, Bool.not_false, getS_0, getS_1, getS_2, getS_3, getS_4, getS_5, getS_6, getS_7, getS_8, getS_9, getS_10, getS_11, getS_12, getS_13, getS_14, getS_15, getS_16, getS_17, getS_18, getS_19, getS_20, getS_21, set_0, set_1, set_2, set_3, set_4, set_5, set_6, set_7, set_8, set_9, set_10, set_11, set_12, set_13, set_14, set_15, set_16, set_17, set_18, set_19, set_20, set_21, mkT_0, mkT_1, mkT_2, mkT_3, mkT_4, mkT_5, mkT_6, mkT_7, mkT_8, mkT_9, mkT_10, mkT_11, mkT_12, mkL_0, mkL_1, mkL_2, mkL_3, mkL_4, mkL_5, mkL_6, mkL_7, mkL_8, mkL_9, mkL_10, mkL_11, mkL_12, b_sum, add_i, mod4, zip_walk (show ls.length ≤ 1000 by omega)]
  rw [walk_map (ff := fun p : L4 × L4 => lv (ml p.1 p.2)) rfl (by rw [List.length_zip]; omega) (fun l acc => by obtain ⟨a, b⟩ := l; cases a <;> cases b <;> kernel_rfl)]
  have q : (ls.zip l2).map (fun p => lv (ml p.1 p.2)) = (mm ls l2).map lv := by
    unfold mm
    rw [List.map_map]
    rfl
  simp (config := { implicitDefEqProofs := false }) only [run_ap, List.map_cons, List.map_nil, List.replicate, List.cons_append, List.nil_append, bO_ok, bO_exc, sO_nx, sO_rt, sO_ex, oR_some, toS_ok, toS_exc, fin_nx, fin_rt, fin_ex, dSeq_ap, dNext_ap, dIfS_ap, kIfS_t, kIfS_f, dAsg_ap, dRet_ap, dDrop_ap, dRaise_ap, dBin_ap, dChain_ap, kCh_t, kCh_f, dUn_ap, dVar_ap, dVarB_ap, slV_va, slB_va, dC_ap, dNrm_ap, dNil_ap, dCons_ap, consT_ap, dTup_ap, dLst_ap, dBi_ap, tupO_ap, dCall_ap, dIx_ap, fnE_0, fnE_1, fnE_2, fnE_3, fnE_4, fnE_5, kIx_tup, kIx_lst, dIf_ap, kIf_t, kIf_f, dNotT_ap, kNot_ap, dNotV_ap, kNotV_ap, dTru_ap, kTru_bl, dAndT_ap, kAnd_t, kAnd_f, dOrT_ap, kOr_t, kOr_f, dAndV_ap, kAndV_t, kAndV_f, dOrV_ap, kOrV_t, kOrV_f, dItems_ap, dZip_ap, dComp_ap, dFor_ap, dM1_ap, kM1_xt, dAsgT2_ap, kT2_ap, dRng1_ap, dPar2_ap, dPar3_ap, kP2_ap, kP3_ap, dCut_ap, dPart_ap, kPart_i, bLen_tup, bLen_lst, frzA_nil, frzA_cons, frzS_no, frzS_va, ixF_0, ixF_1, Bool.not_true, Bool.not_false, getS_0, getS_1, getS_2, getS_3, getS_4, getS_5, getS_6, getS_7, getS_8, getS_9, getS_10, getS_11, getS_12, getS_13, getS_14, getS_15, getS_16, getS_17, getS_18, getS_19, getS_20, getS_21, set_0, set_1, set_2, set_3, set_4, set_5, set_6, set_7, set_8, set_9, set_10, set_11, set_12, set_13, set_14, set_15, set_16, set_17, set_18, set_19, set_20, set_21, mkT_0, mkT_1, mkT_2, mkT_3, mkT_4, mkT_5, mkT_6, mkT_7, mkT_8, mkT_9, mkT_10, mkT_11, mkT_12, mkL_0, mkL_1, mkL_2, mkL_3, mkL_4, mkL_5, mkL_6, mkL_7, mkL_8, mkL_9, mkL_10, mkL_11, mkL_12, b_tup]
  rw [q]
  rfl
theorem mod_i {i j : Int} (h : decide (0 < j) = true) : oMod (.int i) (.int j) = some (.int (i % j)) := by
  show (bif decide (0 < j) then some (PV.int (i % j)) else none) = _
  rw [h]
  rfl
theorem eq_i {i j : Int} : oEq (.int i) (.int j) = some (.bl (decide (i = j))) := rfl
def anti (a b : L4) : Bool := match a, b with
  | .i, _ => false
  | _, .i => false
  | .x, .x => false
  | .z, .z => false
  | .y, .y => false
  | _, _ => true
def opp (l1 l2 : List L4) : Nat := ((l1.zip l2).filter fun p => anti p.1 p.2).length
theorem opp_ok {t t2 : L4} {ls l2 : List L4} (c : Cup) (h : ls.length ≤ 12) : F_18 [W t ls, W t2 l2] c = .ok (.bl (decide (((opp ls l2 : Nat) : Int) % 2 = 1))) c := by
  unfold F_18
  rw [n_18]
  unfold b_18
  simp (config := { implicitDefEqProofs := false }) only [run_ap, List.map_cons, List.map_nil, List.replicate, List.cons_append, List.nil_append, bO_ok, bO_exc, sO_nx, sO_rt, sO_ex, oR_some, toS_ok, toS_exc, fin_nx, fin_rt, fin_ex, dSeq_ap, dNext_ap, dIfS_ap, kIfS_t, kIfS_f, dAsg_ap, dRet_ap, dDrop_ap, dRaise_ap, dBin_ap, dChain_ap, kCh_t, kCh_f, dUn_ap, dVar_ap, dVarB_ap, slV_va, slB_va, dC_ap, dNrm_ap, dNil_ap, dCons_ap, consT_ap, dTup_ap, dLst_ap, dBi_ap, tupO_ap, dCall_ap, dIx_ap, fnE_0, fnE_1, fnE_2, fnE_3, fnE_4, fnE_5, kIx_tup, kIx_lst, dIf_ap, kIf_t, kIf_f, dNotT_ap, kNot_ap, dNotV_ap, kNotV_ap, dTru_ap, kTru_bl, dAndT_ap, kAnd_t, kAnd_f, dOrT_ap, kOr_t, kOr_f, dAndV_ap, kAndV_t, kAndV_f, dOrV_ap, kOrV_t, kOrV_f, dItems_ap, dZip_ap, dComp_ap, dFor_ap, dM1_ap, kM1_xt, dAsgT2_ap, kT2_ap, dRng1_ap, dPar2_ap, dPar3_ap, kP2_ap, kP3_ap, dCut_ap, dPart_ap, kPart_i, bLen_tup, bLen_lst, frzA_nil, frzA_cons, frzS_no, frzS_va, ixF_0, ixF_1, Bool.not_true, Bool.not_false, getS_0, getS_1, getS_2, getS_3, getS_4, getS_5, getS_6, getS_7, getS_8, getS_9, getS_10, getS_11, getS_12, getS_13, getS_14, getS_15, getS_16, getS_17, getS_18, getS_19, getS_20, getS_21, set_0, set_1, set_2, set_3, set_4, set_5, set_6, set_7, set_8, set_9, set_10, set_11, set_12, set_13, set_14, set_15, set_16, set_17, set_18, set_19, set_20, set_21, mkT_0, mkT_1, mkT_2, mkT_3, mkT_4, mkT_5, mkT_6, mkT_7, mkT_8, mkT_9, mkT_10, mkT_11, mkT_12, mkL_0, mkL_1, mkL_2, mkL_3, mkL_4, mkL_5, mkL_6, mkL_7, mkL_8, mkL_9, mkL_10, mkL_11, mkL_12, zip_walk (show ls.length ≤ 1000 by omega)]
  rw [walk_fil (p := fun q : L4 × L4 => anti q.1 q.2) (ff := fun _ => PV.int 1) rfl (by rw [List.length_zip]; omega) (fun l acc => by obtain ⟨a, b⟩ := l; cases a <;> cases b <;> kernel_rfl)]
  simp (config := { implicitDefEqProofs := false }) only [run_ap, List.map_cons, List.map_nil, List.replicate, List.cons_append, List.nil_append, bO_ok, bO_exc, sO_nx, sO_rt, sO_ex, oR_some, toS_ok, toS_exc, fin_nx, fin_rt, fin_ex, dSeq_ap, dNext_ap, dIfS_ap, kIfS_t, kIfS_f, dAsg_ap, dRet_ap, dDrop_ap, dRaise_ap, dBin_ap, dChain_ap, kCh_t, kCh_f, dUn_ap, dVar_ap, dVarB_ap, slV_va, slB_va, dC_ap, dNrm_ap, dNil_ap, dCons_ap, consT_ap, dTup_ap, dLst_ap, dBi_ap, tupO_ap, dCall_ap, dIx_ap, fnE_0, fnE_1, fnE_2, fnE_3, fnE_4, fnE_5, kIx_tup, kIx_lst, dIf_ap, kIf_t, kIf_f, dNotT_ap, kNot_ap, dNotV_ap, kNotV_ap, dTru_ap, kTru_bl, dAndT_ap, kAnd_t, kAnd_f, dOrT_ap, kOr_t, kOr_f, dAndV_ap, kAndV_t, kAndV_f, dOrV_ap, kOrV_t, kOrV_f, dItems_ap, dZip_ap, dComp_ap, dFor_ap, dM1_ap, kM1_xt, dAsgT2_ap, kT2_ap, dRng1_ap, dPar2_ap, dPar3_ap, kP2_ap, kP3_ap, dCut_ap, dPart_ap, kPart_i, bLen_tup, bLen_lst, frzA_nil, frzA_cons, frzS_no, frzS_va, ixF_0, ixF_1, Bool.not_true, Bool.not_false, getS_0, getS_1, getS_2, getS_3, getS_4, getS_5, getS_6, getS_7, getS_8, getS_9, getS_10, getS_11, getS_12, getS_13, getS_14, getS_15, getS_16, getS_17, getS_18, getS_19, getS_20, getS_21, set_0, set_1, set_2, set_3, set_4, set_5, set_6, set_7, set_8, set_9, set_10, set_11, set_12, set_13, set_14, set_15, set_16, set_17, set_18, set_19, set_20, set_21, mkT_0, mkT_1, mkT_2, mkT_3, mkT_4, mkT_5, mkT_6, mkT_7, mkT_8, mkT_9, mkT_10, mkT_11, mkT_12, mkL_0, mkL_1, mkL_2, mkL_3, mkL_4, mkL_5, mkL_6, mkL_7, mkL_8, mkL_9, mkL_10, mkL_11, mkL_12, List.length_map, mod_i (show decide ((0 : Int) < 2) = true from rfl), eq_i]
  rfl
theorem product_ok {t t2 : L4} {ls l2 : List L4} (c : Cup) (h : ls.length ≤ 12) (h1 : 1 ≤ ls.length) (h2 : ls.length = l2.length) : F_19 [W t ls, W t2 l2] c = .ok (W (m4 (li t + li t2 + sm ls l2)) (mm ls l2)) c := by
  unfold F_19
  rw [n_19]
  unfold b_19
  simp (config := { implicitDefEqProofs := false }) only [run_ap, List.map_cons, List.map_nil, List.replicate, List.cons_append, List.nil_append, bO_ok, bO_exc, sO_nx, sO_rt, sO_ex, oR_some, toS_ok, toS_exc, fin_nx, fin_rt, fin_ex, dSeq_ap, dNext_ap, dIfS_ap, kIfS_t, kIfS_f, dAsg_ap, dRet_ap, dDrop_ap, dRaise_ap, dBin_ap, dChain_ap, kCh_t, kCh_f, dUn_ap, dVar_ap, dVarB_ap, slV_va, slB_va, dC_ap, dNrm_ap, dNil_ap, dCons_ap, consT_ap, dTup_ap, dLst_ap, dBi_ap, tupO_ap, dCall_ap, dIx_ap, fnE_0, fnE_1, fnE_2, fnE_3, fnE_4, fnE_5, kIx_tup, kIx_lst, dIf_ap, kIf_t, kIf_f, dNotT_ap, kNot_ap, dNotV_ap, kNotV_ap, dTru_ap, kTru_bl, dAndT_ap, kAnd_t, kAnd_f, dOrT_ap, kOr_t, kOr_f, dAndV_ap, kAndV_t, kAndV_f, dOrV_ap, kOrV_t, kOrV_f, dItems_ap, dZip_ap, dComp_ap, dFor_ap, dM1_ap, kM1_xt, dAsgT2_ap, kT2_ap, dRng1_ap, dPar2_ap, dPar3_ap, kP2_ap, kP3_ap, dCut_ap, dPart_ap, kPart_i, bLen_tup, bLen_lst, frzA_nil, frzA_cons, frzS_no, frzS_va, ixF_0, ixF_1, Bool.not_true, Bool.not_false, getS_0, getS_1, getS_2, getS_3, getS_4, getS_5, getS_6, getS_7, getS_8, getS_9, getS_10, getS_11, getS_12, getS_13, getS_14, getS_15, getS_16, getS_17, getS_18, getS_19, getS_20, getS_21, set_0, set_1, set_2, set_3, set_4, set_5, set_6, set_7, set_8, set_9, set_10, set_11, set_12, set_13, set_14, set_15, set_16, set_17, set_18, set_19, set_20, set_21, mkT_0, mkT_1, mkT_2, mkT_3, mkT_4, mkT_5, mkT_6, mkT_7, mkT_8, mkT_9, mkT_10, mkT_11, mkT_12, mkL_0, mkL_1, mkL_2, mkL_3, mkL_4, mkL_5, mkL_6, mkL_7, mkL_8, mkL_9, mkL_10, mkL_11, mkL_12, f_needword c h h1, f_needmate (t := t) c (h2 ▸ h : l2.length ≤ 12) h2, times_ok c h]
theorem agree_ok {t t2 : L4} {ls l2 : List L4} (c : Cup) (h : ls.length ≤ 12) (h1 : 1 ≤ ls.length) (h2 : ls.length = l2.length) : F_20 [W t ls, W t2 l2] c = .ok (.bl (!decide (((opp ls l2 : Nat) : Int) % 2 = 1))) c := by
  unfold F_20
  rw [n_20]
  unfold b_20
  simp (config := { implicitDefEqProofs := false }) only [run_ap, List.map_cons, List.map_nil, List.replicate, List.cons_append, List.nil_append, bO_ok, bO_exc, sO_nx, sO_rt, sO_ex, oR_some, toS_ok, toS_exc, fin_nx, fin_rt, fin_ex, dSeq_ap, dNext_ap, dIfS_ap, kIfS_t, kIfS_f, dAsg_ap, dRet_ap, dDrop_ap, dRaise_ap, dBin_ap, dChain_ap, kCh_t, kCh_f, dUn_ap, dVar_ap, dVarB_ap, slV_va, slB_va, dC_ap, dNrm_ap, dNil_ap, dCons_ap, consT_ap, dTup_ap, dLst_ap, dBi_ap, tupO_ap, dCall_ap, dIx_ap, fnE_0, fnE_1, fnE_2, fnE_3, fnE_4, fnE_5, kIx_tup, kIx_lst, dIf_ap, kIf_t, kIf_f, dNotT_ap, kNot_ap, dNotV_ap, kNotV_ap, dTru_ap, kTru_bl, dAndT_ap, kAnd_t, kAnd_f, dOrT_ap, kOr_t, kOr_f, dAndV_ap, kAndV_t, kAndV_f, dOrV_ap, kOrV_t, kOrV_f, dItems_ap, dZip_ap, dComp_ap, dFor_ap, dM1_ap, kM1_xt, dAsgT2_ap, kT2_ap, dRng1_ap, dPar2_ap, dPar3_ap, kP2_ap, kP3_ap, dCut_ap, dPart_ap, kPart_i, bLen_tup, bLen_lst, frzA_nil, frzA_cons, frzS_no, frzS_va, ixF_0, ixF_1, Bool.not_true, Bool.not_false, getS_0, getS_1, getS_2, getS_3, getS_4, getS_5, getS_6, getS_7, getS_8, getS_9, getS_10, getS_11, getS_12, getS_13, getS_14, getS_15, getS_16, getS_17, getS_18, getS_19, getS_20, getS_21, set_0, set_1, set_2, set_3, set_4, set_5, set_6, set_7, set_8, set_9, set_10, set_11, set_12, set_13, set_14, set_15, set_16, set_17, set_18, set_19, set_20, set_21, mkT_0, mkT_1, mkT_2, mkT_3, mkT_4, mkT_5, mkT_6, mkT_7, mkT_8, mkT_9, mkT_10, mkT_11, mkT_12, mkL_0, mkL_1, mkL_2, mkL_3, mkL_4, mkL_5, mkL_6, mkL_7, mkL_8, mkL_9, mkL_10, mkL_11, mkL_12, f_needword c h h1, f_needmate (t := t) c (h2 ▸ h : l2.length ≤ 12) h2, opp_ok c h]
theorem neg_l {t : L4} : oNeg (lv t) = some (.int (-li t)) := rfl
theorem undone_ok {t : L4} {ls : List L4} (c : Cup) (h : ls.length ≤ 12) (h1 : 1 ≤ ls.length) : F_22 [W t ls] c = .ok (W (m4 (-li t)) ls) c := by
  unfold F_22
  rw [n_22]
  unfold b_22
  simp (config := { implicitDefEqProofs := false }) only [run_ap, List.map_cons, List.map_nil, List.replicate, List.cons_append, List.nil_append, bO_ok, bO_exc, sO_nx, sO_rt, sO_ex, oR_some, toS_ok, toS_exc, fin_nx, fin_rt, fin_ex, dSeq_ap, dNext_ap, dIfS_ap, kIfS_t, kIfS_f, dAsg_ap, dRet_ap, dDrop_ap, dRaise_ap, dBin_ap, dChain_ap, kCh_t, kCh_f, dUn_ap, dVar_ap, dVarB_ap, slV_va, slB_va, dC_ap, dNrm_ap, dNil_ap, dCons_ap, consT_ap, dTup_ap, dLst_ap, dBi_ap, tupO_ap, dCall_ap, dIx_ap, fnE_0, fnE_1, fnE_2, fnE_3, fnE_4, fnE_5, kIx_tup, kIx_lst, dIf_ap, kIf_t, kIf_f, dNotT_ap, kNot_ap, dNotV_ap, kNotV_ap, dTru_ap, kTru_bl, dAndT_ap, kAnd_t, kAnd_f, dOrT_ap, kOr_t, kOr_f, dAndV_ap, kAndV_t, kAndV_f, dOrV_ap, kOrV_t, kOrV_f, dItems_ap, dZip_ap, dComp_ap, dFor_ap, dM1_ap, kM1_xt, dAsgT2_ap, kT2_ap, dRng1_ap, dPar2_ap, dPar3_ap, kP2_ap, kP3_ap, dCut_ap, dPart_ap, kPart_i, bLen_tup, bLen_lst, frzA_nil, frzA_cons, frzS_no, frzS_va, ixF_0, ixF_1, Bool.not_true, Bool.not_false, getS_0, getS_1, getS_2, getS_3, getS_4, getS_5, getS_6, getS_7, getS_8, getS_9, getS_10, getS_11, getS_12, getS_13, getS_14, getS_15, getS_16, getS_17, getS_18, getS_19, getS_20, getS_21, set_0, set_1, set_2, set_3, set_4, set_5, set_6, set_7, set_8, set_9, set_10, set_11, set_12, set_13, set_14, set_15, set_16, set_17, set_18, set_19, set_20, set_21, mkT_0, mkT_1, mkT_2, mkT_3, mkT_4, mkT_5, mkT_6, mkT_7, mkT_8, mkT_9, mkT_10, mkT_11, mkT_12, mkL_0, mkL_1, mkL_2, mkL_3, mkL_4, mkL_5, mkL_6, mkL_7, mkL_8, mkL_9, mkL_10, mkL_11, mkL_12, f_needword c h h1, neg_l, mod4]
theorem straight_ok {t : L4} {ls : List L4} (c : Cup) (h : ls.length ≤ 12) (h1 : 1 ≤ ls.length) : F_23 [W t ls] c = .ok (.bl (decide (li t % 2 = 0))) c := by
  unfold F_23
  rw [n_23]
  unfold b_23
  have e : oMod (lv t) (.int 2) = some (.int (li t % 2)) := mod_i rfl
  simp (config := { implicitDefEqProofs := false }) only [run_ap, List.map_cons, List.map_nil, List.replicate, List.cons_append, List.nil_append, bO_ok, bO_exc, sO_nx, sO_rt, sO_ex, oR_some, toS_ok, toS_exc, fin_nx, fin_rt, fin_ex, dSeq_ap, dNext_ap, dIfS_ap, kIfS_t, kIfS_f, dAsg_ap, dRet_ap, dDrop_ap, dRaise_ap, dBin_ap, dChain_ap, kCh_t, kCh_f, dUn_ap, dVar_ap, dVarB_ap, slV_va, slB_va, dC_ap, dNrm_ap, dNil_ap, dCons_ap, consT_ap, dTup_ap, dLst_ap, dBi_ap, tupO_ap, dCall_ap, dIx_ap, fnE_0, fnE_1, fnE_2, fnE_3, fnE_4, fnE_5, kIx_tup, kIx_lst, dIf_ap, kIf_t, kIf_f, dNotT_ap, kNot_ap, dNotV_ap, kNotV_ap, dTru_ap, kTru_bl, dAndT_ap, kAnd_t, kAnd_f, dOrT_ap, kOr_t, kOr_f, dAndV_ap, kAndV_t, kAndV_f, dOrV_ap, kOrV_t, kOrV_f, dItems_ap, dZip_ap, dComp_ap, dFor_ap, dM1_ap, kM1_xt, dAsgT2_ap, kT2_ap, dRng1_ap, dPar2_ap, dPar3_ap, kP2_ap, kP3_ap, dCut_ap, dPart_ap, kPart_i, bLen_tup, bLen_lst, frzA_nil, frzA_cons, frzS_no, frzS_va, ixF_0, ixF_1, Bool.not_true, Bool.not_false, getS_0, getS_1, getS_2, getS_3, getS_4, getS_5, getS_6, getS_7, getS_8, getS_9, getS_10, getS_11, getS_12, getS_13, getS_14, getS_15, getS_16, getS_17, getS_18, getS_19, getS_20, getS_21, set_0, set_1, set_2, set_3, set_4, set_5, set_6, set_7, set_8, set_9, set_10, set_11, set_12, set_13, set_14, set_15, set_16, set_17, set_18, set_19, set_20, set_21, mkT_0, mkT_1, mkT_2, mkT_3, mkT_4, mkT_5, mkT_6, mkT_7, mkT_8, mkT_9, mkT_10, mkT_11, mkT_12, mkL_0, mkL_1, mkL_2, mkL_3, mkL_4, mkL_5, mkL_6, mkL_7, mkL_8, mkL_9, mkL_10, mkL_11, mkL_12, f_needword c h h1, e, eq_i]
def nz (l : L4) : Bool := match l with
  | .i => false
  | _ => true
def wt (ls : List L4) : Nat := (ls.filter nz).length
theorem weight_ok {t : L4} {ls : List L4} (c : Cup) (h : ls.length ≤ 12) (h1 : 1 ≤ ls.length) : F_24 [W t ls] c = .ok (.int (wt ls : Nat)) c := by
  unfold F_24
  rw [n_24]
  unfold b_24
  have e3 : lenOk (ls.map lv) = true := lenOk_of (by simp; omega)
  simp (config := { implicitDefEqProofs := false }) only [run_ap, List.map_cons, List.map_nil, List.replicate, List.cons_append, List.nil_append, bO_ok, bO_exc, sO_nx, sO_rt, sO_ex, oR_some, toS_ok, toS_exc, fin_nx, fin_rt, fin_ex, dSeq_ap, dNext_ap, dIfS_ap, kIfS_t, kIfS_f, dAsg_ap, dRet_ap, dDrop_ap, dRaise_ap, dBin_ap, dChain_ap, kCh_t, kCh_f, dUn_ap, dVar_ap, dVarB_ap, slV_va, slB_va, dC_ap, dNrm_ap, dNil_ap, dCons_ap, consT_ap, dTup_ap, dLst_ap, dBi_ap, tupO_ap, dCall_ap, dIx_ap, fnE_0, fnE_1, fnE_2, fnE_3, fnE_4, fnE_5, kIx_tup, kIx_lst, dIf_ap, kIf_t, kIf_f, dNotT_ap, kNot_ap, dNotV_ap, kNotV_ap, dTru_ap, kTru_bl, dAndT_ap, kAnd_t, kAnd_f, dOrT_ap, kOr_t, kOr_f, dAndV_ap, kAndV_t, kAndV_f, dOrV_ap, kOrV_t, kOrV_f, dItems_ap, dZip_ap, dComp_ap, dFor_ap, dM1_ap, kM1_xt, dAsgT2_ap, kT2_ap, dRng1_ap, dPar2_ap, dPar3_ap, kP2_ap, kP3_ap, dCut_ap, dPart_ap, kPart_i, bLen_tup, bLen_lst, frzA_nil, frzA_cons, frzS_no, frzS_va, ixF_0, ixF_1, Bool.not_true, Bool.not_false, getS_0, getS_1, getS_2, getS_3, getS_4, getS_5, getS_6, getS_7, getS_8, getS_9, getS_10, getS_11, getS_12, getS_13, getS_14, getS_15, getS_16, getS_17, getS_18, getS_19, getS_20, getS_21, set_0, set_1, set_2, set_3, set_4, set_5, set_6, set_7, set_8, set_9, set_10, set_11, set_12, set_13, set_14, set_15, set_16, set_17, set_18, set_19, set_20, set_21, mkT_0, mkT_1, mkT_2, mkT_3, mkT_4, mkT_5, mkT_6, mkT_7, mkT_8, mkT_9, mkT_10, mkT_11, mkT_12, mkL_0, mkL_1, mkL_2, mkL_3, mkL_4, mkL_5, mkL_6, mkL_7, mkL_8, mkL_9, mkL_10, mkL_11, mkL_12, f_needword c h h1, kItems_tup e3]
  rw [walk_fil (p := nz) (ff := lv) rfl (by omega) (fun l acc => by cases l <;> kernel_rfl)]
  simp (config := { implicitDefEqProofs := false }) only [run_ap, List.map_cons, List.map_nil, List.replicate, List.cons_append, List.nil_append, bO_ok, bO_exc, sO_nx, sO_rt, sO_ex, oR_some, toS_ok, toS_exc, fin_nx, fin_rt, fin_ex, dSeq_ap, dNext_ap, dIfS_ap, kIfS_t, kIfS_f, dAsg_ap, dRet_ap, dDrop_ap, dRaise_ap, dBin_ap, dChain_ap, kCh_t, kCh_f, dUn_ap, dVar_ap, dVarB_ap, slV_va, slB_va, dC_ap, dNrm_ap, dNil_ap, dCons_ap, consT_ap, dTup_ap, dLst_ap, dBi_ap, tupO_ap, dCall_ap, dIx_ap, fnE_0, fnE_1, fnE_2, fnE_3, fnE_4, fnE_5, kIx_tup, kIx_lst, dIf_ap, kIf_t, kIf_f, dNotT_ap, kNot_ap, dNotV_ap, kNotV_ap, dTru_ap, kTru_bl, dAndT_ap, kAnd_t, kAnd_f, dOrT_ap, kOr_t, kOr_f, dAndV_ap, kAndV_t, kAndV_f, dOrV_ap, kOrV_t, kOrV_f, dItems_ap, dZip_ap, dComp_ap, dFor_ap, dM1_ap, kM1_xt, dAsgT2_ap, kT2_ap, dRng1_ap, dPar2_ap, dPar3_ap, kP2_ap, kP3_ap, dCut_ap, dPart_ap, kPart_i, bLen_tup, bLen_lst, frzA_nil, frzA_cons, frzS_no, frzS_va, ixF_0, ixF_1, Bool.not_true, Bool.not_false, getS_0, getS_1, getS_2, getS_3, getS_4, getS_5, getS_6, getS_7, getS_8, getS_9, getS_10, getS_11, getS_12, getS_13, getS_14, getS_15, getS_16, getS_17, getS_18, getS_19, getS_20, getS_21, set_0, set_1, set_2, set_3, set_4, set_5, set_6, set_7, set_8, set_9, set_10, set_11, set_12, set_13, set_14, set_15, set_16, set_17, set_18, set_19, set_20, set_21, mkT_0, mkT_1, mkT_2, mkT_3, mkT_4, mkT_5, mkT_6, mkT_7, mkT_8, mkT_9, mkT_10, mkT_11, mkT_12, mkL_0, mkL_1, mkL_2, mkL_3, mkL_4, mkL_5, mkL_6, mkL_7, mkL_8, mkL_9, mkL_10, mkL_11, mkL_12, List.length_map]
  rfl
def fb (l : L4) : PV := .int (li l % 2)
def sb (l : L4) : PV := .int (li l / 2)
theorem bits_ok {t : L4} {ls : List L4} (c : Cup) (h : ls.length ≤ 12) (h1 : 1 ≤ ls.length) : F_25 [W t ls] c = .ok (.tup [.tup (ls.map fb), .tup (ls.map sb)]) c := by
  unfold F_25
  rw [n_25]
  unfold b_25
  have e3 : lenOk (ls.map lv) = true := lenOk_of (by simp; omega)
  simp (config := { implicitDefEqProofs := false }) only [run_ap, List.map_cons, List.map_nil, List.replicate, List.cons_append, List.nil_append, bO_ok, bO_exc, sO_nx, sO_rt, sO_ex, oR_some, toS_ok, toS_exc, fin_nx, fin_rt, fin_ex, dSeq_ap, dNext_ap, dIfS_ap, kIfS_t, kIfS_f, dAsg_ap, dRet_ap, dDrop_ap, dRaise_ap, dBin_ap, dChain_ap, kCh_t, kCh_f, dUn_ap, dVar_ap, dVarB_ap, slV_va, slB_va, dC_ap, dNrm_ap, dNil_ap, dCons_ap, consT_ap, dTup_ap, dLst_ap, dBi_ap, tupO_ap, dCall_ap, dIx_ap, fnE_0, fnE_1, fnE_2, fnE_3, fnE_4, fnE_5, kIx_tup, kIx_lst, dIf_ap, kIf_t, kIf_f, dNotT_ap, kNot_ap, dNotV_ap, kNotV_ap, dTru_ap, kTru_bl, dAndT_ap, kAnd_t, kAnd_f, dOrT_ap, kOr_t, kOr_f, dAndV_ap, kAndV_t, kAndV_f, dOrV_ap, kOrV_t, kOrV_f, dItems_ap, dZip_ap, dComp_ap, dFor_ap, dM1_ap, kM1_xt, dAsgT2_ap, kT2_ap, dRng1_ap, dPar2_ap, dPar3_ap, kP2_ap, kP3_ap, dCut_ap, dPart_ap, kPart_i, bLen_tup, bLen_lst, frzA_nil, frzA_cons, frzS_no, frzS_va, ixF_0, ixF_1, Bool.not_true, Bool.not_false, getS_0, getS_1, getS_2, getS_3, getS_4, getS_5, getS_6, getS_7, getS_8, getS_9, getS_10, getS_11, getS_12, getS_13, getS_14, getS_15, getS_16, getS_17, getS_18, getS_19, getS_20, getS_21, set_0, set_1, set_2, set_3, set_4, set_5, set_6, set_7, set_8, set_9, set_10, set_11, set_12, set_13, set_14, set_15, set_16, set_17, set_18, set_19, set_20, set_21, mkT_0, mkT_1, mkT_2, mkT_3, mkT_4, mkT_5, mkT_6, mkT_7, mkT_8, mkT_9, mkT_10, mkT_11, mkT_12, mkL_0, mkL_1, mkL_2, mkL_3, mkL_4, mkL_5, mkL_6, mkL_7, mkL_8, mkL_9, mkL_10, mkL_11, mkL_12, f_needword c h h1, kItems_tup e3]
  rw [walk_map (ff := fb) rfl (by omega) (fun l acc => by cases l <;> kernel_rfl)]
  simp (config := { implicitDefEqProofs := false }) only [run_ap, List.map_cons, List.map_nil, List.replicate, List.cons_append, List.nil_append, bO_ok, bO_exc, sO_nx, sO_rt, sO_ex, oR_some, toS_ok, toS_exc, fin_nx, fin_rt, fin_ex, dSeq_ap, dNext_ap, dIfS_ap, kIfS_t, kIfS_f, dAsg_ap, dRet_ap, dDrop_ap, dRaise_ap, dBin_ap, dChain_ap, kCh_t, kCh_f, dUn_ap, dVar_ap, dVarB_ap, slV_va, slB_va, dC_ap, dNrm_ap, dNil_ap, dCons_ap, consT_ap, dTup_ap, dLst_ap, dBi_ap, tupO_ap, dCall_ap, dIx_ap, fnE_0, fnE_1, fnE_2, fnE_3, fnE_4, fnE_5, kIx_tup, kIx_lst, dIf_ap, kIf_t, kIf_f, dNotT_ap, kNot_ap, dNotV_ap, kNotV_ap, dTru_ap, kTru_bl, dAndT_ap, kAnd_t, kAnd_f, dOrT_ap, kOr_t, kOr_f, dAndV_ap, kAndV_t, kAndV_f, dOrV_ap, kOrV_t, kOrV_f, dItems_ap, dZip_ap, dComp_ap, dFor_ap, dM1_ap, kM1_xt, dAsgT2_ap, kT2_ap, dRng1_ap, dPar2_ap, dPar3_ap, kP2_ap, kP3_ap, dCut_ap, dPart_ap, kPart_i, bLen_tup, bLen_lst, frzA_nil, frzA_cons, frzS_no, frzS_va, ixF_0, ixF_1, Bool.not_true, Bool.not_false, getS_0, getS_1, getS_2, getS_3, getS_4, getS_5, getS_6, getS_7, getS_8, getS_9, getS_10, getS_11, getS_12, getS_13, getS_14, getS_15, getS_16, getS_17, getS_18, getS_19, getS_20, getS_21, set_0, set_1, set_2, set_3, set_4, set_5, set_6, set_7, set_8, set_9, set_10, set_11, set_12, set_13, set_14, set_15, set_16, set_17, set_18, set_19, set_20, set_21, mkT_0, mkT_1, mkT_2, mkT_3, mkT_4, mkT_5, mkT_6, mkT_7, mkT_8, mkT_9, mkT_10, mkT_11, mkT_12, mkL_0, mkL_1, mkL_2, mkL_3, mkL_4, mkL_5, mkL_6, mkL_7, mkL_8, mkL_9, mkL_10, mkL_11, mkL_12, b_tup, kItems_tup e3]
  rw [walk_map (ff := sb) rfl (by omega) (fun l acc => by cases l <;> kernel_rfl)]
  simp (config := { implicitDefEqProofs := false }) only [run_ap, List.map_cons, List.map_nil, List.replicate, List.cons_append, List.nil_append, bO_ok, bO_exc, sO_nx, sO_rt, sO_ex, oR_some, toS_ok, toS_exc, fin_nx, fin_rt, fin_ex, dSeq_ap, dNext_ap, dIfS_ap, kIfS_t, kIfS_f, dAsg_ap, dRet_ap, dDrop_ap, dRaise_ap, dBin_ap, dChain_ap, kCh_t, kCh_f, dUn_ap, dVar_ap, dVarB_ap, slV_va, slB_va, dC_ap, dNrm_ap, dNil_ap, dCons_ap, consT_ap, dTup_ap, dLst_ap, dBi_ap, tupO_ap, dCall_ap, dIx_ap, fnE_0, fnE_1, fnE_2, fnE_3, fnE_4, fnE_5, kIx_tup, kIx_lst, dIf_ap, kIf_t, kIf_f, dNotT_ap, kNot_ap, dNotV_ap, kNotV_ap, dTru_ap, kTru_bl, dAndT_ap, kAnd_t, kAnd_f, dOrT_ap, kOr_t, kOr_f, dAndV_ap, kAndV_t, kAndV_f, dOrV_ap, kOrV_t, kOrV_f, dItems_ap, dZip_ap, dComp_ap, dFor_ap, dM1_ap, kM1_xt, dAsgT2_ap, kT2_ap, dRng1_ap, dPar2_ap, dPar3_ap, kP2_ap, kP3_ap, dCut_ap, dPart_ap, kPart_i, bLen_tup, bLen_lst, frzA_nil, frzA_cons, frzS_no, frzS_va, ixF_0, ixF_1, Bool.not_true, Bool.not_false, getS_0, getS_1, getS_2, getS_3, getS_4, getS_5, getS_6, getS_7, getS_8, getS_9, getS_10, getS_11, getS_12, getS_13, getS_14, getS_15, getS_16, getS_17, getS_18, getS_19, getS_20, getS_21, set_0, set_1, set_2, set_3, set_4, set_5, set_6, set_7, set_8, set_9, set_10, set_11, set_12, set_13, set_14, set_15, set_16, set_17, set_18, set_19, set_20, set_21, mkT_0, mkT_1, mkT_2, mkT_3, mkT_4, mkT_5, mkT_6, mkT_7, mkT_8, mkT_9, mkT_10, mkT_11, mkT_12, mkL_0, mkL_1, mkL_2, mkL_3, mkL_4, mkL_5, mkL_6, mkL_7, mkL_8, mkL_9, mkL_10, mkL_11, mkL_12, b_tup]
theorem fb_whole (l : L4) (c : Cup) : F_6 [fb l, .int 0, .int 1] c = .ok (.bl true) c := by cases l <;> kernel_rfl
theorem sb_whole (l : L4) (c : Cup) : F_6 [sb l, .int 0, .int 1] c = .ok (.bl true) c := by cases l <;> kernel_rfl
theorem zip_bits {ls : List L4} : zipL (ls.map fb) (ls.map sb) = ls.map fun l => .tup [fb l, sb l] := by
  induction ls with
  | nil => rfl
  | cons x r ih =>
    show PV.tup [fb x, sb x] :: zipL (r.map fb) (r.map sb) = _
    rw [ih]
    rfl
theorem from_ok {ls : List L4} (c : Cup) (h : ls.length ≤ 12) (h1 : 1 ≤ ls.length) : F_26 [.tup (ls.map fb), .tup (ls.map sb)] c = .ok (W .i ls) c := by
  unfold F_26
  rw [n_26]
  unfold b_26 c_PLACES
  have e1 : F_7 [.tup (ls.map fb), .int 1, .int 12] c = .ok (.bl true) c := f_tuple c (by simp; omega) (by simp; omega)
  have e2 : F_7 [.tup (ls.map sb), .int (ls.length : Nat), .int (ls.length : Nat)] c = .ok (.bl true) c := f_tuple c (by simp) (by simp)
  have e3 : lenOk (ls.map fb) = true := lenOk_of (by simp; omega)
  have e4 : lenOk (ls.map sb) = true := lenOk_of (by simp; omega)
  have e5 : lenOk (zipL (ls.map fb) (ls.map sb)) = true := lenOk_of (by rw [zipL_len]; simp; omega)
  simp (config := { implicitDefEqProofs := false }) only [run_ap, List.map_cons, List.map_nil, List.replicate, List.cons_append, List.nil_append, bO_ok, bO_exc, sO_nx, sO_rt, sO_ex, oR_some, toS_ok, toS_exc, fin_nx, fin_rt, fin_ex, dSeq_ap, dNext_ap, dIfS_ap, kIfS_t, kIfS_f, dAsg_ap, dRet_ap, dDrop_ap, dRaise_ap, dBin_ap, dChain_ap, kCh_t, kCh_f, dUn_ap, dVar_ap, dVarB_ap, slV_va, slB_va, dC_ap, dNrm_ap, dNil_ap, dCons_ap, consT_ap, dTup_ap, dLst_ap, dBi_ap, tupO_ap, dCall_ap, dIx_ap, fnE_0, fnE_1, fnE_2, fnE_3, fnE_4, fnE_5, kIx_tup, kIx_lst, dIf_ap, kIf_t, kIf_f, dNotT_ap, kNot_ap, dNotV_ap, kNotV_ap, dTru_ap, kTru_bl, dAndT_ap, kAnd_t, kAnd_f, dOrT_ap, kOr_t, kOr_f, dAndV_ap, kAndV_t, kAndV_f, dOrV_ap, kOrV_t, kOrV_f, dItems_ap, dZip_ap, dComp_ap, dFor_ap, dM1_ap, kM1_xt, dAsgT2_ap, kT2_ap, dRng1_ap, dPar2_ap, dPar3_ap, kP2_ap, kP3_ap, dCut_ap, dPart_ap, kPart_i, bLen_tup, bLen_lst, frzA_nil, frzA_cons, frzS_no, frzS_va, ixF_0, ixF_1, Bool.not_true, Bool.not_false, getS_0, getS_1, getS_2, getS_3, getS_4, getS_5, getS_6, getS_7, getS_8, getS_9, getS_10, getS_11, getS_12, getS_13, getS_14, getS_15, getS_16, getS_17, getS_18, getS_19, getS_20, getS_21, set_0, set_1, set_2, set_3, set_4, set_5, set_6, set_7, set_8, set_9, set_10, set_11, set_12, set_13, set_14, set_15, set_16, set_17, set_18, set_19, set_20, set_21, mkT_0, mkT_1, mkT_2, mkT_3, mkT_4, mkT_5, mkT_6, mkT_7, mkT_8, mkT_9, mkT_10, mkT_11, mkT_12, mkL_0, mkL_1, mkL_2, mkL_3, mkL_4, mkL_5, mkL_6, mkL_7, mkL_8, mkL_9, mkL_10, mkL_11, mkL_12, e1, kItems_tup e3]
  rw [walk_map (ff := fun _ => PV.bl true) rfl (by omega) (fun l acc => by cases l <;> kernel_rfl)]
  simp (config := { implicitDefEqProofs := false }) only [run_ap, List.map_cons, List.map_nil, List.replicate, List.cons_append, List.nil_append, bO_ok, bO_exc, sO_nx, sO_rt, sO_ex, oR_some, toS_ok, toS_exc, fin_nx, fin_rt, fin_ex, dSeq_ap, dNext_ap, dIfS_ap, kIfS_t, kIfS_f, dAsg_ap, dRet_ap, dDrop_ap, dRaise_ap, dBin_ap, dChain_ap, kCh_t, kCh_f, dUn_ap, dVar_ap, dVarB_ap, slV_va, slB_va, dC_ap, dNrm_ap, dNil_ap, dCons_ap, consT_ap, dTup_ap, dLst_ap, dBi_ap, tupO_ap, dCall_ap, dIx_ap, fnE_0, fnE_1, fnE_2, fnE_3, fnE_4, fnE_5, kIx_tup, kIx_lst, dIf_ap, kIf_t, kIf_f, dNotT_ap, kNot_ap, dNotV_ap, kNotV_ap, dTru_ap, kTru_bl, dAndT_ap, kAnd_t, kAnd_f, dOrT_ap, kOr_t, kOr_f, dAndV_ap, kAndV_t, kAndV_f, dOrV_ap, kOrV_t, kOrV_f, dItems_ap, dZip_ap, dComp_ap, dFor_ap, dM1_ap, kM1_xt, dAsgT2_ap, kT2_ap, dRng1_ap, dPar2_ap, dPar3_ap, kP2_ap, kP3_ap, dCut_ap, dPart_ap, kPart_i, bLen_tup, bLen_lst, frzA_nil, frzA_cons, frzS_no, frzS_va, ixF_0, ixF_1, Bool.not_true, Bool.not_false, getS_0, getS_1, getS_2, getS_3, getS_4, getS_5, getS_6, getS_7, getS_8, getS_9, getS_10, getS_11, getS_12, getS_13, getS_14, getS_15, getS_16, getS_17, getS_18, getS_19, getS_20, getS_21, set_0, set_1, set_2, set_3, set_4, set_5, set_6, set_7, set_8, set_9, set_10, set_11, set_12, set_13, set_14, set_15, set_16, set_17, set_18, set_19, set_20, set_21, mkT_0, mkT_1, mkT_2, mkT_3, mkT_4, mkT_5, mkT_6, mkT_7, mkT_8, mkT_9, mkT_10, mkT_11, mkT_12, mkL_0, mkL_1, mkL_2, mkL_3, mkL_4, mkL_5, mkL_6, mkL_7, mkL_8, mkL_9, mkL_10, mkL_11, mkL_12, all_true, List.length_map, e2, kItems_tup e4]
  rw [walk_map (ff := fun _ => PV.bl true) rfl (by omega) (fun l acc => by cases l <;> kernel_rfl)]
  simp (config := { implicitDefEqProofs := false }) only [run_ap, List.map_cons, List.map_nil, List.replicate, List.cons_append, List.nil_append, bO_ok, bO_exc, sO_nx, sO_rt, sO_ex, oR_some, toS_ok, toS_exc, fin_nx, fin_rt, fin_ex, dSeq_ap, dNext_ap, dIfS_ap, kIfS_t, kIfS_f, dAsg_ap, dRet_ap, dDrop_ap, dRaise_ap, dBin_ap, dChain_ap, kCh_t, kCh_f, dUn_ap, dVar_ap, dVarB_ap, slV_va, slB_va, dC_ap, dNrm_ap, dNil_ap, dCons_ap, consT_ap, dTup_ap, dLst_ap, dBi_ap, tupO_ap, dCall_ap, dIx_ap, fnE_0, fnE_1, fnE_2, fnE_3, fnE_4, fnE_5, kIx_tup, kIx_lst, dIf_ap, kIf_t, kIf_f, dNotT_ap, kNot_ap, dNotV_ap, kNotV_ap, dTru_ap, kTru_bl, dAndT_ap, kAnd_t, kAnd_f, dOrT_ap, kOr_t, kOr_f, dAndV_ap, kAndV_t, kAndV_f, dOrV_ap, kOrV_t, kOrV_f, dItems_ap, dZip_ap, dComp_ap, dFor_ap, dM1_ap, kM1_xt, dAsgT2_ap, kT2_ap, dRng1_ap, dPar2_ap, dPar3_ap, kP2_ap, kP3_ap, dCut_ap, dPart_ap, kPart_i, bLen_tup, bLen_lst, frzA_nil, frzA_cons, frzS_no, frzS_va, ixF_0, ixF_1, Bool.not_true, Bool.not_false, getS_0, getS_1, getS_2, getS_3, getS_4, getS_5, getS_6, getS_7, getS_8, getS_9, getS_10, getS_11, getS_12, getS_13, getS_14, getS_15, getS_16, getS_17, getS_18, getS_19, getS_20, getS_21, set_0, set_1, set_2, set_3, set_4, set_5, set_6, set_7, set_8, set_9, set_10, set_11, set_12, set_13, set_14, set_15, set_16, set_17, set_18, set_19, set_20, set_21, mkT_0, mkT_1, mkT_2, mkT_3, mkT_4, mkT_5, mkT_6, mkT_7, mkT_8, mkT_9, mkT_10, mkT_11, mkT_12, mkL_0, mkL_1, mkL_2, mkL_3, mkL_4, mkL_5, mkL_6, mkL_7, mkL_8, mkL_9, mkL_10, mkL_11, mkL_12, all_true, kZip_tt e5]
  rw [zip_bits, walk_map (ff := lv) rfl (by omega) (fun l acc => by cases l <;> kernel_rfl)]
  simp (config := { implicitDefEqProofs := false }) only [run_ap, List.map_cons, List.map_nil, List.replicate, List.cons_append, List.nil_append, bO_ok, bO_exc, sO_nx, sO_rt, sO_ex, oR_some, toS_ok, toS_exc, fin_nx, fin_rt, fin_ex, dSeq_ap, dNext_ap, dIfS_ap, kIfS_t, kIfS_f, dAsg_ap, dRet_ap, dDrop_ap, dRaise_ap, dBin_ap, dChain_ap, kCh_t, kCh_f, dUn_ap, dVar_ap, dVarB_ap, slV_va, slB_va, dC_ap, dNrm_ap, dNil_ap, dCons_ap, consT_ap, dTup_ap, dLst_ap, dBi_ap, tupO_ap, dCall_ap, dIx_ap, fnE_0, fnE_1, fnE_2, fnE_3, fnE_4, fnE_5, kIx_tup, kIx_lst, dIf_ap, kIf_t, kIf_f, dNotT_ap, kNot_ap, dNotV_ap, kNotV_ap, dTru_ap, kTru_bl, dAndT_ap, kAnd_t, kAnd_f, dOrT_ap, kOr_t, kOr_f, dAndV_ap, kAndV_t, kAndV_f, dOrV_ap, kOrV_t, kOrV_f, dItems_ap, dZip_ap, dComp_ap, dFor_ap, dM1_ap, kM1_xt, dAsgT2_ap, kT2_ap, dRng1_ap, dPar2_ap, dPar3_ap, kP2_ap, kP3_ap, dCut_ap, dPart_ap, kPart_i, bLen_tup, bLen_lst, frzA_nil, frzA_cons, frzS_no, frzS_va, ixF_0, ixF_1, Bool.not_true, Bool.not_false, getS_0, getS_1, getS_2, getS_3, getS_4, getS_5, getS_6, getS_7, getS_8, getS_9, getS_10, getS_11, getS_12, getS_13, getS_14, getS_15, getS_16, getS_17, getS_18, getS_19, getS_20, getS_21, set_0, set_1, set_2, set_3, set_4, set_5, set_6, set_7, set_8, set_9, set_10, set_11, set_12, set_13, set_14, set_15, set_16, set_17, set_18, set_19, set_20, set_21, mkT_0, mkT_1, mkT_2, mkT_3, mkT_4, mkT_5, mkT_6, mkT_7, mkT_8, mkT_9, mkT_10, mkT_11, mkT_12, mkL_0, mkL_1, mkL_2, mkL_3, mkL_4, mkL_5, mkL_6, mkL_7, mkL_8, mkL_9, mkL_10, mkL_11, mkL_12, b_tup]
  rfl
theorem add_tt {xs ys : List PV} (h : xs.length + ys.length ≤ 1000) : oAdd (.tup xs) (.tup ys) = some (.tup (xs ++ ys)) := by
  show okLen (xs.length + ys.length) (.tup (xs ++ ys)) = _
  unfold okLen
  rw [Nat.ble_eq_true_of_le (by omega)]
  rfl
theorem beside_ok {t t2 : L4} {ls l2 : List L4} (c : Cup) (h : ls.length + l2.length ≤ 12) (h1 : 1 ≤ ls.length) (h2 : 1 ≤ l2.length) : F_27 [W t ls, W t2 l2] c = .ok (W (m4 (li t + li t2)) (ls ++ l2)) c := by
  unfold F_27
  rw [n_27]
  unfold b_27 c_PLACES
  have e1 : oGt (.int ((ls.length : Nat) + (l2.length : Nat))) (.int 12) = some (.bl false) := congrArg (fun t => some (PV.bl t)) (decide_eq_false (by omega))
  simp (config := { implicitDefEqProofs := false }) only [run_ap, List.map_cons, List.map_nil, List.replicate, List.cons_append, List.nil_append, bO_ok, bO_exc, sO_nx, sO_rt, sO_ex, oR_some, toS_ok, toS_exc, fin_nx, fin_rt, fin_ex, dSeq_ap, dNext_ap, dIfS_ap, kIfS_t, kIfS_f, dAsg_ap, dRet_ap, dDrop_ap, dRaise_ap, dBin_ap, dChain_ap, kCh_t, kCh_f, dUn_ap, dVar_ap, dVarB_ap, slV_va, slB_va, dC_ap, dNrm_ap, dNil_ap, dCons_ap, consT_ap, dTup_ap, dLst_ap, dBi_ap, tupO_ap, dCall_ap, dIx_ap, fnE_0, fnE_1, fnE_2, fnE_3, fnE_4, fnE_5, kIx_tup, kIx_lst, dIf_ap, kIf_t, kIf_f, dNotT_ap, kNot_ap, dNotV_ap, kNotV_ap, dTru_ap, kTru_bl, dAndT_ap, kAnd_t, kAnd_f, dOrT_ap, kOr_t, kOr_f, dAndV_ap, kAndV_t, kAndV_f, dOrV_ap, kOrV_t, kOrV_f, dItems_ap, dZip_ap, dComp_ap, dFor_ap, dM1_ap, kM1_xt, dAsgT2_ap, kT2_ap, dRng1_ap, dPar2_ap, dPar3_ap, kP2_ap, kP3_ap, dCut_ap, dPart_ap, kPart_i, bLen_tup, bLen_lst, frzA_nil, frzA_cons, frzS_no, frzS_va, ixF_0, ixF_1, Bool.not_true, Bool.not_false, getS_0, getS_1, getS_2, getS_3, getS_4, getS_5, getS_6, getS_7, getS_8, getS_9, getS_10, getS_11, getS_12, getS_13, getS_14, getS_15, getS_16, getS_17, getS_18, getS_19, getS_20, getS_21, set_0, set_1, set_2, set_3, set_4, set_5, set_6, set_7, set_8, set_9, set_10, set_11, set_12, set_13, set_14, set_15, set_16, set_17, set_18, set_19, set_20, set_21, mkT_0, mkT_1, mkT_2, mkT_3, mkT_4, mkT_5, mkT_6, mkT_7, mkT_8, mkT_9, mkT_10, mkT_11, mkT_12, mkL_0, mkL_1, mkL_2, mkL_3, mkL_4, mkL_5, mkL_6, mkL_7, mkL_8, mkL_9, mkL_10, mkL_11, mkL_12, f_needword (t := t) c (show ls.length ≤ 12 by omega) h1, f_needword (t := t2) c (show l2.length ≤ 12 by omega) h2, List.length_map, add_i, e1, add_lv, mod4, add_tt (show (ls.map lv).length + (l2.map lv).length ≤ 1000 by simp; omega)]
  rw [← List.map_append]
end K00
set_option maxHeartbeats 1000000
namespace K00
open PySem PySem.Spec PyProof.Rows L2 RX
/-! ### products of many -/
abbrev Wd := L4 × List L4
def wv (p : Wd) : PV := W p.1 p.2
def mulW (a b : Wd) : Wd := (m4 (li a.1 + li b.1 + sm a.2 b.2), mm a.2 b.2)
theorem mm_len {l1 l2 : List L4} (h : l1.length = l2.length) : (mm l1 l2).length = l1.length := by
  unfold mm
  rw [List.length_map, List.length_zip]
  omega
theorem loop_prod {p : Nat} (hp : p ≤ 12) : ∀ (r : List Wd) (w : Wd) (v : PV) (s1 : Sl) (c : Cup), w.2.length = p → (∀ x ∈ r, x.2.length = p) → ∃ s2, loopS (gS 1) (dAsg (gS 2) (dCall F_17 2 (dCons (dVar 2) (dCons (dVar 1) dNil)))) (r.map wv) [.va v, s1, .va (wv w), .no] c = .nx [.va v, s2, .va (wv (r.foldl mulW w)), .no] c
  | [], w, v, s1, c, hw, hr => ⟨s1, rfl⟩
  | x :: r, w, v, s1, c, hw, hr => by
    have hx := hr x (.head _)
    have hb : dAsg (gS 2) (dCall F_17 2 (dCons (dVar 2) (dCons (dVar 1) dNil))) [.va v, .va (wv x), .va (wv w), .no] c = .nx [.va v, .va (wv x), .va (wv (mulW w x)), .no] c := by
      unfold wv
      simp (config := { implicitDefEqProofs := false }) only [run_ap, List.map_cons, List.map_nil, List.replicate, List.cons_append, List.nil_append, bO_ok, bO_exc, sO_nx, sO_rt, sO_ex, oR_some, toS_ok, toS_exc, fin_nx, fin_rt, fin_ex, dSeq_ap, dNext_ap, dIfS_ap, kIfS_t, kIfS_f, dAsg_ap, dRet_ap, dDrop_ap, dRaise_ap, dBin_ap, dChain_ap, kCh_t, kCh_f, dUn_ap, dVar_ap, dVarB_ap, slV_va, slB_va, dC_ap, dNrm_ap, dNil_ap, dCons_ap, consT_ap, dTup_ap, dLst_ap, dBi_ap, tupO_ap, dCall_ap, dIx_ap, fnE_0, fnE_1, fnE_2, fnE_3, fnE_4, fnE_5, kIx_tup, kIx_lst, dIf_ap, kIf_t, kIf_f, dNotT_ap, kNot_ap, dNotV_ap, kNotV_ap, dTru_ap, kTru_bl, dAndT_ap, kAnd_t, kAnd_f, dOrT_ap, kOr_t, kOr_f, dAndV_ap, kAndV_t, kAndV_f, dOrV_ap, kOrV_t, kOrV_f, dItems_ap, dZip_ap, dComp_ap, dFor_ap, dM1_ap, kM1_xt, dAsgT2_ap, kT2_ap, dRng1_ap, dPar2_ap, dPar3_ap, kP2_ap, kP3_ap, dCut_ap, dPart_ap, kPart_i, bLen_tup, bLen_lst, frzA_nil, frzA_cons, frzS_no, frzS_va, ixF_0, ixF_1, Bool.not_true, Bool.not_false, getS_0, getS_1, getS_2, getS_3, getS_4, getS_5, getS_6, getS_7, getS_8, getS_9, getS_10, getS_11, getS_12, getS_13, getS_14, getS_15, getS_16, getS_17, getS_18, getS_19, getS_20, getS_21, set_0, set_1, set_2, set_3, set_4, set_5, set_6, set_7, set_8, set_9, set_10, set_11, set_12, set_13, set_14, set_15, set_16, set_17, set_18, set_19, set_20, set_21, mkT_0, mkT_1, mkT_2, mkT_3, mkT_4, mkT_5, mkT_6, mkT_7, mkT_8, mkT_9, mkT_10, mkT_11, mkT_12, mkL_0, mkL_1, mkL_2, mkL_3, mkL_4, mkL_5, mkL_6, mkL_7, mkL_8, mkL_9, mkL_10, mkL_11, mkL_12, times_ok c (show w.2.length ≤ 12 by omega)]
      rfl
    obtain ⟨s2, h2⟩ := loop_prod hp r (mulW w x) v (.va (wv x)) c (by show (mm w.2 x.2).length = p; rw [mm_len (by omega)]; exact hw) fun y m => hr y (.tail _ m)
    refine ⟨s2, ?_⟩
    show (match dAsg (gS 2) (dCall F_17 2 (dCons (dVar 2) (dCons (dVar 1) dNil))) [.va v, .va (wv x), .va (wv w), .no] c with
      | .nx e c => loopS (gS 1) (dAsg (gS 2) (dCall F_17 2 (dCons (dVar 2) (dCons (dVar 1) dNil)))) (r.map wv) e c
      | .ct e c => loopS (gS 1) (dAsg (gS 2) (dCall F_17 2 (dCons (dVar 2) (dCons (dVar 1) dNil)))) (r.map wv) e c
      | .bk e c => .nx e c
      | .rt v c => .rt v c
      | .ex k c => .ex k c
      | .st => .st) = _
    rw [hb]
    exact h2
theorem prod_ok {p : Nat} (hp : p ≤ 12) (hp1 : 1 ≤ p) (ws : List Wd) (w : Wd) (r : List Wd) (c : Cup) (he : ws = w :: r) (hn : r.length ≤ 199) (hr : ∀ x ∈ ws, x.2.length = p) : F_21 [.tup (ws.map wv)] c = .ok (wv (r.foldl mulW w)) c := by
  unfold F_21
  rw [n_21]
  unfold b_21 c_MANY
  have hl : ws.length ≤ 200 := by rw [he, List.length_cons]; omega
  have hl1 : 1 ≤ ws.length := by rw [he, List.length_cons]; omega
  have e1 : F_7 [.tup (ws.map wv), .int 1, .int 200] c = .ok (.bl true) c := f_tuple c (by rw [List.length_map]; omega) (by rw [List.length_map]; omega)
  have e2 : lenOk (ws.map wv) = true := lenOk_of (by rw [List.length_map]; omega)
  have e3 : ixF (ws.map wv) 0 = some (wv w) := by rw [he]; rfl
  have e4 : (ws.map wv).drop 1 = r.map wv := by rw [he]; rfl
  have e5 : lenOk (r.map wv) = true := lenOk_of (by rw [List.length_map]; omega)
  have hw : w.2.length = p := hr w (by rw [he]; exact .head _)
  simp (config := { implicitDefEqProofs := false }) only [run_ap, List.map_cons, List.map_nil, List.replicate, List.cons_append, List.nil_append, bO_ok, bO_exc, sO_nx, sO_rt, sO_ex, oR_some, toS_ok, toS_exc, fin_nx, fin_rt, fin_ex, dSeq_ap, dNext_ap, dIfS_ap, kIfS_t, kIfS_f, dAsg_ap, dRet_ap, dDrop_ap, dRaise_ap, dBin_ap, dChain_ap, kCh_t, kCh_f, dUn_ap, dVar_ap, dVarB_ap, slV_va, slB_va, dC_ap, dNrm_ap, dNil_ap, dCons_ap, consT_ap, dTup_ap, dLst_ap, dBi_ap, tupO_ap, dCall_ap, dIx_ap, fnE_0, fnE_1, fnE_2, fnE_3, fnE_4, fnE_5, kIx_tup, kIx_lst, dIf_ap, kIf_t, kIf_f, dNotT_ap, kNot_ap, dNotV_ap, kNotV_ap, dTru_ap, kTru_bl, dAndT_ap, kAnd_t, kAnd_f, dOrT_ap, kOr_t, kOr_f, dAndV_ap, kAndV_t, kAndV_f, dOrV_ap, kOrV_t, kOrV_f, dItems_ap, dZip_ap, dComp_ap, dFor_ap, dM1_ap, kM1_xt, dAsgT2_ap, kT2_ap, dRng1_ap, dPar2_ap, dPar3_ap, kP2_ap, kP3_ap, dCut_ap, dPart_ap, kPart_i, bLen_tup, bLen_lst, frzA_nil, frzA_cons, frzS_no, frzS_va, ixF_0, ixF_1, Bool.not_true, Bool.not_false, getS_0, getS_1, getS_2, getS_3, getS_4, getS_5, getS_6, getS_7, getS_8, getS_9, getS_10, getS_11, getS_12, getS_13, getS_14, getS_15, getS_16, getS_17, getS_18, getS_19, getS_20, getS_21, set_0, set_1, set_2, set_3, set_4, set_5, set_6, set_7, set_8, set_9, set_10, set_11, set_12, set_13, set_14, set_15, set_16, set_17, set_18, set_19, set_20, set_21, mkT_0, mkT_1, mkT_2, mkT_3, mkT_4, mkT_5, mkT_6, mkT_7, mkT_8, mkT_9, mkT_10, mkT_11, mkT_12, mkL_0, mkL_1, mkL_2, mkL_3, mkL_4, mkL_5, mkL_6, mkL_7, mkL_8, mkL_9, mkL_10, mkL_11, mkL_12, e1, kItems_tup e2]
  rw [walk_mapM (ff := fun _ => PV.bl true) rfl (by omega) (fun x m acc => turn_go rfl rfl ?_)]
  · simp (config := { implicitDefEqProofs := false }) only [run_ap, List.map_cons, List.map_nil, List.replicate, List.cons_append, List.nil_append, bO_ok, bO_exc, sO_nx, sO_rt, sO_ex, oR_some, toS_ok, toS_exc, fin_nx, fin_rt, fin_ex, dSeq_ap, dNext_ap, dIfS_ap, kIfS_t, kIfS_f, dAsg_ap, dRet_ap, dDrop_ap, dRaise_ap, dBin_ap, dChain_ap, kCh_t, kCh_f, dUn_ap, dVar_ap, dVarB_ap, slV_va, slB_va, dC_ap, dNrm_ap, dNil_ap, dCons_ap, consT_ap, dTup_ap, dLst_ap, dBi_ap, tupO_ap, dCall_ap, dIx_ap, fnE_0, fnE_1, fnE_2, fnE_3, fnE_4, fnE_5, kIx_tup, kIx_lst, dIf_ap, kIf_t, kIf_f, dNotT_ap, kNot_ap, dNotV_ap, kNotV_ap, dTru_ap, kTru_bl, dAndT_ap, kAnd_t, kAnd_f, dOrT_ap, kOr_t, kOr_f, dAndV_ap, kAndV_t, kAndV_f, dOrV_ap, kOrV_t, kOrV_f, dItems_ap, dZip_ap, dComp_ap, dFor_ap, dM1_ap, kM1_xt, dAsgT2_ap, kT2_ap, dRng1_ap, dPar2_ap, dPar3_ap, kP2_ap, kP3_ap, dCut_ap, dPart_ap, kPart_i, bLen_tup, bLen_lst, frzA_nil, frzA_cons, frzS_no, frzS_va, ixF_0, ixF_1, Bool.not_true, Bool.not_false, getS_0, getS_1, getS_2, getS_3, getS_4, getS_5, getS_6, getS_7, getS_8, getS_9, getS_10, getS_11, getS_12, getS_13, getS_14, getS_15, getS_16, getS_17, getS_18, getS_19, getS_20, getS_21, set_0, set_1, set_2, set_3, set_4, set_5, set_6, set_7, set_8, set_9, set_10, set_11, set_12, set_13, set_14, set_15, set_16, set_17, set_18, set_19, set_20, set_21, mkT_0, mkT_1, mkT_2, mkT_3, mkT_4, mkT_5, mkT_6, mkT_7, mkT_8, mkT_9, mkT_10, mkT_11, mkT_12, mkL_0, mkL_1, mkL_2, mkL_3, mkL_4, mkL_5, mkL_6, mkL_7, mkL_8, mkL_9, mkL_10, mkL_11, mkL_12, all_true, kItems_tup e2]
    rw [walk_mapM (ff := fun _ => PV.bl true) rfl (by omega) (fun x m acc => turn_go rfl rfl ?_)]
    · simp (config := { implicitDefEqProofs := false }) only [run_ap, List.map_cons, List.map_nil, List.replicate, List.cons_append, List.nil_append, bO_ok, bO_exc, sO_nx, sO_rt, sO_ex, oR_some, toS_ok, toS_exc, fin_nx, fin_rt, fin_ex, dSeq_ap, dNext_ap, dIfS_ap, kIfS_t, kIfS_f, dAsg_ap, dRet_ap, dDrop_ap, dRaise_ap, dBin_ap, dChain_ap, kCh_t, kCh_f, dUn_ap, dVar_ap, dVarB_ap, slV_va, slB_va, dC_ap, dNrm_ap, dNil_ap, dCons_ap, consT_ap, dTup_ap, dLst_ap, dBi_ap, tupO_ap, dCall_ap, dIx_ap, fnE_0, fnE_1, fnE_2, fnE_3, fnE_4, fnE_5, kIx_tup, kIx_lst, dIf_ap, kIf_t, kIf_f, dNotT_ap, kNot_ap, dNotV_ap, kNotV_ap, dTru_ap, kTru_bl, dAndT_ap, kAnd_t, kAnd_f, dOrT_ap, kOr_t, kOr_f, dAndV_ap, kAndV_t, kAndV_f, dOrV_ap, kOrV_t, kOrV_f, dItems_ap, dZip_ap, dComp_ap, dFor_ap, dM1_ap, kM1_xt, dAsgT2_ap, kT2_ap, dRng1_ap, dPar2_ap, dPar3_ap, kP2_ap, kP3_ap, dCut_ap, dPart_ap, kPart_i, bLen_tup, bLen_lst, frzA_nil, frzA_cons, frzS_no, frzS_va, ixF_0, ixF_1, Bool.not_true, Bool.not_false, getS_0, getS_1, getS_2, getS_3, getS_4, getS_5, getS_6, getS_7, getS_8, getS_9, getS_10, getS_11, getS_12, getS_13, getS_14, getS_15, getS_16, getS_17, getS_18, getS_19, getS_20, getS_21, set_0, set_1, set_2, set_3, set_4, set_5, set_6, set_7, set_8, set_9, set_10, set_11, set_12, set_13, set_14, set_15, set_16, set_17, set_18, set_19, set_20, set_21, mkT_0, mkT_1, mkT_2, mkT_3, mkT_4, mkT_5, mkT_6, mkT_7, mkT_8, mkT_9, mkT_10, mkT_11, mkT_12, mkL_0, mkL_1, mkL_2, mkL_3, mkL_4, mkL_5, mkL_6, mkL_7, mkL_8, mkL_9, mkL_10, mkL_11, mkL_12, all_true, e3, cut_tail, e4, kItems_tup e5]
      obtain ⟨s2, h2⟩ := loop_prod hp r w (.tup (ws.map wv)) .no c hw fun y m => hr y (by rw [he]; exact .tail _ m)
      rw [h2]
      simp (config := { implicitDefEqProofs := false }) only [run_ap, List.map_cons, List.map_nil, List.replicate, List.cons_append, List.nil_append, bO_ok, bO_exc, sO_nx, sO_rt, sO_ex, oR_some, toS_ok, toS_exc, fin_nx, fin_rt, fin_ex, dSeq_ap, dNext_ap, dIfS_ap, kIfS_t, kIfS_f, dAsg_ap, dRet_ap, dDrop_ap, dRaise_ap, dBin_ap, dChain_ap, kCh_t, kCh_f, dUn_ap, dVar_ap, dVarB_ap, slV_va, slB_va, dC_ap, dNrm_ap, dNil_ap, dCons_ap, consT_ap, dTup_ap, dLst_ap, dBi_ap, tupO_ap, dCall_ap, dIx_ap, fnE_0, fnE_1, fnE_2, fnE_3, fnE_4, fnE_5, kIx_tup, kIx_lst, dIf_ap, kIf_t, kIf_f, dNotT_ap, kNot_ap, dNotV_ap, kNotV_ap, dTru_ap, kTru_bl, dAndT_ap, kAnd_t, kAnd_f, dOrT_ap, kOr_t, kOr_f, dAndV_ap, kAndV_t, kAndV_f, dOrV_ap, kOrV_t, kOrV_f, dItems_ap, dZip_ap, dComp_ap, dFor_ap, dM1_ap, kM1_xt, dAsgT2_ap, kT2_ap, dRng1_ap, dPar2_ap, dPar3_ap, kP2_ap, kP3_ap, dCut_ap, dPart_ap, kPart_i, bLen_tup, bLen_lst, frzA_nil, frzA_cons, frzS_no, frzS_va, ixF_0, ixF_1, Bool.not_true, Bool.not_false, getS_0, getS_1, getS_2, getS_3, getS_4, getS_5, getS_6, getS_7, getS_8, getS_9, getS_10, getS_11, getS_12, getS_13, getS_14, getS_15, getS_16, getS_17, getS_18, getS_19, getS_20, getS_21, set_0, set_1, set_2, set_3, set_4, set_5, set_6, set_7, set_8, set_9, set_10, set_11, set_12, set_13, set_14, set_15, set_16, set_17, set_18, set_19, set_20, set_21, mkT_0, mkT_1, mkT_2, mkT_3, mkT_4, mkT_5, mkT_6, mkT_7, mkT_8, mkT_9, mkT_10, mkT_11, mkT_12, mkL_0, mkL_1, mkL_2, mkL_3, mkL_4, mkL_5, mkL_6, mkL_7, mkL_8, mkL_9, mkL_10, mkL_11, mkL_12]
    · have hx := hr x m
      show dBin oEq _ _ [.va (.tup (List.map wv ws)), .va (wv x), .no, .no] c = _
      simp (config := { implicitDefEqProofs := false }) only [run_ap, List.map_cons, List.map_nil, List.replicate, List.cons_append, List.nil_append, bO_ok, bO_exc, sO_nx, sO_rt, sO_ex, oR_some, toS_ok, toS_exc, fin_nx, fin_rt, fin_ex, dSeq_ap, dNext_ap, dIfS_ap, kIfS_t, kIfS_f, dAsg_ap, dRet_ap, dDrop_ap, dRaise_ap, dBin_ap, dChain_ap, kCh_t, kCh_f, dUn_ap, dVar_ap, dVarB_ap, slV_va, slB_va, dC_ap, dNrm_ap, dNil_ap, dCons_ap, consT_ap, dTup_ap, dLst_ap, dBi_ap, tupO_ap, dCall_ap, dIx_ap, fnE_0, fnE_1, fnE_2, fnE_3, fnE_4, fnE_5, kIx_tup, kIx_lst, dIf_ap, kIf_t, kIf_f, dNotT_ap, kNot_ap, dNotV_ap, kNotV_ap, dTru_ap, kTru_bl, dAndT_ap, kAnd_t, kAnd_f, dOrT_ap, kOr_t, kOr_f, dAndV_ap, kAndV_t, kAndV_f, dOrV_ap, kOrV_t, kOrV_f, dItems_ap, dZip_ap, dComp_ap, dFor_ap, dM1_ap, kM1_xt, dAsgT2_ap, kT2_ap, dRng1_ap, dPar2_ap, dPar3_ap, kP2_ap, kP3_ap, dCut_ap, dPart_ap, kPart_i, bLen_tup, bLen_lst, frzA_nil, frzA_cons, frzS_no, frzS_va, ixF_0, ixF_1, Bool.not_true, Bool.not_false, getS_0, getS_1, getS_2, getS_3, getS_4, getS_5, getS_6, getS_7, getS_8, getS_9, getS_10, getS_11, getS_12, getS_13, getS_14, getS_15, getS_16, getS_17, getS_18, getS_19, getS_20, getS_21, set_0, set_1, set_2, set_3, set_4, set_5, set_6, set_7, set_8, set_9, set_10, set_11, set_12, set_13, set_14, set_15, set_16, set_17, set_18, set_19, set_20, set_21, mkT_0, mkT_1, mkT_2, mkT_3, mkT_4, mkT_5, mkT_6, mkT_7, mkT_8, mkT_9, mkT_10, mkT_11, mkT_12, mkL_0, mkL_1, mkL_2, mkL_3, mkL_4, mkL_5, mkL_6, mkL_7, mkL_8, mkL_9, mkL_10, mkL_11, mkL_12, e3]
      unfold wv
      simp (config := { implicitDefEqProofs := false }) only [run_ap, List.map_cons, List.map_nil, List.replicate, List.cons_append, List.nil_append, bO_ok, bO_exc, sO_nx, sO_rt, sO_ex, oR_some, toS_ok, toS_exc, fin_nx, fin_rt, fin_ex, dSeq_ap, dNext_ap, dIfS_ap, kIfS_t, kIfS_f, dAsg_ap, dRet_ap, dDrop_ap, dRaise_ap, dBin_ap, dChain_ap, kCh_t, kCh_f, dUn_ap, dVar_ap, dVarB_ap, slV_va, slB_va, dC_ap, dNrm_ap, dNil_ap, dCons_ap, consT_ap, dTup_ap, dLst_ap, dBi_ap, tupO_ap, dCall_ap, dIx_ap, fnE_0, fnE_1, fnE_2, fnE_3, fnE_4, fnE_5, kIx_tup, kIx_lst, dIf_ap, kIf_t, kIf_f, dNotT_ap, kNot_ap, dNotV_ap, kNotV_ap, dTru_ap, kTru_bl, dAndT_ap, kAnd_t, kAnd_f, dOrT_ap, kOr_t, kOr_f, dAndV_ap, kAndV_t, kAndV_f, dOrV_ap, kOrV_t, kOrV_f, dItems_ap, dZip_ap, dComp_ap, dFor_ap, dM1_ap, kM1_xt, dAsgT2_ap, kT2_ap, dRng1_ap, dPar2_ap, dPar3_ap, kP2_ap, kP3_ap, dCut_ap, dPart_ap, kPart_i, bLen_tup, bLen_lst, frzA_nil, frzA_cons, frzS_no, frzS_va, ixF_0, ixF_1, Bool.not_true, Bool.not_false, getS_0, getS_1, getS_2, getS_3, getS_4, getS_5, getS_6, getS_7, getS_8, getS_9, getS_10, getS_11, getS_12, getS_13, getS_14, getS_15, getS_16, getS_17, getS_18, getS_19, getS_20, getS_21, set_0, set_1, set_2, set_3, set_4, set_5, set_6, set_7, set_8, set_9, set_10, set_11, set_12, set_13, set_14, set_15, set_16, set_17, set_18, set_19, set_20, set_21, mkT_0, mkT_1, mkT_2, mkT_3, mkT_4, mkT_5, mkT_6, mkT_7, mkT_8, mkT_9, mkT_10, mkT_11, mkT_12, mkL_0, mkL_1, mkL_2, mkL_3, mkL_4, mkL_5, mkL_6, mkL_7, mkL_8, mkL_9, mkL_10, mkL_11, mkL_12, List.length_map, eq_i]
      rw [hx, hw, decide_eq_true rfl]
  · have hx := hr x m
    show dCall F_14 1 _ [.va (.tup (List.map wv ws)), .va (wv x), .no, .no] c = _
    unfold wv
    simp (config := { implicitDefEqProofs := false }) only [run_ap, List.map_cons, List.map_nil, List.replicate, List.cons_append, List.nil_append, bO_ok, bO_exc, sO_nx, sO_rt, sO_ex, oR_some, toS_ok, toS_exc, fin_nx, fin_rt, fin_ex, dSeq_ap, dNext_ap, dIfS_ap, kIfS_t, kIfS_f, dAsg_ap, dRet_ap, dDrop_ap, dRaise_ap, dBin_ap, dChain_ap, kCh_t, kCh_f, dUn_ap, dVar_ap, dVarB_ap, slV_va, slB_va, dC_ap, dNrm_ap, dNil_ap, dCons_ap, consT_ap, dTup_ap, dLst_ap, dBi_ap, tupO_ap, dCall_ap, dIx_ap, fnE_0, fnE_1, fnE_2, fnE_3, fnE_4, fnE_5, kIx_tup, kIx_lst, dIf_ap, kIf_t, kIf_f, dNotT_ap, kNot_ap, dNotV_ap, kNotV_ap, dTru_ap, kTru_bl, dAndT_ap, kAnd_t, kAnd_f, dOrT_ap, kOr_t, kOr_f, dAndV_ap, kAndV_t, kAndV_f, dOrV_ap, kOrV_t, kOrV_f, dItems_ap, dZip_ap, dComp_ap, dFor_ap, dM1_ap, kM1_xt, dAsgT2_ap, kT2_ap, dRng1_ap, dPar2_ap, dPar3_ap, kP2_ap, kP3_ap, dCut_ap, dPart_ap, kPart_i, bLen_tup, bLen_lst, frzA_nil, frzA_cons, frzS_no, frzS_va, ixF_0, ixF_1, Bool.not_true, Bool.not_false, getS_0, getS_1, getS_2, getS_3, getS_4, getS_5, getS_6, getS_7, getS_8, getS_9, getS_10, getS_11, getS_12, getS_13, getS_14, getS_15, getS_16, getS_17, getS_18, getS_19, getS_20, getS_21, set_0, set_1, set_2, set_3, set_4, set_5, set_6, set_7, set_8, set_9, set_10, set_11, set_12, set_13, set_14, set_15, set_16, set_17, set_18, set_19, set_20, set_21, mkT_0, mkT_1, mkT_2, mkT_3, mkT_4, mkT_5, mkT_6, mkT_7, mkT_8, mkT_9, mkT_10, mkT_11, mkT_12, mkL_0, mkL_1, mkL_2, mkL_3, mkL_4, mkL_5, mkL_6, mkL_7, mkL_8, mkL_9, mkL_10, mkL_11, mkL_12, f_isword c (show x.2.length ≤ 12 by omega) (by omega)]
end K00
set_option maxHeartbeats 1000000
namespace K00
open PySem PySem.Spec PyProof.Rows L2 RX
/-! ### like -/
inductive Pl : Nat → PV → Prop
  | int {n : Nat} (i : Int) : Pl n (.int i)
  | bl {n : Nat} (b : Bool) : Pl n (.bl b)
  | tup {n : Nat} {xs : List PV} : xs.length ≤ 1000 → (∀ x ∈ xs, Pl n x) → Pl (n + 1) (.tup xs)
  | lst {n : Nat} {xs : List PV} : xs.length ≤ 1000 → (∀ x ∈ xs, Pl n x) → Pl (n + 1) (.lst xs)
theorem s_int (i : Int) (c : Cup) : F_32 [.int i] c = .ok (.int 2) c := by kernel_rfl
theorem s_bl (b : Bool) (c : Cup) : F_32 [.bl b] c = .ok (.int 1) c := by kernel_rfl
theorem s_tup (xs : List PV) (c : Cup) : F_32 [.tup xs] c = .ok (.int 4) c := by kernel_rfl
theorem s_lst (xs : List PV) (c : Cup) : F_32 [.lst xs] c = .ok (.int 5) c := by kernel_rfl
theorem eq_b {a b : Bool} : oEq (.bl a) (.bl b) = some (.bl (decide (a = b))) := by cases a <;> cases b <;> rfl
theorem ne_nn {i : Int} : oNe (.int i) (.int i) = some (.bl false) := by
  show some (PV.bl (!decide (i = i))) = _
  rw [decide_eq_true rfl]
  rfl
theorem like_seq {n : Nat} {c : Cup} {xs : List PV} (tp : Bool) (h : xs.length ≤ 1000) (ih : ∀ x ∈ xs, R_33 n [x, x] c = .ok (.bl true) c) : R_33 (n + 1) [bif tp then .tup xs else .lst xs, bif tp then .tup xs else .lst xs] c = .ok (.bl true) c := by
  show runS (s_33 (R_33 n)) _ _ c = _
  rw [n_33]
  unfold b_33
  have ez : lenOk (zipL xs xs) = true := lenOk_of (by rw [zipL_len]; omega)
  have t1 : oEq (.int 4) (.int 6) = some (.bl false) := rfl
  have t2 : oEq (.int 5) (.int 6) = some (.bl false) := rfl
  have t3 : oIn false (.int 4) (.tup [.int 4, .int 5]) = some (.bl true) := rfl
  have t4 : oIn false (.int 5) (.tup [.int 4, .int 5]) = some (.bl true) := rfl
  have t5 : oEq (.lst []) (.lst []) = some (.bl true) := rfl
  have t6 : oEq (.int (xs.length : Nat)) (.int (xs.length : Nat)) = some (.bl true) := by rw [eq_i, decide_eq_true rfl]
  cases tp with
  | true =>
    simp only [cond_true]
    simp (config := { implicitDefEqProofs := false }) only [run_ap, List.map_cons, List.map_nil, List.replicate, List.cons_append, List.nil_append, bO_ok, bO_exc, sO_nx, sO_rt, sO_ex, oR_some, toS_ok, toS_exc, fin_nx, fin_rt, fin_ex, dSeq_ap, dNext_ap, dIfS_ap, kIfS_t, kIfS_f, dAsg_ap, dRet_ap, dDrop_ap, dRaise_ap, dBin_ap, dChain_ap, kCh_t, kCh_f, dUn_ap, dVar_ap, dVarB_ap, slV_va, slB_va, dC_ap, dNrm_ap, dNil_ap, dCons_ap, consT_ap, dTup_ap, dLst_ap, dBi_ap, tupO_ap, dCall_ap, dIx_ap, fnE_0, fnE_1, fnE_2, fnE_3, fnE_4, fnE_5, kIx_tup, kIx_lst, dIf_ap, kIf_t, kIf_f, dNotT_ap, kNot_ap, dNotV_ap, kNotV_ap, dTru_ap, kTru_bl, dAndT_ap, kAnd_t, kAnd_f, dOrT_ap, kOr_t, kOr_f, dAndV_ap, kAndV_t, kAndV_f, dOrV_ap, kOrV_t, kOrV_f, dItems_ap, dZip_ap, dComp_ap, dFor_ap, dM1_ap, kM1_xt, dAsgT2_ap, kT2_ap, dRng1_ap, dPar2_ap, dPar3_ap, kP2_ap, kP3_ap, dCut_ap, dPart_ap, kPart_i, bLen_tup, bLen_lst, frzA_nil, frzA_cons, frzS_no, frzS_va, ixF_0, ixF_1, Bool.not_true, Bool.not_false, getS_0, getS_1, getS_2, getS_3, getS_4, getS_5, getS_6, getS_7, getS_8, getS_9, getS_10, getS_11, getS_12, getS_13, getS_14, getS_15, getS_16, getS_17, getS_18, getS_19, getS_20, getS_21, set_0, set_1, set_2, set_3, set_4, set_5, set_6, set_7, set_8, set_9, set_10, set_11, set_12, set_13, set_14, set_15, set_16, set_17, set_18, set_19, set_20, set_21, mkT_0, mkT_1, mkT_2, mkT_3, mkT_4, mkT_5, mkT_6, mkT_7, mkT_8, mkT_9, mkT_10, mkT_11, mkT_12, mkL_0, mkL_1, mkL_2, mkL_3, mkL_4, mkL_5, mkL_6, mkL_7, mkL_8, mkL_9, mkL_10, mkL_11, mkL_12, s_tup, ne_nn, t1, t3, t6, kZip_tt ez]
    rw [zip_self, walk_none rfl (fun x m acc => turn_no rfl ?_)]
    · simp (config := { implicitDefEqProofs := false }) only [run_ap, List.map_cons, List.map_nil, List.replicate, List.cons_append, List.nil_append, bO_ok, bO_exc, sO_nx, sO_rt, sO_ex, oR_some, toS_ok, toS_exc, fin_nx, fin_rt, fin_ex, dSeq_ap, dNext_ap, dIfS_ap, kIfS_t, kIfS_f, dAsg_ap, dRet_ap, dDrop_ap, dRaise_ap, dBin_ap, dChain_ap, kCh_t, kCh_f, dUn_ap, dVar_ap, dVarB_ap, slV_va, slB_va, dC_ap, dNrm_ap, dNil_ap, dCons_ap, consT_ap, dTup_ap, dLst_ap, dBi_ap, tupO_ap, dCall_ap, dIx_ap, fnE_0, fnE_1, fnE_2, fnE_3, fnE_4, fnE_5, kIx_tup, kIx_lst, dIf_ap, kIf_t, kIf_f, dNotT_ap, kNot_ap, dNotV_ap, kNotV_ap, dTru_ap, kTru_bl, dAndT_ap, kAnd_t, kAnd_f, dOrT_ap, kOr_t, kOr_f, dAndV_ap, kAndV_t, kAndV_f, dOrV_ap, kOrV_t, kOrV_f, dItems_ap, dZip_ap, dComp_ap, dFor_ap, dM1_ap, kM1_xt, dAsgT2_ap, kT2_ap, dRng1_ap, dPar2_ap, dPar3_ap, kP2_ap, kP3_ap, dCut_ap, dPart_ap, kPart_i, bLen_tup, bLen_lst, frzA_nil, frzA_cons, frzS_no, frzS_va, ixF_0, ixF_1, Bool.not_true, Bool.not_false, getS_0, getS_1, getS_2, getS_3, getS_4, getS_5, getS_6, getS_7, getS_8, getS_9, getS_10, getS_11, getS_12, getS_13, getS_14, getS_15, getS_16, getS_17, getS_18, getS_19, getS_20, getS_21, set_0, set_1, set_2, set_3, set_4, set_5, set_6, set_7, set_8, set_9, set_10, set_11, set_12, set_13, set_14, set_15, set_16, set_17, set_18, set_19, set_20, set_21, mkT_0, mkT_1, mkT_2, mkT_3, mkT_4, mkT_5, mkT_6, mkT_7, mkT_8, mkT_9, mkT_10, mkT_11, mkT_12, mkL_0, mkL_1, mkL_2, mkL_3, mkL_4, mkL_5, mkL_6, mkL_7, mkL_8, mkL_9, mkL_10, mkL_11, mkL_12, t5]
    · have q := ih x m
      show dNotT _ [.va (.tup xs), .va (.tup xs), .va (.int 4), .no, .va x, .va x] c = _
      simp (config := { implicitDefEqProofs := false }) only [run_ap, List.map_cons, List.map_nil, List.replicate, List.cons_append, List.nil_append, bO_ok, bO_exc, sO_nx, sO_rt, sO_ex, oR_some, toS_ok, toS_exc, fin_nx, fin_rt, fin_ex, dSeq_ap, dNext_ap, dIfS_ap, kIfS_t, kIfS_f, dAsg_ap, dRet_ap, dDrop_ap, dRaise_ap, dBin_ap, dChain_ap, kCh_t, kCh_f, dUn_ap, dVar_ap, dVarB_ap, slV_va, slB_va, dC_ap, dNrm_ap, dNil_ap, dCons_ap, consT_ap, dTup_ap, dLst_ap, dBi_ap, tupO_ap, dCall_ap, dIx_ap, fnE_0, fnE_1, fnE_2, fnE_3, fnE_4, fnE_5, kIx_tup, kIx_lst, dIf_ap, kIf_t, kIf_f, dNotT_ap, kNot_ap, dNotV_ap, kNotV_ap, dTru_ap, kTru_bl, dAndT_ap, kAnd_t, kAnd_f, dOrT_ap, kOr_t, kOr_f, dAndV_ap, kAndV_t, kAndV_f, dOrV_ap, kOrV_t, kOrV_f, dItems_ap, dZip_ap, dComp_ap, dFor_ap, dM1_ap, kM1_xt, dAsgT2_ap, kT2_ap, dRng1_ap, dPar2_ap, dPar3_ap, kP2_ap, kP3_ap, dCut_ap, dPart_ap, kPart_i, bLen_tup, bLen_lst, frzA_nil, frzA_cons, frzS_no, frzS_va, ixF_0, ixF_1, Bool.not_true, Bool.not_false, getS_0, getS_1, getS_2, getS_3, getS_4, getS_5, getS_6, getS_7, getS_8, getS_9, getS_10, getS_11, getS_12, getS_13, getS_14, getS_15, getS_16, getS_17, getS_18, getS_19, getS_20, getS_21, set_0, set_1, set_2, set_3, set_4, set_5, set_6, set_7, set_8, set_9, set_10, set_11, set_12, set_13, set_14, set_15, set_16, set_17, set_18, set_19, set_20, set_21, mkT_0, mkT_1, mkT_2, mkT_3, mkT_4, mkT_5, mkT_6, mkT_7, mkT_8, mkT_9, mkT_10, mkT_11, mkT_12, mkL_0, mkL_1, mkL_2, mkL_3, mkL_4, mkL_5, mkL_6, mkL_7, mkL_8, mkL_9, mkL_10, mkL_11, mkL_12, q]
  | false =>
    simp only [cond_false]
    simp (config := { implicitDefEqProofs := false }) only [run_ap, List.map_cons, List.map_nil, List.replicate, List.cons_append, List.nil_append, bO_ok, bO_exc, sO_nx, sO_rt, sO_ex, oR_some, toS_ok, toS_exc, fin_nx, fin_rt, fin_ex, dSeq_ap, dNext_ap, dIfS_ap, kIfS_t, kIfS_f, dAsg_ap, dRet_ap, dDrop_ap, dRaise_ap, dBin_ap, dChain_ap, kCh_t, kCh_f, dUn_ap, dVar_ap, dVarB_ap, slV_va, slB_va, dC_ap, dNrm_ap, dNil_ap, dCons_ap, consT_ap, dTup_ap, dLst_ap, dBi_ap, tupO_ap, dCall_ap, dIx_ap, fnE_0, fnE_1, fnE_2, fnE_3, fnE_4, fnE_5, kIx_tup, kIx_lst, dIf_ap, kIf_t, kIf_f, dNotT_ap, kNot_ap, dNotV_ap, kNotV_ap, dTru_ap, kTru_bl, dAndT_ap, kAnd_t, kAnd_f, dOrT_ap, kOr_t, kOr_f, dAndV_ap, kAndV_t, kAndV_f, dOrV_ap, kOrV_t, kOrV_f, dItems_ap, dZip_ap, dComp_ap, dFor_ap, dM1_ap, kM1_xt, dAsgT2_ap, kT2_ap, dRng1_ap, dPar2_ap, dPar3_ap, kP2_ap, kP3_ap, dCut_ap, dPart_ap, kPart_i, bLen_tup, bLen_lst, frzA_nil, frzA_cons, frzS_no, frzS_va, ixF_0, ixF_1, Bool.not_true, Bool.not_false, getS_0, getS_1, getS_2, getS_3, getS_4, getS_5, getS_6, getS_7, getS_8, getS_9, getS_10, getS_11, getS_12, getS_13, getS_14, getS_15, getS_16, getS_17, getS_18, getS_19, getS_20, getS_21, set_0, set_1, set_2, set_3, set_4, set_5, set_6, set_7, set_8, set_9, set_10, set_11, set_12, set_13, set_14, set_15, set_16, set_17, set_18, set_19, set_20, set_21, mkT_0, mkT_1, mkT_2, mkT_3, mkT_4, mkT_5, mkT_6, mkT_7, mkT_8, mkT_9, mkT_10, mkT_11, mkT_12, mkL_0, mkL_1, mkL_2, mkL_3, mkL_4, mkL_5, mkL_6, mkL_7, mkL_8, mkL_9, mkL_10, mkL_11, mkL_12, s_lst, ne_nn, t2, t4, t6, kZip_ll ez]
    rw [zip_self, walk_none rfl (fun x m acc => turn_no rfl ?_)]
    · simp (config := { implicitDefEqProofs := false }) only [run_ap, List.map_cons, List.map_nil, List.replicate, List.cons_append, List.nil_append, bO_ok, bO_exc, sO_nx, sO_rt, sO_ex, oR_some, toS_ok, toS_exc, fin_nx, fin_rt, fin_ex, dSeq_ap, dNext_ap, dIfS_ap, kIfS_t, kIfS_f, dAsg_ap, dRet_ap, dDrop_ap, dRaise_ap, dBin_ap, dChain_ap, kCh_t, kCh_f, dUn_ap, dVar_ap, dVarB_ap, slV_va, slB_va, dC_ap, dNrm_ap, dNil_ap, dCons_ap, consT_ap, dTup_ap, dLst_ap, dBi_ap, tupO_ap, dCall_ap, dIx_ap, fnE_0, fnE_1, fnE_2, fnE_3, fnE_4, fnE_5, kIx_tup, kIx_lst, dIf_ap, kIf_t, kIf_f, dNotT_ap, kNot_ap, dNotV_ap, kNotV_ap, dTru_ap, kTru_bl, dAndT_ap, kAnd_t, kAnd_f, dOrT_ap, kOr_t, kOr_f, dAndV_ap, kAndV_t, kAndV_f, dOrV_ap, kOrV_t, kOrV_f, dItems_ap, dZip_ap, dComp_ap, dFor_ap, dM1_ap, kM1_xt, dAsgT2_ap, kT2_ap, dRng1_ap, dPar2_ap, dPar3_ap, kP2_ap, kP3_ap, dCut_ap, dPart_ap, kPart_i, bLen_tup, bLen_lst, frzA_nil, frzA_cons, frzS_no, frzS_va, ixF_0, ixF_1, Bool.not_true, Bool.not_false, getS_0, getS_1, getS_2, getS_3, getS_4, getS_5, getS_6, getS_7, getS_8, getS_9, getS_10, getS_11, getS_12, getS_13, getS_14, getS_15, getS_16, getS_17, getS_18, getS_19, getS_20, getS_21, set_0, set_1, set_2, set_3, set_4, set_5, set_6, set_7, set_8, set_9, set_10, set_11, set_12, set_13, set_14, set_15, set_16, set_17, set_18, set_19, set_20, set_21, mkT_0, mkT_1, mkT_2, mkT_3, mkT_4, mkT_5, mkT_6, mkT_7, mkT_8, mkT_9, mkT_10, mkT_11, mkT_12, mkL_0, mkL_1, mkL_2, mkL_3, mkL_4, mkL_5, mkL_6, mkL_7, mkL_8, mkL_9, mkL_10, mkL_11, mkL_12, t5]
    · have q := ih x m
      show dNotT _ [.va (.lst xs), .va (.lst xs), .va (.int 5), .no, .va x, .va x] c = _
      simp (config := { implicitDefEqProofs := false }) only [run_ap, List.map_cons, List.map_nil, List.replicate, List.cons_append, List.nil_append, bO_ok, bO_exc, sO_nx, sO_rt, sO_ex, oR_some, toS_ok, toS_exc, fin_nx, fin_rt, fin_ex, dSeq_ap, dNext_ap, dIfS_ap, kIfS_t, kIfS_f, dAsg_ap, dRet_ap, dDrop_ap, dRaise_ap, dBin_ap, dChain_ap, kCh_t, kCh_f, dUn_ap, dVar_ap, dVarB_ap, slV_va, slB_va, dC_ap, dNrm_ap, dNil_ap, dCons_ap, consT_ap, dTup_ap, dLst_ap, dBi_ap, tupO_ap, dCall_ap, dIx_ap, fnE_0, fnE_1, fnE_2, fnE_3, fnE_4, fnE_5, kIx_tup, kIx_lst, dIf_ap, kIf_t, kIf_f, dNotT_ap, kNot_ap, dNotV_ap, kNotV_ap, dTru_ap, kTru_bl, dAndT_ap, kAnd_t, kAnd_f, dOrT_ap, kOr_t, kOr_f, dAndV_ap, kAndV_t, kAndV_f, dOrV_ap, kOrV_t, kOrV_f, dItems_ap, dZip_ap, dComp_ap, dFor_ap, dM1_ap, kM1_xt, dAsgT2_ap, kT2_ap, dRng1_ap, dPar2_ap, dPar3_ap, kP2_ap, kP3_ap, dCut_ap, dPart_ap, kPart_i, bLen_tup, bLen_lst, frzA_nil, frzA_cons, frzS_no, frzS_va, ixF_0, ixF_1, Bool.not_true, Bool.not_false, getS_0, getS_1, getS_2, getS_3, getS_4, getS_5, getS_6, getS_7, getS_8, getS_9, getS_10, getS_11, getS_12, getS_13, getS_14, getS_15, getS_16, getS_17, getS_18, getS_19, getS_20, getS_21, set_0, set_1, set_2, set_3, set_4, set_5, set_6, set_7, set_8, set_9, set_10, set_11, set_12, set_13, set_14, set_15, set_16, set_17, set_18, set_19, set_20, set_21, mkT_0, mkT_1, mkT_2, mkT_3, mkT_4, mkT_5, mkT_6, mkT_7, mkT_8, mkT_9, mkT_10, mkT_11, mkT_12, mkL_0, mkL_1, mkL_2, mkL_3, mkL_4, mkL_5, mkL_6, mkL_7, mkL_8, mkL_9, mkL_10, mkL_11, mkL_12, q]
theorem like_int (n : Nat) (i : Int) (c : Cup) : R_33 (n + 1) [.int i, .int i] c = .ok (.bl true) c := by
  show runS (s_33 (R_33 n)) _ _ c = _
  rw [n_33]
  unfold b_33
  have t1 : oEq (.int 2) (.int 6) = some (.bl false) := rfl
  have t3 : oIn false (.int 2) (.tup [.int 4, .int 5]) = some (.bl false) := rfl
  have t6 : oEq (.int i) (.int i) = some (.bl true) := by rw [eq_i, decide_eq_true rfl]
  simp (config := { implicitDefEqProofs := false }) only [run_ap, List.map_cons, List.map_nil, List.replicate, List.cons_append, List.nil_append, bO_ok, bO_exc, sO_nx, sO_rt, sO_ex, oR_some, toS_ok, toS_exc, fin_nx, fin_rt, fin_ex, dSeq_ap, dNext_ap, dIfS_ap, kIfS_t, kIfS_f, dAsg_ap, dRet_ap, dDrop_ap, dRaise_ap, dBin_ap, dChain_ap, kCh_t, kCh_f, dUn_ap, dVar_ap, dVarB_ap, slV_va, slB_va, dC_ap, dNrm_ap, dNil_ap, dCons_ap, consT_ap, dTup_ap, dLst_ap, dBi_ap, tupO_ap, dCall_ap, dIx_ap, fnE_0, fnE_1, fnE_2, fnE_3, fnE_4, fnE_5, kIx_tup, kIx_lst, dIf_ap, kIf_t, kIf_f, dNotT_ap, kNot_ap, dNotV_ap, kNotV_ap, dTru_ap, kTru_bl, dAndT_ap, kAnd_t, kAnd_f, dOrT_ap, kOr_t, kOr_f, dAndV_ap, kAndV_t, kAndV_f, dOrV_ap, kOrV_t, kOrV_f, dItems_ap, dZip_ap, dComp_ap, dFor_ap, dM1_ap, kM1_xt, dAsgT2_ap, kT2_ap, dRng1_ap, dPar2_ap, dPar3_ap, kP2_ap, kP3_ap, dCut_ap, dPart_ap, kPart_i, bLen_tup, bLen_lst, frzA_nil, frzA_cons, frzS_no, frzS_va, ixF_0, ixF_1, Bool.not_true, Bool.not_false, getS_0, getS_1, getS_2, getS_3, getS_4, getS_5, getS_6, getS_7, getS_8, getS_9, getS_10, getS_11, getS_12, getS_13, getS_14, getS_15, getS_16, getS_17, getS_18, getS_19, getS_20, getS_21, set_0, set_1, set_2, set_3, set_4, set_5, set_6, set_7, set_8, set_9, set_10, set_11, set_12, set_13, set_14, set_15, set_16, set_17, set_18, set_19, set_20, set_21, mkT_0, mkT_1, mkT_2, mkT_3, mkT_4, mkT_5, mkT_6, mkT_7, mkT_8, mkT_9, mkT_10, mkT_11, mkT_12, mkL_0, mkL_1, mkL_2, mkL_3, mkL_4, mkL_5, mkL_6, mkL_7, mkL_8, mkL_9, mkL_10, mkL_11, mkL_12, s_int, ne_nn, t1, t3, t6]
theorem like_bl (n : Nat) (b : Bool) (c : Cup) : R_33 (n + 1) [.bl b, .bl b] c = .ok (.bl true) c := by
  show runS (s_33 (R_33 n)) _ _ c = _
  rw [n_33]
  unfold b_33
  have t1 : oEq (.int 1) (.int 6) = some (.bl false) := rfl
  have t3 : oIn false (.int 1) (.tup [.int 4, .int 5]) = some (.bl false) := rfl
  have t6 : oEq (.bl b) (.bl b) = some (.bl true) := by rw [eq_b, decide_eq_true rfl]
  simp (config := { implicitDefEqProofs := false }) only [run_ap, List.map_cons, List.map_nil, List.replicate, List.cons_append, List.nil_append, bO_ok, bO_exc, sO_nx, sO_rt, sO_ex, oR_some, toS_ok, toS_exc, fin_nx, fin_rt, fin_ex, dSeq_ap, dNext_ap, dIfS_ap, kIfS_t, kIfS_f, dAsg_ap, dRet_ap, dDrop_ap, dRaise_ap, dBin_ap, dChain_ap, kCh_t, kCh_f, dUn_ap, dVar_ap, dVarB_ap, slV_va, slB_va, dC_ap, dNrm_ap, dNil_ap, dCons_ap, consT_ap, dTup_ap, dLst_ap, dBi_ap, tupO_ap, dCall_ap, dIx_ap, fnE_0, fnE_1, fnE_2, fnE_3, fnE_4, fnE_5, kIx_tup, kIx_lst, dIf_ap, kIf_t, kIf_f, dNotT_ap, kNot_ap, dNotV_ap, kNotV_ap, dTru_ap, kTru_bl, dAndT_ap, kAnd_t, kAnd_f, dOrT_ap, kOr_t, kOr_f, dAndV_ap, kAndV_t, kAndV_f, dOrV_ap, kOrV_t, kOrV_f, dItems_ap, dZip_ap, dComp_ap, dFor_ap, dM1_ap, kM1_xt, dAsgT2_ap, kT2_ap, dRng1_ap, dPar2_ap, dPar3_ap, kP2_ap, kP3_ap, dCut_ap, dPart_ap, kPart_i, bLen_tup, bLen_lst, frzA_nil, frzA_cons, frzS_no, frzS_va, ixF_0, ixF_1, Bool.not_true, Bool.not_false, getS_0, getS_1, getS_2, getS_3, getS_4, getS_5, getS_6, getS_7, getS_8, getS_9, getS_10, getS_11, getS_12, getS_13, getS_14, getS_15, getS_16, getS_17, getS_18, getS_19, getS_20, getS_21, set_0, set_1, set_2, set_3, set_4, set_5, set_6, set_7, set_8, set_9, set_10, set_11, set_12, set_13, set_14, set_15, set_16, set_17, set_18, set_19, set_20, set_21, mkT_0, mkT_1, mkT_2, mkT_3, mkT_4, mkT_5, mkT_6, mkT_7, mkT_8, mkT_9, mkT_10, mkT_11, mkT_12, mkL_0, mkL_1, mkL_2, mkL_3, mkL_4, mkL_5, mkL_6, mkL_7, mkL_8, mkL_9, mkL_10, mkL_11, mkL_12, s_bl, ne_nn, t1, t3, t6]
theorem like_refl {n : Nat} {x : PV} (h : Pl n x) : ∀ c : Cup, R_33 (n + 1) [x, x] c = .ok (.bl true) c := by
  induction h with
  | int i => exact fun c => like_int _ i c
  | bl b => exact fun c => like_bl _ b c
  | tup hl h ih => exact fun c => like_seq true hl fun x m => ih x m c
  | lst hl h ih => exact fun c => like_seq false hl fun x m => ih x m c
end K00
set_option maxHeartbeats 1000000
namespace K00
open PySem PySem.Spec PyProof.Rows L2 RX
/-! ### the dice, words drawn -/
def Gd (c : Cup) : Prop := ∃ a b : Int, c = [.int a, .int b]
theorem nr_30 : s_30 = rollS 28961 10111 2147483543 367 2147483587 971 := by kernel_rfl
theorem roll30 {m : Int} (hm : 0 < m) (hm2 : m < 1073741824) {c : Cup} (g : Gd c) : ∃ r c2, F_30 [.box, .int m] c = .ok (.int r) c2 ∧ 0 ≤ r ∧ r < m ∧ Gd c2 := by
  obtain ⟨a, b, rfl⟩ := g
  have hc : cDiv 0 m = true := by
    unfold cDiv
    rw [Bool.and_eq_true, decide_eq_true_eq, decide_eq_true_eq]
    exact ⟨hm, hm2⟩
  obtain ⟨r, a', b', e, h1, h2⟩ := roll_ok (A := 28961) (B := 10111) (M := 2147483543) (C := 367) (M2 := 2147483587) (D := 971) (m := m) rfl (by decide) (by decide) (by decide) rfl hm hc a b
  refine ⟨r, _, ?_, h1, h2, a', b', rfl⟩
  show runS s_30 2 _ _ = _
  rw [nr_30]
  exact e
theorem roll4 {c : Cup} (g : Gd c) : ∃ (l : L4) (c2 : Cup), F_30 [.box, .int 4] c = .ok (lv l) c2 ∧ Gd c2 := by
  obtain ⟨r, c2, e, h1, h2, g2⟩ := roll30 (m := 4) (by decide) (by decide) g
  have h : r = 0 ∨ r = 1 ∨ r = 2 ∨ r = 3 := by omega
  rcases h with rfl | rfl | rfl | rfl
  · exact ⟨.i, c2, e, g2⟩
  · exact ⟨.x, c2, e, g2⟩
  · exact ⟨.z, c2, e, g2⟩
  · exact ⟨.y, c2, e, g2⟩
/-- a word as it is drawn: its letters' tuple is known -/
def xw (t : L4) (ls : List L4) : PV := .tup [lv t, .xt (ls.map lv)]
theorem word_turn (p : PV) (x : PV) (c : Cup) (acc : List PV) (g : Gd c) : ∃ (a : L4) (c2 : Cup), turn1 (gS 3) (dC (.bl true)) (dCall F_30 2 (dCons (dVar 0) (dCons (dC (.int 4)) dNil))) (wipeE [.va .box, .va p, .no, .no] [2, 3]) x acc c = some (lv a :: acc, c2) ∧ Gd c2 := by
  obtain ⟨l, c2, e, g2⟩ := roll4 g
  have q : dCall F_30 2 (dCons (dVar 0) (dCons (dC (.int 4)) dNil)) [.va .box, .va p, .no, .va x] c = .ok (lv l) c2 := by
    simp (config := { implicitDefEqProofs := false }) only [run_ap, List.map_cons, List.map_nil, List.replicate, List.cons_append, List.nil_append, bO_ok, bO_exc, sO_nx, sO_rt, sO_ex, oR_some, toS_ok, toS_exc, fin_nx, fin_rt, fin_ex, dSeq_ap, dNext_ap, dIfS_ap, kIfS_t, kIfS_f, dAsg_ap, dRet_ap, dDrop_ap, dRaise_ap, dBin_ap, dChain_ap, kCh_t, kCh_f, dUn_ap, dVar_ap, dVarB_ap, slV_va, slB_va, dC_ap, dNrm_ap, dNil_ap, dCons_ap, consT_ap, dTup_ap, dLst_ap, dBi_ap, tupO_ap, dCall_ap, dIx_ap, fnE_0, fnE_1, fnE_2, fnE_3, fnE_4, fnE_5, kIx_tup, kIx_lst, dIf_ap, kIf_t, kIf_f, dNotT_ap, kNot_ap, dNotV_ap, kNotV_ap, dTru_ap, kTru_bl, dAndT_ap, kAnd_t, kAnd_f, dOrT_ap, kOr_t, kOr_f, dAndV_ap, kAndV_t, kAndV_f, dOrV_ap, kOrV_t, kOrV_f, dItems_ap, dZip_ap, dComp_ap, dFor_ap, dM1_ap, kM1_xt, dAsgT2_ap, kT2_ap, dRng1_ap, dPar2_ap, dPar3_ap, kP2_ap, kP3_ap, dCut_ap, dPart_ap, kPart_i, bLen_tup, bLen_lst, frzA_nil, frzA_cons, frzS_no, frzS_va, ixF_0, ixF_1, Bool.not_true, Bool.not_false, getS_0, getS_1, getS_2, getS_3, getS_4, getS_5, getS_6, getS_7, getS_8, getS_9, getS_10, getS_11, getS_12, getS_13, getS_14, getS_15, getS_16, getS_17, getS_18, getS_19, getS_20, getS_21, set_0, set_1, set_2, set_3, set_4, set_5, set_6, set_7, set_8, set_9, set_10, set_11, set_12, set_13, set_14, set_15, set_16, set_17, set_18, set_19, set_20, set_21, mkT_0, mkT_1, mkT_2, mkT_3, mkT_4, mkT_5, mkT_6, mkT_7, mkT_8, mkT_9, mkT_10, mkT_11, mkT_12, mkL_0, mkL_1, mkL_2, mkL_3, mkL_4, mkL_5, mkL_6, mkL_7, mkL_8, mkL_9, mkL_10, mkL_11, mkL_12, e]
  exact ⟨l, c2, turn_cup (env2 := [.va .box, .va p, .no, .va x]) rfl q, g2⟩
theorem word_ok {p : Nat} (hp : p ≤ 12) {c : Cup} (g : Gd c) : ∃ t ls c2, F_34 [.box, .int (p : Nat)] c = .ok (xw t ls) c2 ∧ ls.length = p ∧ Gd c2 := by
  obtain ⟨t, c1, e1, g1⟩ := roll4 g
  obtain ⟨ls, c2, e2, l2, g2⟩ := walk_cup (xs := upto 0 p) (env := [.va .box, .va (.int (p : Nat)), .no, .no]) (vs := [2, 3]) (c := c1) rfl (by rw [upto_l]; omega) g1 fun x c acc g => word_turn (.int (p : Nat)) x c acc g
  have hl : ls.length = p := by rw [l2, upto_l]
  have e0 : F_34 [.box, .int (p : Nat)] c = .ok (xw t ls) c2 := by
    unfold F_34
    rw [n_34]
    unfold b_34
    have e3 : bXt [.lst (ls.map lv)] = some (.xt (ls.map lv)) := rfl
    simp (config := { implicitDefEqProofs := false }) only [run_ap, List.map_cons, List.map_nil, List.replicate, List.cons_append, List.nil_append, bO_ok, bO_exc, sO_nx, sO_rt, sO_ex, oR_some, toS_ok, toS_exc, fin_nx, fin_rt, fin_ex, dSeq_ap, dNext_ap, dIfS_ap, kIfS_t, kIfS_f, dAsg_ap, dRet_ap, dDrop_ap, dRaise_ap, dBin_ap, dChain_ap, kCh_t, kCh_f, dUn_ap, dVar_ap, dVarB_ap, slV_va, slB_va, dC_ap, dNrm_ap, dNil_ap, dCons_ap, consT_ap, dTup_ap, dLst_ap, dBi_ap, tupO_ap, dCall_ap, dIx_ap, fnE_0, fnE_1, fnE_2, fnE_3, fnE_4, fnE_5, kIx_tup, kIx_lst, dIf_ap, kIf_t, kIf_f, dNotT_ap, kNot_ap, dNotV_ap, kNotV_ap, dTru_ap, kTru_bl, dAndT_ap, kAnd_t, kAnd_f, dOrT_ap, kOr_t, kOr_f, dAndV_ap, kAndV_t, kAndV_f, dOrV_ap, kOrV_t, kOrV_f, dItems_ap, dZip_ap, dComp_ap, dFor_ap, dM1_ap, kM1_xt, dAsgT2_ap, kT2_ap, dRng1_ap, dPar2_ap, dPar3_ap, kP2_ap, kP3_ap, dCut_ap, dPart_ap, kPart_i, bLen_tup, bLen_lst, frzA_nil, frzA_cons, frzS_no, frzS_va, ixF_0, ixF_1, Bool.not_true, Bool.not_false, getS_0, getS_1, getS_2, getS_3, getS_4, getS_5, getS_6, getS_7, getS_8, getS_9, getS_10, getS_11, getS_12, getS_13, getS_14, getS_15, getS_16, getS_17, getS_18, getS_19, getS_20, getS_21, set_0, set_1, set_2, set_3, set_4, set_5, set_6, set_7, set_8, set_9, set_10, set_11, set_12, set_13, set_14, set_15, set_16, set_17, set_18, set_19, set_20, set_21, mkT_0, mkT_1, mkT_2, mkT_3, mkT_4, mkT_5, mkT_6, mkT_7, mkT_8, mkT_9, mkT_10, mkT_11, mkT_12, mkL_0, mkL_1, mkL_2, mkL_3, mkL_4, mkL_5, mkL_6, mkL_7, mkL_8, mkL_9, mkL_10, mkL_11, mkL_12, e1, kRng1_nat (show p ≤ 1000 by omega), e2, e3]
    rfl
  exact ⟨t, ls, c2, e0, hl, g2⟩
theorem nrm_lv (l : L4) : nrm (lv l) = lv l := by cases l <;> rfl
theorem nrmL_lv : ∀ ls : List L4, nrmL (ls.map lv) = ls.map lv
  | [] => rfl
  | l :: r => by
    show nrm (lv l) :: nrmL (r.map lv) = _
    rw [nrm_lv, nrmL_lv r]
    rfl
theorem nrm_xw (t : L4) (ls : List L4) : nrm (xw t ls) = W t ls := by
  show PV.tup [nrm (lv t), .tup (nrmL (ls.map lv))] = _
  rw [nrm_lv, nrmL_lv]
/-! ### the law's product -/
def TT : PV := match F_35 [] [] with
  | .ok v _ => v
  | _ => .non
theorem t_35 (c : Cup) : F_35 [] c = .ok TT c := by kernel_rfl
theorem st_1 (a b : L4) (v0 v1 : PV) (s3 s4 s7 s8 : Sl) (c : Cup) : dAsg (gT 2 (gsCons (gS 7) (gsCons (gS 8) gsNil))) (dCall F_38 1 (dCons (dCall F_37 2 (dCons (dIx (dVarB 2) (dVarB 5)) (dCons (dIx (dVarB 2) (dVarB 6)) dNil))) dNil)) [.va v0, .va v1, .va TT, s3, s4, .va (lv a), .va (lv b), s7, s8] c = .nx [.va v0, .va v1, .va TT, s3, s4, .va (lv a), .va (lv b), .va (.int (tn a b)), .va (lv (ml a b))] c := by
  cases a <;> cases b <;> kernel_rfl
def bd_39 : Sd := dSeq (dAsg (gT 2 (gsCons (gS 7) (gsCons (gS 8) gsNil))) (dCall F_38 1 (dCons (dCall F_37 2 (dCons (dIx (dVarB 2) (dVarB 5)) (dCons (dIx (dVarB 2) (dVarB 6)) dNil))) dNil))) (dPar [(3, false), (4, false)] (dCons (dBin oAdd (dVarB 3) (dVarB 7)) (dCons (dBin oAdd (dVarB 4) (dLst (dCons (dVar 8) dNil))) dNil)))
theorem loop_law {v0 v1 : PV} {c : Cup} : ∀ (ps : List (L4 × L4)) (T : Int) (acc : List PV) (s5 s6 s7 s8 : Sl), acc.length + ps.length ≤ 900 → ∃ t5 t6 t7 t8, loopS (gT 2 (gsCons (gS 5) (gsCons (gS 6) gsNil))) bd_39 (ps.map fun p : L4 × L4 => PV.tup [lv p.1, lv p.2]) [.va v0, .va v1, .va TT, .va (.int T), .va (.lst acc), s5, s6, s7, s8] c =
    .nx [.va v0, .va v1, .va TT, .va (.int (T + (ps.map fun p => tn p.1 p.2).sum)), .va (.lst (acc ++ ps.map fun p => lv (ml p.1 p.2))), t5, t6, t7, t8] c
  | [], T, acc, s5, s6, s7, s8, _ => ⟨s5, s6, s7, s8, by simp [loopS]⟩
  | (a, b) :: r, T, acc, s5, s6, s7, s8, h => by
    rw [List.length_cons] at h
    have e1 := st_1 a b v0 v1 (.va (.int T)) (.va (.lst acc)) s7 s8 c
    have hb : bd_39 [.va v0, .va v1, .va TT, .va (.int T), .va (.lst acc), .va (lv a), .va (lv b), s7, s8] c = .nx [.va v0, .va v1, .va TT, .va (.int (T + tn a b)), .va (.lst (acc ++ [lv (ml a b)])), .va (lv a), .va (lv b), .va (.int (tn a b)), .va (lv (ml a b))] c := by
      unfold bd_39
      rw [dSeq_ap, e1, sO_nx]
      simp (config := { implicitDefEqProofs := false }) only [run_ap, List.map_cons, List.map_nil, List.replicate, List.cons_append, List.nil_append, bO_ok, bO_exc, sO_nx, sO_rt, sO_ex, oR_some, toS_ok, toS_exc, fin_nx, fin_rt, fin_ex, dSeq_ap, dNext_ap, dIfS_ap, kIfS_t, kIfS_f, dAsg_ap, dRet_ap, dDrop_ap, dRaise_ap, dBin_ap, dChain_ap, kCh_t, kCh_f, dUn_ap, dVar_ap, dVarB_ap, slV_va, slB_va, dC_ap, dNrm_ap, dNil_ap, dCons_ap, consT_ap, dTup_ap, dLst_ap, dBi_ap, tupO_ap, dCall_ap, dIx_ap, fnE_0, fnE_1, fnE_2, fnE_3, fnE_4, fnE_5, kIx_tup, kIx_lst, dIf_ap, kIf_t, kIf_f, dNotT_ap, kNot_ap, dNotV_ap, kNotV_ap, dTru_ap, kTru_bl, dAndT_ap, kAnd_t, kAnd_f, dOrT_ap, kOr_t, kOr_f, dAndV_ap, kAndV_t, kAndV_f, dOrV_ap, kOrV_t, kOrV_f, dItems_ap, dZip_ap, dComp_ap, dFor_ap, dM1_ap, kM1_xt, dAsgT2_ap, kT2_ap, dRng1_ap, dPar2_ap, dPar3_ap, kP2_ap, kP3_ap, dCut_ap, dPart_ap, kPart_i, bLen_tup, bLen_lst, frzA_nil, frzA_cons, frzS_no, frzS_va, ixF_0, ixF_1, Bool.not_true, Bool.not_false, getS_0, getS_1, getS_2, getS_3, getS_4, getS_5, getS_6, getS_7, getS_8, getS_9, getS_10, getS_11, getS_12, getS_13, getS_14, getS_15, getS_16, getS_17, getS_18, getS_19, getS_20, getS_21, set_0, set_1, set_2, set_3, set_4, set_5, set_6, set_7, set_8, set_9, set_10, set_11, set_12, set_13, set_14, set_15, set_16, set_17, set_18, set_19, set_20, set_21, mkT_0, mkT_1, mkT_2, mkT_3, mkT_4, mkT_5, mkT_6, mkT_7, mkT_8, mkT_9, mkT_10, mkT_11, mkT_12, mkL_0, mkL_1, mkL_2, mkL_3, mkL_4, mkL_5, mkL_6, mkL_7, mkL_8, mkL_9, mkL_10, mkL_11, mkL_12, add_i, add_ll (show acc.length + [lv (ml a b)].length ≤ 1000 by simp; omega)]
    obtain ⟨t5, t6, t7, t8, h2⟩ := loop_law r (T + tn a b) (acc ++ [lv (ml a b)]) (.va (lv a)) (.va (lv b)) (.va (.int (tn a b))) (.va (lv (ml a b))) (by simp; omega)
    refine ⟨t5, t6, t7, t8, ?_⟩
    show (match bd_39 [.va v0, .va v1, .va TT, .va (.int T), .va (.lst acc), .va (lv a), .va (lv b), s7, s8] c with
      | .nx e c => loopS (gT 2 (gsCons (gS 5) (gsCons (gS 6) gsNil))) bd_39 (r.map fun p : L4 × L4 => PV.tup [lv p.1, lv p.2]) e c
      | .ct e c => loopS (gT 2 (gsCons (gS 5) (gsCons (gS 6) gsNil))) bd_39 (r.map fun p : L4 × L4 => PV.tup [lv p.1, lv p.2]) e c
      | .bk e c => .nx e c
      | .rt v c => .rt v c
      | .ex k c => .ex k c
      | .st => .st) = _
    rw [hb]
    show loopS _ bd_39 _ _ c = _
    rw [h2]
    simp [Int.add_assoc]
theorem law_prod {t t2 : L4} {ls l2 : List L4} (c : Cup) (h : ls.length ≤ 12) : F_39 [W t ls, W t2 l2] c = .ok (W (m4 (li t + li t2 + sm ls l2)) (mm ls l2)) c := by
  unfold F_39
  rw [n_39]
  unfold b_39
  simp (config := { implicitDefEqProofs := false }) only [run_ap, List.map_cons, List.map_nil, List.replicate, List.cons_append, List.nil_append, bO_ok, bO_exc, sO_nx, sO_rt, sO_ex, oR_some, toS_ok, toS_exc, fin_nx, fin_rt, fin_ex, dSeq_ap, dNext_ap, dIfS_ap, kIfS_t, kIfS_f, dAsg_ap, dRet_ap, dDrop_ap, dRaise_ap, dBin_ap, dChain_ap, kCh_t, kCh_f, dUn_ap, dVar_ap, dVarB_ap, slV_va, slB_va, dC_ap, dNrm_ap, dNil_ap, dCons_ap, consT_ap, dTup_ap, dLst_ap, dBi_ap, tupO_ap, dCall_ap, dIx_ap, fnE_0, fnE_1, fnE_2, fnE_3, fnE_4, fnE_5, kIx_tup, kIx_lst, dIf_ap, kIf_t, kIf_f, dNotT_ap, kNot_ap, dNotV_ap, kNotV_ap, dTru_ap, kTru_bl, dAndT_ap, kAnd_t, kAnd_f, dOrT_ap, kOr_t, kOr_f, dAndV_ap, kAndV_t, kAndV_f, dOrV_ap, kOrV_t, kOrV_f, dItems_ap, dZip_ap, dComp_ap, dFor_ap, dM1_ap, kM1_xt, dAsgT2_ap, kT2_ap, dRng1_ap, dPar2_ap, dPar3_ap, kP2_ap, kP3_ap, dCut_ap, dPart_ap, kPart_i, bLen_tup, bLen_lst, frzA_nil, frzA_cons, frzS_no, frzS_va, ixF_0, ixF_1, Bool.not_true, Bool.not_false, getS_0, getS_1, getS_2, getS_3, getS_4, getS_5, getS_6, getS_7, getS_8, getS_9, getS_10, getS_11, getS_12, getS_13, getS_14, getS_15, getS_16, getS_17, getS_18, getS_19, getS_20, getS_21, set_0, set_1, set_2, set_3, set_4, set_5, set_6, set_7, set_8, set_9, set_10, set_11, set_12, set_13, set_14, set_15, set_16, set_17, set_18, set_19, set_20, set_21, mkT_0, mkT_1, mkT_2, mkT_3, mkT_4, mkT_5, mkT_6, mkT_7, mkT_8, mkT_9, mkT_10, mkT_11, mkT_12, mkL_0, mkL_1, mkL_2, mkL_3, mkL_4, mkL_5, mkL_6, mkL_7, mkL_8, mkL_9, mkL_10, mkL_11, mkL_12, t_35, add_lv, zip_walk (show ls.length ≤ 1000 by omega)]
  obtain ⟨t5, t6, t7, t8, h2⟩ := loop_law (v0 := W t ls) (v1 := W t2 l2) (c := c) (ls.zip l2) (li t + li t2) [] .no .no .no .no (by rw [List.length_zip]; simp; omega)
  unfold bd_39 at h2
  rw [h2]
  have q : ((ls.zip l2).map fun p => lv (ml p.1 p.2)) = (mm ls l2).map lv := by
    unfold mm
    rw [List.map_map]
    rfl
  have bi : ∀ i : Int, bInt [.int i] = some (.int i) := fun _ => rfl
  rw [q]
  simp (config := { implicitDefEqProofs := false }) only [run_ap, List.map_cons, List.map_nil, List.replicate, List.cons_append, List.nil_append, bO_ok, bO_exc, sO_nx, sO_rt, sO_ex, oR_some, toS_ok, toS_exc, fin_nx, fin_rt, fin_ex, dSeq_ap, dNext_ap, dIfS_ap, kIfS_t, kIfS_f, dAsg_ap, dRet_ap, dDrop_ap, dRaise_ap, dBin_ap, dChain_ap, kCh_t, kCh_f, dUn_ap, dVar_ap, dVarB_ap, slV_va, slB_va, dC_ap, dNrm_ap, dNil_ap, dCons_ap, consT_ap, dTup_ap, dLst_ap, dBi_ap, tupO_ap, dCall_ap, dIx_ap, fnE_0, fnE_1, fnE_2, fnE_3, fnE_4, fnE_5, kIx_tup, kIx_lst, dIf_ap, kIf_t, kIf_f, dNotT_ap, kNot_ap, dNotV_ap, kNotV_ap, dTru_ap, kTru_bl, dAndT_ap, kAnd_t, kAnd_f, dOrT_ap, kOr_t, kOr_f, dAndV_ap, kAndV_t, kAndV_f, dOrV_ap, kOrV_t, kOrV_f, dItems_ap, dZip_ap, dComp_ap, dFor_ap, dM1_ap, kM1_xt, dAsgT2_ap, kT2_ap, dRng1_ap, dPar2_ap, dPar3_ap, kP2_ap, kP3_ap, dCut_ap, dPart_ap, kPart_i, bLen_tup, bLen_lst, frzA_nil, frzA_cons, frzS_no, frzS_va, ixF_0, ixF_1, Bool.not_true, Bool.not_false, getS_0, getS_1, getS_2, getS_3, getS_4, getS_5, getS_6, getS_7, getS_8, getS_9, getS_10, getS_11, getS_12, getS_13, getS_14, getS_15, getS_16, getS_17, getS_18, getS_19, getS_20, getS_21, set_0, set_1, set_2, set_3, set_4, set_5, set_6, set_7, set_8, set_9, set_10, set_11, set_12, set_13, set_14, set_15, set_16, set_17, set_18, set_19, set_20, set_21, mkT_0, mkT_1, mkT_2, mkT_3, mkT_4, mkT_5, mkT_6, mkT_7, mkT_8, mkT_9, mkT_10, mkT_11, mkT_12, mkL_0, mkL_1, mkL_2, mkL_3, mkL_4, mkL_5, mkL_6, mkL_7, mkL_8, mkL_9, mkL_10, mkL_11, mkL_12, bi, mod4, b_tup, List.nil_append]
  rfl
end K00
set_option maxHeartbeats 1000000
namespace K00
open PySem PySem.Spec PyProof.Rows L2 RX
/-! ### the plain law -/
theorem m4_eq {x y : Int} : m4 x = m4 y ↔ x % 4 = y % 4 := by
  constructor
  · intro h
    have := congrArg li h
    rw [li_m4, li_m4] at this
    exact this
  · intro h
    unfold m4
    rw [h]
theorem m4_li (t : L4) : m4 (li t) = t := by cases t <;> rfl
theorem ml_comm (a b : L4) : ml a b = ml b a := by cases a <;> cases b <;> rfl
theorem mm_comm : ∀ l1 l2 : List L4, mm l1 l2 = mm l2 l1
  | [], [] => rfl
  | [], _ :: _ => rfl
  | _ :: _, [] => rfl
  | a :: r, b :: t => by
    show ml a b :: mm r t = ml b a :: mm t r
    rw [ml_comm, mm_comm r t]
theorem sm_cons {a b : L4} {r t : List L4} : sm (a :: r) (b :: t) = tn a b + sm r t := by
  unfold sm
  rw [List.zip_cons_cons, List.map_cons, List.sum_cons]
theorem mm_cons {a b : L4} {r t : List L4} : mm (a :: r) (b :: t) = ml a b :: mm r t := rfl
theorem opp_cons {a b : L4} {r t : List L4} : opp (a :: r) (b :: t) = (bif anti a b then 1 else 0) + opp r t := by
  unfold opp
  rw [List.zip_cons_cons, List.filter_cons]
  cases e : anti a b with
  | true => simp [e]; omega
  | false => simp [e]
theorem sm_swap : ∀ l1 l2 : List L4, ∃ k : Int, sm l1 l2 = sm l2 l1 + 2 * (opp l1 l2 : Nat) + 4 * k
  | [], [] => ⟨0, rfl⟩
  | [], _ :: _ => ⟨0, rfl⟩
  | _ :: _, [] => ⟨0, rfl⟩
  | a :: r, b :: t => by
    obtain ⟨k, h⟩ := sm_swap r t
    have q : ∃ j : Int, tn a b = tn b a + 2 * ((bif anti a b then 1 else 0 : Nat) : Int) + 4 * j := by
      cases a <;> cases b <;> first | exact ⟨0, rfl⟩ | exact ⟨-1, rfl⟩ | exact ⟨1, rfl⟩
    obtain ⟨j, q⟩ := q
    refine ⟨k + j, ?_⟩
    rw [sm_cons, sm_cons, opp_cons, h, q]
    omega
theorem assoc_m : ∀ a b c : List L4, mm (mm a b) c = mm a (mm b c)
  | [], _, _ => rfl
  | _ :: _, [], _ => rfl
  | _ :: _, _ :: _, [] => rfl
  | x :: r, y :: s, z :: t => by
    rw [mm_cons, mm_cons, mm_cons, mm_cons, assoc_m r s t]
    congr 1
    cases x <;> cases y <;> cases z <;> rfl
theorem assoc_s : ∀ a b c : List L4, a.length = b.length → b.length = c.length → ∃ k : Int, sm a b + sm (mm a b) c = sm b c + sm a (mm b c) + 4 * k
  | [], [], [], _, _ => ⟨0, rfl⟩
  | x :: r, y :: s, z :: t, h1, h2 => by
    obtain ⟨k, h⟩ := assoc_s r s t (by simpa using h1) (by simpa using h2)
    have q : ∃ j : Int, tn x y + tn (ml x y) z = tn y z + tn x (ml y z) + 4 * j := by
      cases x <;> cases y <;> cases z <;> first | exact ⟨0, rfl⟩ | exact ⟨-1, rfl⟩ | exact ⟨1, rfl⟩
    obtain ⟨j, q⟩ := q
    refine ⟨k + j, ?_⟩
    rw [mm_cons, mm_cons, sm_cons, sm_cons, sm_cons, sm_cons]
    omega
theorem sm_self : ∀ l : List L4, sm l l = 0
  | [] => rfl
  | a :: r => by
    rw [sm_cons, sm_self r]
    cases a <;> rfl
theorem mm_self : ∀ l : List L4, mm l l = List.replicate l.length .i
  | [] => rfl
  | a :: r => by
    rw [mm_cons, mm_self r, List.length_cons, List.replicate_succ]
    cases a <;> rfl
theorem sm_one : ∀ l : List L4, sm (List.replicate l.length .i) l = 0
  | [] => rfl
  | a :: r => by
    rw [List.length_cons, List.replicate_succ, sm_cons, sm_one r]
    cases a <;> rfl
theorem mm_one : ∀ l : List L4, mm (List.replicate l.length .i) l = l
  | [] => rfl
  | a :: r => by
    rw [List.length_cons, List.replicate_succ, mm_cons, mm_one r]
    cases a <;> rfl
/-! equal words -/
theorem dok_l : ∀ (n : Nat) (ls : List L4), (ls.map lv).all (dOk n) = true
  | n, [] => rfl
  | n, a :: r => by
    rw [List.map_cons, List.all_cons, dok_l n r]
    cases n <;> cases a <;> rfl
theorem dok_W (t : L4) (ls : List L4) : dOk 50 (W t ls) = true := by
  show (dOk 49 (lv t) && ((ls.map lv).all (dOk 48) && true)) = true
  rw [dok_l]
  cases t <;> rfl
theorem dok_lp (ls : List L4) : dOk 50 (lp ls) = true := dok_l 49 ls
theorem li_inj {a b : L4} (h : li a = li b) : a = b := by cases a <;> cases b <;> first | rfl | (exact absurd h (by decide))
theorem eqp_l (n : Nat) (a b : L4) : eqP n (lv a) (lv b) = decide (li a = li b) := by cases n <;> rfl
theorem go_l (n : Nat) : ∀ l1 l2 : List L4, eqP.go n (l1.map lv) (l2.map lv) = decide (l1.map li = l2.map li)
  | [], [] => rfl
  | [], _ :: _ => rfl
  | _ :: _, [] => rfl
  | a :: r, b :: t => by
    show (bif eqP n (lv a) (lv b) then eqP.go n (r.map lv) (t.map lv) else false) = decide (li a :: r.map li = li b :: t.map li)
    rw [eqp_l, go_l n r t]
    by_cases e : li a = li b
    · rw [decide_eq_true e]
      simp [e]
    · rw [decide_eq_false e]
      simp [e]
theorem li_map : ∀ {l1 l2 : List L4}, l1.map li = l2.map li → l1 = l2
  | [], [], _ => rfl
  | [], _ :: _, h => by cases h
  | _ :: _, [], h => by cases h
  | a :: r, b :: t, h => by
    rw [List.map_cons, List.map_cons] at h
    injection h with h1 h2
    rw [li_inj h1, li_map h2]
instance : DecidableEq L4 := fun a b => if h : li a = li b then .isTrue (li_inj h) else .isFalse fun e => h (by rw [e])
theorem eq_lp (l1 l2 : List L4) : eqP 50 (lp l1) (lp l2) = decide (l1 = l2) := by
  show eqP.go 49 (l1.map lv) (l2.map lv) = _
  rw [go_l]
  by_cases e : l1 = l2
  · rw [decide_eq_true e, decide_eq_true (by rw [e])]
  · rw [decide_eq_false e, decide_eq_false fun h => e (li_map h)]
theorem eq_W (t1 t2 : L4) (l1 l2 : List L4) : eqP 50 (W t1 l1) (W t2 l2) = decide (t1 = t2 ∧ l1 = l2) := by
  show (bif eqP 49 (lv t1) (lv t2) then (bif eqP 49 (lp l1) (lp l2) then true else false) else false) = _
  have q : eqP 49 (lp l1) (lp l2) = decide (l1 = l2) := by
    show eqP.go 48 (l1.map lv) (l2.map lv) = _
    rw [go_l]
    by_cases e : l1 = l2
    · rw [decide_eq_true e, decide_eq_true (by rw [e])]
    · rw [decide_eq_false e, decide_eq_false fun h => e (li_map h)]
  rw [eqp_l, q]
  by_cases e1 : t1 = t2
  · by_cases e2 : l1 = l2
    · rw [decide_eq_true (show li t1 = li t2 by rw [e1]), decide_eq_true e2, decide_eq_true ⟨e1, e2⟩]; rfl
    · rw [decide_eq_true (show li t1 = li t2 by rw [e1]), decide_eq_false e2, decide_eq_false fun h => e2 h.2]; rfl
  · rw [decide_eq_false (p := li t1 = li t2) fun h => e1 (li_inj h), decide_eq_false (p := t1 = t2 ∧ l1 = l2) fun h => e1 h.1]; rfl
theorem oeq_W (t1 t2 : L4) (l1 l2 : List L4) : oEq (W t1 l1) (W t2 l2) = some (.bl (decide (t1 = t2 ∧ l1 = l2))) := by
  show (bif dOk 50 (W t1 l1) && dOk 50 (W t2 l2) then some (PV.bl (eqP 50 (W t1 l1) (W t2 l2))) else none) = _
  rw [dok_W, dok_W, eq_W]
  rfl
theorem one_W (t1 t2 : L4) (l1 l2 : List L4) : oNe (W t1 l1) (W t2 l2) = some (.bl (!decide (t1 = t2 ∧ l1 = l2))) := by
  show (bif dOk 50 (W t1 l1) && dOk 50 (W t2 l2) then some (PV.bl (!eqP 50 (W t1 l1) (W t2 l2))) else none) = _
  rw [dok_W, dok_W, eq_W]
  rfl
theorem one_lp (l1 l2 : List L4) : oNe (lp l1) (lp l2) = some (.bl (!decide (l1 = l2))) := by
  show (bif dOk 50 (lp l1) && dOk 50 (lp l2) then some (PV.bl (!eqP 50 (lp l1) (lp l2))) else none) = _
  rw [dok_lp, dok_lp, eq_lp]
  rfl
/-- there and back alike: just when an even number of letters disagree -/
theorem agree_law (t1 t2 : L4) (l1 l2 : List L4) : decide (m4 (li t1 + li t2 + sm l1 l2) = m4 (li t2 + li t1 + sm l2 l1) ∧ mm l1 l2 = mm l2 l1) = !decide (((opp l1 l2 : Nat) : Int) % 2 = 1) := by
  obtain ⟨k, h⟩ := sm_swap l1 l2
  by_cases e : ((opp l1 l2 : Nat) : Int) % 2 = 1
  · rw [decide_eq_true e, decide_eq_false]
    · rfl
    · rintro ⟨q, _⟩
      rw [m4_eq] at q
      omega
  · rw [decide_eq_false e, decide_eq_true]
    · rfl
    · refine ⟨?_, mm_comm _ _⟩
      rw [m4_eq]
      omega
theorem odd_law (t1 t2 : L4) (l1 l2 : List L4) (e : ((opp l1 l2 : Nat) : Int) % 2 = 1) : (li (m4 (li t1 + li t2 + sm l1 l2)) + 2) % 4 = li (m4 (li t2 + li t1 + sm l2 l1)) := by
  obtain ⟨k, h⟩ := sm_swap l1 l2
  rw [li_m4, li_m4]
  omega
theorem assoc_law (t1 t2 t3 : L4) (l1 l2 l3 : List L4) (h1 : l1.length = l2.length) (h2 : l2.length = l3.length) : m4 (li t1 + li (m4 (li t2 + li t3 + sm l2 l3)) + sm l1 (mm l2 l3)) = m4 (li (m4 (li t1 + li t2 + sm l1 l2)) + li t3 + sm (mm l1 l2) l3) := by
  obtain ⟨k, h⟩ := assoc_s l1 l2 l3 h1 h2
  rw [m4_eq, li_m4, li_m4]
  omega
end K00
set_option maxHeartbeats 4000000
namespace K00
open PySem PySem.Spec PyProof.Rows L2 RX
theorem pl_lv (n : Nat) (l : L4) : Pl n (lv l) := .int _
theorem pl_map {n : Nat} {f : L4 → PV} (h : ∀ l, Pl n (f l)) (ls : List L4) : ∀ x ∈ ls.map f, Pl n x := fun x m => by
  obtain ⟨l, _, rfl⟩ := List.mem_map.mp m
  exact h l
theorem pl_lp {n : Nat} {ls : List L4} (h : ls.length ≤ 1000) : Pl (n + 1) (lp ls) := .tup (by rw [List.length_map]; exact h) (pl_map (pl_lv n) ls)
theorem pl_W {n : Nat} {t : L4} {ls : List L4} (h : ls.length ≤ 1000) : Pl (n + 2) (W t ls) := .tup (by show 2 ≤ 1000; decide) fun x m => by
  rcases List.mem_cons.mp m with rfl | m
  · exact pl_lv _ t
  · rcases List.mem_cons.mp m with rfl | m
    · exact pl_lp h
    · cases m
theorem pl_nil {n : Nat} : ∀ x ∈ ([] : List PV), Pl n x := fun x m => by cases m
theorem pl_cons {n : Nat} {a : PV} {r : List PV} (h : Pl n a) (k : ∀ x ∈ r, Pl n x) : ∀ x ∈ a :: r, Pl n x := fun x m => by
  rcases List.mem_cons.mp m with rfl | m
  · exact h
  · exact k x m
theorem like_ok {x y : PV} (h : x = y) (p : Pl 8 x) (c : Cup) : F_33 [x, y] c = .ok (.bl true) c := by
  subst h
  exact like_refl p c
theorem mul_z {p : Nat} (h : p ≤ 12) (h1 : 1 ≤ p) : oMul (.tup [.int 0]) (.int (p : Nat)) = some (lp (List.replicate p .i)) := by
  have q : p = 1 ∨ p = 2 ∨ p = 3 ∨ p = 4 ∨ p = 5 ∨ p = 6 ∨ p = 7 ∨ p = 8 ∨ p = 9 ∨ p = 10 ∨ p = 11 ∨ p = 12 := by omega
  rcases q with rfl | rfl | rfl | rfl | rfl | rfl | rfl | rfl | rfl | rfl | rfl | rfl <;> rfl
theorem cnt_zero : ∀ ls : List L4, countI 0 (ls.map li) + wt ls = ls.length
  | [] => rfl
  | l :: r => by
    have ih := cnt_zero r
    show (bif decide (li l = 0) then countI 0 (r.map li) + 1 else countI 0 (r.map li)) + wt (l :: r) = r.length + 1
    have q : wt (l :: r) = (bif nz l then 1 else 0) + wt r := by
      unfold wt
      rw [List.filter_cons]
      cases e : nz l with
      | true => simp [e]; omega
      | false => simp [e]
    rw [q]
    cases l <;> simp [li, nz] <;> omega
theorem ints_lv : ∀ ls : List L4, intsOf (ls.map lv) = some (ls.map li)
  | [] => rfl
  | l :: r => by
    have ih := ints_lv r
    show intsOf (PV.int (li l) :: r.map lv) = _
    unfold intsOf
    rw [ih]
    rfl
theorem cnt_ok (ls : List L4) : oXCnt (.xt (ls.map lv)) (.int 0) = some (.int (countI 0 (ls.map li) : Nat)) := by
  show (match intsOf (ls.map lv) with
    | some ns => some (PV.int (Int.ofNat (countI 0 ns)))
    | none => none) = _
  rw [ints_lv]
  rfl
theorem sub_i {i j : Int} : oSub (.int i) (.int j) = some (.int (i - j)) := rfl
theorem ne_l {a b : L4} : oNe (lv a) (lv b) = some (.bl (!decide (li a = li b))) := rfl
theorem add_l2 {a : L4} {j : Int} : oAdd (lv a) (.int j) = some (.int (li a + j)) := rfl
theorem b_int {i : Int} : bInt [.int i] = some (.int i) := rfl
theorem mod2_l {a : L4} : oMod (lv a) (.int 2) = some (.int (li a % 2)) := mod_i rfl
theorem prod3 {p : Nat} (hp : p ≤ 12) (hp1 : 1 ≤ p) {t1 t2 t3 : L4} {l1 l2 l3 : List L4} (h1 : l1.length = p) (h2 : l2.length = p) (h3 : l3.length = p) (c : Cup) :
    F_21 [.tup [W t1 l1, W t2 l2, W t3 l3]] c = .ok (W (m4 (li (m4 (li t1 + li t2 + sm l1 l2)) + li t3 + sm (mm l1 l2) l3)) (mm (mm l1 l2) l3)) c :=
  prod_ok hp hp1 [(t1, l1), (t2, l2), (t3, l3)] (t1, l1) [(t2, l2), (t3, l3)] c rfl (by show 2 ≤ 199; decide) fun x m => by
    rcases List.mem_cons.mp m with rfl | m
    · exact h1
    · rcases List.mem_cons.mp m with rfl | m
      · exact h2
      · rcases List.mem_cons.mp m with rfl | m
        · exact h3
        · cases m
end K00
set_option maxHeartbeats 8000000
namespace K00
open PySem PySem.Spec PyProof.Rows L2 RX
theorem kx_1 {t : L4} {ls : List L4} {env : En} {c : Cup} : kIx (xw t ls) (.int 1) env c = .ok (.xt (ls.map lv)) c := rfl
theorem mm_app : ∀ {a c : List L4} (b d : List L4), a.length = c.length → mm (a ++ b) (c ++ d) = mm a c ++ mm b d
  | [], [], _, _, _ => rfl
  | x :: r, y :: s, b, d, h => by
    show mm (x :: (r ++ b)) (y :: (s ++ d)) = mm (x :: r) (y :: s) ++ mm b d
    rw [mm_cons, mm_cons, mm_app b d (by simpa using h)]
    rfl
theorem sm_app : ∀ {a c : List L4} (b d : List L4), a.length = c.length → sm (a ++ b) (c ++ d) = sm a c + sm b d
  | [], [], _, _, _ => by show sm _ _ = 0 + _; rw [Int.zero_add]; rfl
  | x :: r, y :: s, b, d, h => by
    show sm (x :: (r ++ b)) (y :: (s ++ d)) = sm (x :: r) (y :: s) + sm b d
    rw [sm_cons, sm_cons, sm_app b d (by simpa using h), Int.add_assoc]
theorem wt_app (a b : List L4) : wt (a ++ b) = wt a + wt b := by
  unfold wt
  rw [List.filter_append, List.length_append]
theorem words_ok {p : Nat} (hp : p ≤ 12) (hp1 : 1 ≤ p) {c : Cup} (g : Gd c) : ∃ c2, F_40 [.box, .int (p : Nat)] c = .ok (.bl true) c2 ∧ Gd c2 := by
  obtain ⟨t1, l1, ca, e1, h1, g1⟩ := word_ok hp g
  obtain ⟨t2, l2, cb, e2, h2, g2⟩ := word_ok hp g1
  obtain ⟨t3, l3, cc, e3, h3, g3⟩ := word_ok hp g2
  refine ⟨cc, ?_, g3⟩
  have a1 : l1.length ≤ 12 := by omega
  have a2 : l2.length ≤ 12 := by omega
  have a3 : l3.length ≤ 12 := by omega
  have b1 : 1 ≤ l1.length := by omega
  have b2 : 1 ≤ l2.length := by omega
  have b3 : 1 ≤ l3.length := by omega
  have k12 : (mm l1 l2).length = p := by rw [mm_len (by omega)]; exact h1
  have k21 : (mm l2 l1).length = p := by rw [mm_len (by omega)]; exact h2
  have k23 : (mm l2 l3).length = p := by rw [mm_len (by omega)]; exact h2
  have kk : (mm (mm l1 l2) l3).length = p := by rw [mm_len (by omega)]; exact k12
  -- the products
  have f39a := law_prod (t := t1) (t2 := t2) (l2 := l2) cc a1
  have f39b := law_prod (t := t2) (t2 := t1) (l2 := l1) cc a2
  have f14 := f_isword (t := t1) cc a1 b1
  have f19a := product_ok (t := t1) (t2 := t2) cc a1 b1 (show l1.length = l2.length by omega)
  have f19b := product_ok (t := t2) (t2 := t1) cc a2 b2 (show l2.length = l1.length by omega)
  have f20 := agree_ok (t := t1) (t2 := t2) cc a1 b1 (show l1.length = l2.length by omega)
  have f21 := prod3 hp hp1 (t1 := t1) (t2 := t2) (t3 := t3) h1 h2 h3 cc
  have f39c := fun t => law_prod (t := t) (t2 := t3) (l2 := l3) cc (show (mm l1 l2).length ≤ 12 by omega)
  have ag := agree_law t1 t2 l1 l2
  have lk1 : F_33 [.lst [.bl true, W (m4 (li t1 + li t2 + sm l1 l2)) (mm l1 l2), W (m4 (li t2 + li t1 + sm l2 l1)) (mm l2 l1), .bl (!decide (((opp l1 l2 : Nat) : Int) % 2 = 1)), W (m4 (li (m4 (li t1 + li t2 + sm l1 l2)) + li t3 + sm (mm l1 l2) l3)) (mm (mm l1 l2) l3)],
      .lst [.bl true, W (m4 (li t1 + li t2 + sm l1 l2)) (mm l1 l2), W (m4 (li t2 + li t1 + sm l2 l1)) (mm l2 l1), .bl (decide (m4 (li t1 + li t2 + sm l1 l2) = m4 (li t2 + li t1 + sm l2 l1) ∧ mm l1 l2 = mm l2 l1)), W (m4 (li (m4 (li t1 + li t2 + sm l1 l2)) + li t3 + sm (mm l1 l2) l3)) (mm (mm l1 l2) l3)]] cc = .ok (.bl true) cc :=
    like_ok (by rw [ag]) (.lst (by show 5 ≤ 1000; decide) (pl_cons (.bl _) (pl_cons (pl_W (by omega)) (pl_cons (pl_W (by omega)) (pl_cons (.bl _) (pl_cons (pl_W (by omega)) pl_nil)))))) cc
  have n1 : oNe (lp (mm l1 l2)) (lp (mm l2 l1)) = some (.bl false) := by rw [one_lp, decide_eq_true (mm_comm l1 l2)]; rfl
  -- associativity
  have f19c := product_ok (t := t2) (t2 := t3) cc a2 b2 (show l2.length = l3.length by omega)
  have f19d := fun t => product_ok (t := t1) (t2 := t) (l2 := mm l2 l3) cc a1 b1 (by omega)
  have f19e := fun t => product_ok (t := t) (ls := mm l1 l2) (t2 := t3) (l2 := l3) cc (by omega) (by omega) (by omega)
  have n2 : oNe (W (m4 (li t1 + li (m4 (li t2 + li t3 + sm l2 l3)) + sm l1 (mm l2 l3))) (mm l1 (mm l2 l3))) (W (m4 (li (m4 (li t1 + li t2 + sm l1 l2)) + li t3 + sm (mm l1 l2) l3)) (mm (mm l1 l2) l3)) = some (.bl false) := by
    rw [one_W, decide_eq_true ⟨assoc_law t1 t2 t3 l1 l2 l3 (by omega) (by omega), (assoc_m l1 l2 l3).symm⟩]
    rfl
  -- undone
  have mz := mul_z hp hp1
  have f22 := undone_ok (t := t1) cc a1 b1
  have f19f := fun t => product_ok (t := t1) (t2 := t) (l2 := l1) cc a1 b1 rfl
  have f19g := fun t => product_ok (t := t) (ls := l1) (t2 := t1) (l2 := l1) cc a1 b1 rfl
  have f23 := straight_ok (t := t1) cc a1 b1
  have f24 := weight_ok (t := t1) cc a1 b1
  have f19h := product_ok (t := .i) (ls := List.replicate p .i) (t2 := t1) (l2 := l1) cc (by rw [List.length_replicate]; omega) (by rw [List.length_replicate]; omega) (by rw [List.length_replicate]; omega)
  have f39d := law_prod (t := t1) (t2 := t1) (l2 := l1) cc a1
  have lv0 : lv .i = .int 0 := rfl
  have u1 : m4 (li t1 + li (m4 (-li t1)) + sm l1 l1) = .i := by
    rw [sm_self]
    have := li_m4 (-li t1)
    refine (m4_eq (y := 0)).mpr ?_
    omega
  have u2 : m4 (li (m4 (-li t1)) + li t1 + sm l1 l1) = .i := by
    rw [sm_self]
    have := li_m4 (-li t1)
    refine (m4_eq (y := 0)).mpr ?_
    omega
  have u3 : mm l1 l1 = List.replicate p .i := by rw [mm_self, h1]
  have u4 : m4 (li .i + li t1 + sm (List.replicate p .i) l1) = t1 := by
    rw [← h1, sm_one]
    have : li .i + li t1 + 0 = li t1 := by show 0 + li t1 + 0 = li t1; omega
    rw [this, m4_li]
  have u5 : mm (List.replicate p .i) l1 = l1 := by rw [← h1, mm_one]
  have lk2 : F_33 [.lst [W (m4 (li t1 + li (m4 (-li t1)) + sm l1 l1)) (mm l1 l1), W (m4 (li (m4 (-li t1)) + li t1 + sm l1 l1)) (mm l1 l1), .bl (decide (li t1 % 2 = 0)), .int (wt l1 : Nat), W t1 l1],
      .lst [.tup [.int 0, lp (List.replicate p .i)], .tup [.int 0, lp (List.replicate p .i)], .bl (decide (li t1 % 2 = 0)), .int ((p : Nat) - (countI 0 (l1.map li) : Nat)), W t1 l1]] cc = .ok (.bl true) cc :=
    like_ok (by have := cnt_zero l1; rw [u1, u2, u3, show ((wt l1 : Nat) : Int) = (p : Nat) - (countI 0 (l1.map li) : Nat) by omega]; rfl) (.lst (by show 5 ≤ 1000; decide) (pl_cons (pl_W (by rw [u3, List.length_replicate]; omega)) (pl_cons (pl_W (by rw [u3, List.length_replicate]; omega)) (pl_cons (.bl _) (pl_cons (.int _) (pl_cons (pl_W (by omega)) pl_nil)))))) cc
  have f19i : F_19 [.tup [.int 0, lp (List.replicate p .i)], W t1 l1] cc = .ok (W t1 l1) cc := by
    have q := f19h
    rw [u4, u5] at q
    exact q
  -- squares
  have s1 : decide (m4 (li t1 + li t1 + sm l1 l1) = .i ∧ mm l1 l1 = List.replicate p .i) = decide (li t1 % 2 = 0) := by
    rw [sm_self]
    by_cases e : li t1 % 2 = 0
    · rw [decide_eq_true e, decide_eq_true]
      refine ⟨(m4_eq (y := 0)).mpr (by omega), u3⟩
    · rw [decide_eq_false e, decide_eq_false]
      rintro ⟨q, _⟩
      have := (m4_eq (y := 0)).mp q
      omega
  have sq : oEq (W (m4 (li t1 + li t1 + sm l1 l1)) (mm l1 l1)) (.tup [.int 0, lp (List.replicate p .i)]) = some (.bl (decide (li t1 % 2 = 0))) := by
    have q := oeq_W (m4 (li t1 + li t1 + sm l1 l1)) .i (mm l1 l1) (List.replicate p .i)
    rw [s1] at q
    exact q
  have lk3 : F_33 [.lst [.bl (decide (li t1 % 2 = 0)), lp (mm l1 l1)], .lst [.bl (decide (li t1 % 2 = 0)), lp (List.replicate p .i)]] cc = .ok (.bl true) cc :=
    like_ok (by rw [u3]) (.lst (by show 2 ≤ 1000; decide) (pl_cons (.bl _) (pl_cons (pl_lp (by rw [u3, List.length_replicate]; omega)) pl_nil))) cc
  -- bits
  have f25 := bits_ok (t := t1) cc a1 b1
  have f26 := from_ok cc a1 b1
  have e5 : lenOk (l1.map lv) = true := lenOk_of (by rw [List.length_map]; omega)
  have lk4 : F_33 [.lst [.tup [.tup (l1.map fb), .tup (l1.map sb)], W .i l1], .lst [.tup [.tup (l1.map fb), .tup (l1.map sb)], .tup [.int 0, lp l1]]] cc = .ok (.bl true) cc :=
    like_ok rfl (.lst (by show 2 ≤ 1000; decide) (pl_cons (.tup (by show 2 ≤ 1000; decide) (pl_cons (.tup (by rw [List.length_map]; omega) (pl_map (fun l => .int _) _)) (pl_cons (.tup (by rw [List.length_map]; omega) (pl_map (fun l => .int _) _)) pl_nil))) (pl_cons (pl_W (by omega)) pl_nil))) cc
  unfold F_40
  rw [n_40]
  unfold b_40
  simp (config := { implicitDefEqProofs := false }) only [run_ap, List.map_cons, List.map_nil, List.replicate, List.cons_append, List.nil_append, bO_ok, bO_exc, sO_nx, sO_rt, sO_ex, oR_some, toS_ok, toS_exc, fin_nx, fin_rt, fin_ex, dSeq_ap, dNext_ap, dIfS_ap, kIfS_t, kIfS_f, dAsg_ap, dRet_ap, dDrop_ap, dRaise_ap, dBin_ap, dChain_ap, kCh_t, kCh_f, dUn_ap, dVar_ap, dVarB_ap, slV_va, slB_va, dC_ap, dNrm_ap, dNil_ap, dCons_ap, consT_ap, dTup_ap, dLst_ap, dBi_ap, tupO_ap, dCall_ap, dIx_ap, fnE_0, fnE_1, fnE_2, fnE_3, fnE_4, fnE_5, kIx_tup, kIx_lst, dIf_ap, kIf_t, kIf_f, dNotT_ap, kNot_ap, dNotV_ap, kNotV_ap, dTru_ap, kTru_bl, dAndT_ap, kAnd_t, kAnd_f, dOrT_ap, kOr_t, kOr_f, dAndV_ap, kAndV_t, kAndV_f, dOrV_ap, kOrV_t, kOrV_f, dItems_ap, dZip_ap, dComp_ap, dFor_ap, dM1_ap, kM1_xt, dAsgT2_ap, kT2_ap, dRng1_ap, dPar2_ap, dPar3_ap, kP2_ap, kP3_ap, dCut_ap, dPart_ap, kPart_i, bLen_tup, bLen_lst, frzA_nil, frzA_cons, frzS_no, frzS_va, ixF_0, ixF_1, Bool.not_true, Bool.not_false, getS_0, getS_1, getS_2, getS_3, getS_4, getS_5, getS_6, getS_7, getS_8, getS_9, getS_10, getS_11, getS_12, getS_13, getS_14, getS_15, getS_16, getS_17, getS_18, getS_19, getS_20, getS_21, set_0, set_1, set_2, set_3, set_4, set_5, set_6, set_7, set_8, set_9, set_10, set_11, set_12, set_13, set_14, set_15, set_16, set_17, set_18, set_19, set_20, set_21, mkT_0, mkT_1, mkT_2, mkT_3, mkT_4, mkT_5, mkT_6, mkT_7, mkT_8, mkT_9, mkT_10, mkT_11, mkT_12, mkL_0, mkL_1, mkL_2, mkL_3, mkL_4, mkL_5, mkL_6, mkL_7, mkL_8, mkL_9, mkL_10, mkL_11, mkL_12, e1, e2, e3, nrm_xw, f39a, f39b, f14, f19a, f19b, f20, f21, f39c, oeq_W, lk1, n1, one_W]
  rw [ag]
  have n3 : ((opp l1 l2 : Nat) : Int) % 2 = 1 → oNe (lv (m4 (li (m4 (li t1 + li t2 + sm l1 l2)) + 2))) (lv (m4 (li t2 + li t1 + sm l2 l1))) = some (.bl false) := fun od => by
    have q := odd_law t1 t2 l1 l2 od
    rw [ne_l, li_m4 (li (m4 (li t1 + li t2 + sm l1 l2)) + 2), q, decide_eq_true rfl]
    rfl
  by_cases od : ((opp l1 l2 : Nat) : Int) % 2 = 1
  · rw [decide_eq_true od]
    simp (config := { implicitDefEqProofs := false }) only [run_ap, List.map_cons, List.map_nil, List.replicate, List.cons_append, List.nil_append, bO_ok, bO_exc, sO_nx, sO_rt, sO_ex, oR_some, toS_ok, toS_exc, fin_nx, fin_rt, fin_ex, dSeq_ap, dNext_ap, dIfS_ap, kIfS_t, kIfS_f, dAsg_ap, dRet_ap, dDrop_ap, dRaise_ap, dBin_ap, dChain_ap, kCh_t, kCh_f, dUn_ap, dVar_ap, dVarB_ap, slV_va, slB_va, dC_ap, dNrm_ap, dNil_ap, dCons_ap, consT_ap, dTup_ap, dLst_ap, dBi_ap, tupO_ap, dCall_ap, dIx_ap, fnE_0, fnE_1, fnE_2, fnE_3, fnE_4, fnE_5, kIx_tup, kIx_lst, dIf_ap, kIf_t, kIf_f, dNotT_ap, kNot_ap, dNotV_ap, kNotV_ap, dTru_ap, kTru_bl, dAndT_ap, kAnd_t, kAnd_f, dOrT_ap, kOr_t, kOr_f, dAndV_ap, kAndV_t, kAndV_f, dOrV_ap, kOrV_t, kOrV_f, dItems_ap, dZip_ap, dComp_ap, dFor_ap, dM1_ap, kM1_xt, dAsgT2_ap, kT2_ap, dRng1_ap, dPar2_ap, dPar3_ap, kP2_ap, kP3_ap, dCut_ap, dPart_ap, kPart_i, bLen_tup, bLen_lst, frzA_nil, frzA_cons, frzS_no, frzS_va, ixF_0, ixF_1, Bool.not_true, Bool.not_false, getS_0, getS_1, getS_2, getS_3, getS_4, getS_5, getS_6, getS_7, getS_8, getS_9, getS_10, getS_11, getS_12, getS_13, getS_14, getS_15, getS_16, getS_17, getS_18, getS_19, getS_20, getS_21, set_0, set_1, set_2, set_3, set_4, set_5, set_6, set_7, set_8, set_9, set_10, set_11, set_12, set_13, set_14, set_15, set_16, set_17, set_18, set_19, set_20, set_21, mkT_0, mkT_1, mkT_2, mkT_3, mkT_4, mkT_5, mkT_6, mkT_7, mkT_8, mkT_9, mkT_10, mkT_11, mkT_12, mkL_0, mkL_1, mkL_2, mkL_3, mkL_4, mkL_5, mkL_6, mkL_7, mkL_8, mkL_9, mkL_10, mkL_11, mkL_12, add_l2, b_int, mod4, n3 od, nrm_xw, f19a, f19c, f19d, f19e, n2, mz, f22, f19f, f19g, f23, f24, f19i, mod2_l, eq_i, kx_1, cnt_ok, sub_i, lk2, f39d, sq, lk3, f25, kItems_tup e5]
    rw [walk_map (ff := fb) rfl (by omega) (fun l acc => by cases l <;> kernel_rfl)]
    simp (config := { implicitDefEqProofs := false }) only [run_ap, List.map_cons, List.map_nil, List.replicate, List.cons_append, List.nil_append, bO_ok, bO_exc, sO_nx, sO_rt, sO_ex, oR_some, toS_ok, toS_exc, fin_nx, fin_rt, fin_ex, dSeq_ap, dNext_ap, dIfS_ap, kIfS_t, kIfS_f, dAsg_ap, dRet_ap, dDrop_ap, dRaise_ap, dBin_ap, dChain_ap, kCh_t, kCh_f, dUn_ap, dVar_ap, dVarB_ap, slV_va, slB_va, dC_ap, dNrm_ap, dNil_ap, dCons_ap, consT_ap, dTup_ap, dLst_ap, dBi_ap, tupO_ap, dCall_ap, dIx_ap, fnE_0, fnE_1, fnE_2, fnE_3, fnE_4, fnE_5, kIx_tup, kIx_lst, dIf_ap, kIf_t, kIf_f, dNotT_ap, kNot_ap, dNotV_ap, kNotV_ap, dTru_ap, kTru_bl, dAndT_ap, kAnd_t, kAnd_f, dOrT_ap, kOr_t, kOr_f, dAndV_ap, kAndV_t, kAndV_f, dOrV_ap, kOrV_t, kOrV_f, dItems_ap, dZip_ap, dComp_ap, dFor_ap, dM1_ap, kM1_xt, dAsgT2_ap, kT2_ap, dRng1_ap, dPar2_ap, dPar3_ap, kP2_ap, kP3_ap, dCut_ap, dPart_ap, kPart_i, bLen_tup, bLen_lst, frzA_nil, frzA_cons, frzS_no, frzS_va, ixF_0, ixF_1, Bool.not_true, Bool.not_false, getS_0, getS_1, getS_2, getS_3, getS_4, getS_5, getS_6, getS_7, getS_8, getS_9, getS_10, getS_11, getS_12, getS_13, getS_14, getS_15, getS_16, getS_17, getS_18, getS_19, getS_20, getS_21, set_0, set_1, set_2, set_3, set_4, set_5, set_6, set_7, set_8, set_9, set_10, set_11, set_12, set_13, set_14, set_15, set_16, set_17, set_18, set_19, set_20, set_21, mkT_0, mkT_1, mkT_2, mkT_3, mkT_4, mkT_5, mkT_6, mkT_7, mkT_8, mkT_9, mkT_10, mkT_11, mkT_12, mkL_0, mkL_1, mkL_2, mkL_3, mkL_4, mkL_5, mkL_6, mkL_7, mkL_8, mkL_9, mkL_10, mkL_11, mkL_12, b_tup, kItems_tup e5, nrm_xw]
    rw [walk_map (ff := sb) rfl (by omega) (fun l acc => by cases l <;> kernel_rfl)]
    simp (config := { implicitDefEqProofs := false }) only [run_ap, List.map_cons, List.map_nil, List.replicate, List.cons_append, List.nil_append, bO_ok, bO_exc, sO_nx, sO_rt, sO_ex, oR_some, toS_ok, toS_exc, fin_nx, fin_rt, fin_ex, dSeq_ap, dNext_ap, dIfS_ap, kIfS_t, kIfS_f, dAsg_ap, dRet_ap, dDrop_ap, dRaise_ap, dBin_ap, dChain_ap, kCh_t, kCh_f, dUn_ap, dVar_ap, dVarB_ap, slV_va, slB_va, dC_ap, dNrm_ap, dNil_ap, dCons_ap, consT_ap, dTup_ap, dLst_ap, dBi_ap, tupO_ap, dCall_ap, dIx_ap, fnE_0, fnE_1, fnE_2, fnE_3, fnE_4, fnE_5, kIx_tup, kIx_lst, dIf_ap, kIf_t, kIf_f, dNotT_ap, kNot_ap, dNotV_ap, kNotV_ap, dTru_ap, kTru_bl, dAndT_ap, kAnd_t, kAnd_f, dOrT_ap, kOr_t, kOr_f, dAndV_ap, kAndV_t, kAndV_f, dOrV_ap, kOrV_t, kOrV_f, dItems_ap, dZip_ap, dComp_ap, dFor_ap, dM1_ap, kM1_xt, dAsgT2_ap, kT2_ap, dRng1_ap, dPar2_ap, dPar3_ap, kP2_ap, kP3_ap, dCut_ap, dPart_ap, kPart_i, bLen_tup, bLen_lst, frzA_nil, frzA_cons, frzS_no, frzS_va, ixF_0, ixF_1, Bool.not_true, Bool.not_false, getS_0, getS_1, getS_2, getS_3, getS_4, getS_5, getS_6, getS_7, getS_8, getS_9, getS_10, getS_11, getS_12, getS_13, getS_14, getS_15, getS_16, getS_17, getS_18, getS_19, getS_20, getS_21, set_0, set_1, set_2, set_3, set_4, set_5, set_6, set_7, set_8, set_9, set_10, set_11, set_12, set_13, set_14, set_15, set_16, set_17, set_18, set_19, set_20, set_21, mkT_0, mkT_1, mkT_2, mkT_3, mkT_4, mkT_5, mkT_6, mkT_7, mkT_8, mkT_9, mkT_10, mkT_11, mkT_12, mkL_0, mkL_1, mkL_2, mkL_3, mkL_4, mkL_5, mkL_6, mkL_7, mkL_8, mkL_9, mkL_10, mkL_11, mkL_12, b_tup, nrm_xw, f26, lk4]
    by_cases p6 : (6 : Int) < (p : Nat)
    · have gt : oGt (.int (p : Nat)) (.int 6) = some (.bl true) := congrArg (fun t => some (PV.bl t)) (decide_eq_true p6)
      simp (config := { implicitDefEqProofs := false }) only [run_ap, List.map_cons, List.map_nil, List.replicate, List.cons_append, List.nil_append, bO_ok, bO_exc, sO_nx, sO_rt, sO_ex, oR_some, toS_ok, toS_exc, fin_nx, fin_rt, fin_ex, dSeq_ap, dNext_ap, dIfS_ap, kIfS_t, kIfS_f, dAsg_ap, dRet_ap, dDrop_ap, dRaise_ap, dBin_ap, dChain_ap, kCh_t, kCh_f, dUn_ap, dVar_ap, dVarB_ap, slV_va, slB_va, dC_ap, dNrm_ap, dNil_ap, dCons_ap, consT_ap, dTup_ap, dLst_ap, dBi_ap, tupO_ap, dCall_ap, dIx_ap, fnE_0, fnE_1, fnE_2, fnE_3, fnE_4, fnE_5, kIx_tup, kIx_lst, dIf_ap, kIf_t, kIf_f, dNotT_ap, kNot_ap, dNotV_ap, kNotV_ap, dTru_ap, kTru_bl, dAndT_ap, kAnd_t, kAnd_f, dOrT_ap, kOr_t, kOr_f, dAndV_ap, kAndV_t, kAndV_f, dOrV_ap, kOrV_t, kOrV_f, dItems_ap, dZip_ap, dComp_ap, dFor_ap, dM1_ap, kM1_xt, dAsgT2_ap, kT2_ap, dRng1_ap, dPar2_ap, dPar3_ap, kP2_ap, kP3_ap, dCut_ap, dPart_ap, kPart_i, bLen_tup, bLen_lst, frzA_nil, frzA_cons, frzS_no, frzS_va, ixF_0, ixF_1, Bool.not_true, Bool.not_false, getS_0, getS_1, getS_2, getS_3, getS_4, getS_5, getS_6, getS_7, getS_8, getS_9, getS_10, getS_11, getS_12, getS_13, getS_14, getS_15, getS_16, getS_17, getS_18, getS_19, getS_20, getS_21, set_0, set_1, set_2, set_3, set_4, set_5, set_6, set_7, set_8, set_9, set_10, set_11, set_12, set_13, set_14, set_15, set_16, set_17, set_18, set_19, set_20, set_21, mkT_0, mkT_1, mkT_2, mkT_3, mkT_4, mkT_5, mkT_6, mkT_7, mkT_8, mkT_9, mkT_10, mkT_11, mkT_12, mkL_0, mkL_1, mkL_2, mkL_3, mkL_4, mkL_5, mkL_6, mkL_7, mkL_8, mkL_9, mkL_10, mkL_11, mkL_12, gt]
    · have gt : oGt (.int (p : Nat)) (.int 6) = some (.bl false) := congrArg (fun t => some (PV.bl t)) (decide_eq_false p6)
      have f27a := beside_ok (t := t1) (t2 := t2) (ls := l1) (l2 := l2) cc (by omega) b1 b2
      have f27b := beside_ok (t := t3) (t2 := t1) (ls := l3) (l2 := l1) cc (by omega) b3 b1
      have f19j := fun t t' => product_ok (t := t) (ls := l1 ++ l2) (t2 := t') (l2 := l3 ++ l1) cc (by rw [List.length_append]; omega) (by rw [List.length_append]; omega) (by rw [List.length_append, List.length_append]; omega)
      have f24b := fun t => weight_ok (t := t) (ls := l1 ++ l2) cc (by rw [List.length_append]; omega) (by rw [List.length_append]; omega)
      have f24c := weight_ok (t := t2) (ls := l2) cc a2 b2
      have f19k := product_ok (t := t1) (t2 := t3) (l2 := l3) cc a1 b1 (show l1.length = l3.length by omega)
      have k13 : (mm l1 l3).length = p := by rw [mm_len (by omega)]; exact h1
      have f27c := fun t t' => beside_ok (t := t) (t2 := t') (ls := mm l1 l3) (l2 := mm l2 l1) cc (by omega) (by omega) (by omega)
      have ap : oAdd (lp l1) (lp l2) = some (.tup (l1.map lv ++ l2.map lv)) := add_tt (by rw [List.length_map, List.length_map]; omega)
      have v1 : m4 (li (m4 (li t1 + li t2)) + li (m4 (li t3 + li t1)) + sm (l1 ++ l2) (l3 ++ l1)) = m4 (li (m4 (li t1 + li t3 + sm l1 l3)) + li (m4 (li t2 + li t1 + sm l2 l1))) := by
        rw [m4_eq, li_m4, li_m4, li_m4, li_m4, sm_app l2 l1 (by omega)]
        omega
      have v2 : mm (l1 ++ l2) (l3 ++ l1) = mm l1 l3 ++ mm l2 l1 := mm_app l2 l1 (by omega)
      have v3 : ((wt (l1 ++ l2) : Nat) : Int) = (wt l1 : Nat) + (wt l2 : Nat) := by rw [wt_app]; omega
      have lk5 : F_33 [.lst [W (m4 (li t1 + li t2)) (l1 ++ l2), W (m4 (li (m4 (li t1 + li t2)) + li (m4 (li t3 + li t1)) + sm (l1 ++ l2) (l3 ++ l1))) (mm (l1 ++ l2) (l3 ++ l1)), .int (wt (l1 ++ l2) : Nat)],
          .lst [.tup [lv (m4 (li t1 + li t2)), .tup (l1.map lv ++ l2.map lv)], W (m4 (li (m4 (li t1 + li t3 + sm l1 l3)) + li (m4 (li t2 + li t1 + sm l2 l1)))) (mm l1 l3 ++ mm l2 l1), .int ((wt l1 : Nat) + (wt l2 : Nat))]] cc = .ok (.bl true) cc :=
        like_ok (by rw [← v1, ← v2, ← v3, ← List.map_append]) (.lst (by show 3 ≤ 1000; decide) (pl_cons (pl_W (by rw [List.length_append]; omega)) (pl_cons (pl_W (by rw [v2, List.length_append]; omega)) (pl_cons (.int _) pl_nil)))) cc
      simp (config := { implicitDefEqProofs := false }) only [run_ap, List.map_cons, List.map_nil, List.replicate, List.cons_append, List.nil_append, bO_ok, bO_exc, sO_nx, sO_rt, sO_ex, oR_some, toS_ok, toS_exc, fin_nx, fin_rt, fin_ex, dSeq_ap, dNext_ap, dIfS_ap, kIfS_t, kIfS_f, dAsg_ap, dRet_ap, dDrop_ap, dRaise_ap, dBin_ap, dChain_ap, kCh_t, kCh_f, dUn_ap, dVar_ap, dVarB_ap, slV_va, slB_va, dC_ap, dNrm_ap, dNil_ap, dCons_ap, consT_ap, dTup_ap, dLst_ap, dBi_ap, tupO_ap, dCall_ap, dIx_ap, fnE_0, fnE_1, fnE_2, fnE_3, fnE_4, fnE_5, kIx_tup, kIx_lst, dIf_ap, kIf_t, kIf_f, dNotT_ap, kNot_ap, dNotV_ap, kNotV_ap, dTru_ap, kTru_bl, dAndT_ap, kAnd_t, kAnd_f, dOrT_ap, kOr_t, kOr_f, dAndV_ap, kAndV_t, kAndV_f, dOrV_ap, kOrV_t, kOrV_f, dItems_ap, dZip_ap, dComp_ap, dFor_ap, dM1_ap, kM1_xt, dAsgT2_ap, kT2_ap, dRng1_ap, dPar2_ap, dPar3_ap, kP2_ap, kP3_ap, dCut_ap, dPart_ap, kPart_i, bLen_tup, bLen_lst, frzA_nil, frzA_cons, frzS_no, frzS_va, ixF_0, ixF_1, Bool.not_true, Bool.not_false, getS_0, getS_1, getS_2, getS_3, getS_4, getS_5, getS_6, getS_7, getS_8, getS_9, getS_10, getS_11, getS_12, getS_13, getS_14, getS_15, getS_16, getS_17, getS_18, getS_19, getS_20, getS_21, set_0, set_1, set_2, set_3, set_4, set_5, set_6, set_7, set_8, set_9, set_10, set_11, set_12, set_13, set_14, set_15, set_16, set_17, set_18, set_19, set_20, set_21, mkT_0, mkT_1, mkT_2, mkT_3, mkT_4, mkT_5, mkT_6, mkT_7, mkT_8, mkT_9, mkT_10, mkT_11, mkT_12, mkL_0, mkL_1, mkL_2, mkL_3, mkL_4, mkL_5, mkL_6, mkL_7, mkL_8, mkL_9, mkL_10, mkL_11, mkL_12, gt, nrm_xw, f27a, f27b, f19j, f24b, f24, f24c, f19k, f19b, f27c, ap, add_lv, add_i, b_int, mod4, lk5]
  · rw [decide_eq_false od]
    simp (config := { implicitDefEqProofs := false }) only [run_ap, List.map_cons, List.map_nil, List.replicate, List.cons_append, List.nil_append, bO_ok, bO_exc, sO_nx, sO_rt, sO_ex, oR_some, toS_ok, toS_exc, fin_nx, fin_rt, fin_ex, dSeq_ap, dNext_ap, dIfS_ap, kIfS_t, kIfS_f, dAsg_ap, dRet_ap, dDrop_ap, dRaise_ap, dBin_ap, dChain_ap, kCh_t, kCh_f, dUn_ap, dVar_ap, dVarB_ap, slV_va, slB_va, dC_ap, dNrm_ap, dNil_ap, dCons_ap, consT_ap, dTup_ap, dLst_ap, dBi_ap, tupO_ap, dCall_ap, dIx_ap, fnE_0, fnE_1, fnE_2, fnE_3, fnE_4, fnE_5, kIx_tup, kIx_lst, dIf_ap, kIf_t, kIf_f, dNotT_ap, kNot_ap, dNotV_ap, kNotV_ap, dTru_ap, kTru_bl, dAndT_ap, kAnd_t, kAnd_f, dOrT_ap, kOr_t, kOr_f, dAndV_ap, kAndV_t, kAndV_f, dOrV_ap, kOrV_t, kOrV_f, dItems_ap, dZip_ap, dComp_ap, dFor_ap, dM1_ap, kM1_xt, dAsgT2_ap, kT2_ap, dRng1_ap, dPar2_ap, dPar3_ap, kP2_ap, kP3_ap, dCut_ap, dPart_ap, kPart_i, bLen_tup, bLen_lst, frzA_nil, frzA_cons, frzS_no, frzS_va, ixF_0, ixF_1, Bool.not_true, Bool.not_false, getS_0, getS_1, getS_2, getS_3, getS_4, getS_5, getS_6, getS_7, getS_8, getS_9, getS_10, getS_11, getS_12, getS_13, getS_14, getS_15, getS_16, getS_17, getS_18, getS_19, getS_20, getS_21, set_0, set_1, set_2, set_3, set_4, set_5, set_6, set_7, set_8, set_9, set_10, set_11, set_12, set_13, set_14, set_15, set_16, set_17, set_18, set_19, set_20, set_21, mkT_0, mkT_1, mkT_2, mkT_3, mkT_4, mkT_5, mkT_6, mkT_7, mkT_8, mkT_9, mkT_10, mkT_11, mkT_12, mkL_0, mkL_1, mkL_2, mkL_3, mkL_4, mkL_5, mkL_6, mkL_7, mkL_8, mkL_9, mkL_10, mkL_11, mkL_12, nrm_xw, f19a, f19c, f19d, f19e, n2, mz, f22, f19f, f19g, f23, f24, f19i, mod2_l, eq_i, kx_1, cnt_ok, sub_i, lk2, f39d, sq, lk3, f25, kItems_tup e5]
    rw [walk_map (ff := fb) rfl (by omega) (fun l acc => by cases l <;> kernel_rfl)]
    simp (config := { implicitDefEqProofs := false }) only [run_ap, List.map_cons, List.map_nil, List.replicate, List.cons_append, List.nil_append, bO_ok, bO_exc, sO_nx, sO_rt, sO_ex, oR_some, toS_ok, toS_exc, fin_nx, fin_rt, fin_ex, dSeq_ap, dNext_ap, dIfS_ap, kIfS_t, kIfS_f, dAsg_ap, dRet_ap, dDrop_ap, dRaise_ap, dBin_ap, dChain_ap, kCh_t, kCh_f, dUn_ap, dVar_ap, dVarB_ap, slV_va, slB_va, dC_ap, dNrm_ap, dNil_ap, dCons_ap, consT_ap, dTup_ap, dLst_ap, dBi_ap, tupO_ap, dCall_ap, dIx_ap, fnE_0, fnE_1, fnE_2, fnE_3, fnE_4, fnE_5, kIx_tup, kIx_lst, dIf_ap, kIf_t, kIf_f, dNotT_ap, kNot_ap, dNotV_ap, kNotV_ap, dTru_ap, kTru_bl, dAndT_ap, kAnd_t, kAnd_f, dOrT_ap, kOr_t, kOr_f, dAndV_ap, kAndV_t, kAndV_f, dOrV_ap, kOrV_t, kOrV_f, dItems_ap, dZip_ap, dComp_ap, dFor_ap, dM1_ap, kM1_xt, dAsgT2_ap, kT2_ap, dRng1_ap, dPar2_ap, dPar3_ap, kP2_ap, kP3_ap, dCut_ap, dPart_ap, kPart_i, bLen_tup, bLen_lst, frzA_nil, frzA_cons, frzS_no, frzS_va, ixF_0, ixF_1, Bool.not_true, Bool.not_false, getS_0, getS_1, getS_2, getS_3, getS_4, getS_5, getS_6, getS_7, getS_8, getS_9, getS_10, getS_11, getS_12, getS_13, getS_14, getS_15, getS_16, getS_17, getS_18, getS_19, getS_20, getS_21, set_0, set_1, set_2, set_3, set_4, set_5, set_6, set_7, set_8, set_9, set_10, set_11, set_12, set_13, set_14, set_15, set_16, set_17, set_18, set_19, set_20, set_21, mkT_0, mkT_1, mkT_2, mkT_3, mkT_4, mkT_5, mkT_6, mkT_7, mkT_8, mkT_9, mkT_10, mkT_11, mkT_12, mkL_0, mkL_1, mkL_2, mkL_3, mkL_4, mkL_5, mkL_6, mkL_7, mkL_8, mkL_9, mkL_10, mkL_11, mkL_12, b_tup, kItems_tup e5, nrm_xw]
    rw [walk_map (ff := sb) rfl (by omega) (fun l acc => by cases l <;> kernel_rfl)]
    simp (config := { implicitDefEqProofs := false }) only [run_ap, List.map_cons, List.map_nil, List.replicate, List.cons_append, List.nil_append, bO_ok, bO_exc, sO_nx, sO_rt, sO_ex, oR_some, toS_ok, toS_exc, fin_nx, fin_rt, fin_ex, dSeq_ap, dNext_ap, dIfS_ap, kIfS_t, kIfS_f, dAsg_ap, dRet_ap, dDrop_ap, dRaise_ap, dBin_ap, dChain_ap, kCh_t, kCh_f, dUn_ap, dVar_ap, dVarB_ap, slV_va, slB_va, dC_ap, dNrm_ap, dNil_ap, dCons_ap, consT_ap, dTup_ap, dLst_ap, dBi_ap, tupO_ap, dCall_ap, dIx_ap, fnE_0, fnE_1, fnE_2, fnE_3, fnE_4, fnE_5, kIx_tup, kIx_lst, dIf_ap, kIf_t, kIf_f, dNotT_ap, kNot_ap, dNotV_ap, kNotV_ap, dTru_ap, kTru_bl, dAndT_ap, kAnd_t, kAnd_f, dOrT_ap, kOr_t, kOr_f, dAndV_ap, kAndV_t, kAndV_f, dOrV_ap, kOrV_t, kOrV_f, dItems_ap, dZip_ap, dComp_ap, dFor_ap, dM1_ap, kM1_xt, dAsgT2_ap, kT2_ap, dRng1_ap, dPar2_ap, dPar3_ap, kP2_ap, kP3_ap, dCut_ap, dPart_ap, kPart_i, bLen_tup, bLen_lst, frzA_nil, frzA_cons, frzS_no, frzS_va, ixF_0, ixF_1, Bool.not_true, Bool.not_false, getS_0, getS_1, getS_2, getS_3, getS_4, getS_5, getS_6, getS_7, getS_8, getS_9, getS_10, getS_11, getS_12, getS_13, getS_14, getS_15, getS_16, getS_17, getS_18, getS_19, getS_20, getS_21, set_0, set_1, set_2, set_3, set_4, set_5, set_6, set_7, set_8, set_9, set_10, set_11, set_12, set_13, set_14, set_15, set_16, set_17, set_18, set_19, set_20, set_21, mkT_0, mkT_1, mkT_2, mkT_3, mkT_4, mkT_5, mkT_6, mkT_7, mkT_8, mkT_9, mkT_10, mkT_11, mkT_12, mkL_0, mkL_1, mkL_2, mkL_3, mkL_4, mkL_5, mkL_6, mkL_7, mkL_8, mkL_9, mkL_10, mkL_11, mkL_12, b_tup, nrm_xw, f26, lk4]
    by_cases p6 : (6 : Int) < (p : Nat)
    · have gt : oGt (.int (p : Nat)) (.int 6) = some (.bl true) := congrArg (fun t => some (PV.bl t)) (decide_eq_true p6)
      simp (config := { implicitDefEqProofs := false }) only [run_ap, List.map_cons, List.map_nil, List.replicate, List.cons_append, List.nil_append, bO_ok, bO_exc, sO_nx, sO_rt, sO_ex, oR_some, toS_ok, toS_exc, fin_nx, fin_rt, fin_ex, dSeq_ap, dNext_ap, dIfS_ap, kIfS_t, kIfS_f, dAsg_ap, dRet_ap, dDrop_ap, dRaise_ap, dBin_ap, dChain_ap, kCh_t, kCh_f, dUn_ap, dVar_ap, dVarB_ap, slV_va, slB_va, dC_ap, dNrm_ap, dNil_ap, dCons_ap, consT_ap, dTup_ap, dLst_ap, dBi_ap, tupO_ap, dCall_ap, dIx_ap, fnE_0, fnE_1, fnE_2, fnE_3, fnE_4, fnE_5, kIx_tup, kIx_lst, dIf_ap, kIf_t, kIf_f, dNotT_ap, kNot_ap, dNotV_ap, kNotV_ap, dTru_ap, kTru_bl, dAndT_ap, kAnd_t, kAnd_f, dOrT_ap, kOr_t, kOr_f, dAndV_ap, kAndV_t, kAndV_f, dOrV_ap, kOrV_t, kOrV_f, dItems_ap, dZip_ap, dComp_ap, dFor_ap, dM1_ap, kM1_xt, dAsgT2_ap, kT2_ap, dRng1_ap, dPar2_ap, dPar3_ap, kP2_ap, kP3_ap, dCut_ap, dPart_ap, kPart_i, bLen_tup, bLen_lst, frzA_nil, frzA_cons, frzS_no, frzS_va, ixF_0, ixF_1, Bool.not_true, Bool.not_false, getS_0, getS_1, getS_2, getS_3, getS_4, getS_5, getS_6, getS_7, getS_8, getS_9, getS_10, getS_11, getS_12, getS_13, getS_14, getS_15, getS_16, getS_17, getS_18, getS_19, getS_20, getS_21, set_0, set_1, set_2, set_3, set_4, set_5, set_6, set_7, set_8, set_9, set_10, set_11, set_12, set_13, set_14, set_15, set_16, set_17, set_18, set_19, set_20, set_21, mkT_0, mkT_1, mkT_2, mkT_3, mkT_4, mkT_5, mkT_6, mkT_7, mkT_8, mkT_9, mkT_10, mkT_11, mkT_12, mkL_0, mkL_1, mkL_2, mkL_3, mkL_4, mkL_5, mkL_6, mkL_7, mkL_8, mkL_9, mkL_10, mkL_11, mkL_12, gt]
    · have gt : oGt (.int (p : Nat)) (.int 6) = some (.bl false) := congrArg (fun t => some (PV.bl t)) (decide_eq_false p6)
      have f27a := beside_ok (t := t1) (t2 := t2) (ls := l1) (l2 := l2) cc (by omega) b1 b2
      have f27b := beside_ok (t := t3) (t2 := t1) (ls := l3) (l2 := l1) cc (by omega) b3 b1
      have f19j := fun t t' => product_ok (t := t) (ls := l1 ++ l2) (t2 := t') (l2 := l3 ++ l1) cc (by rw [List.length_append]; omega) (by rw [List.length_append]; omega) (by rw [List.length_append, List.length_append]; omega)
      have f24b := fun t => weight_ok (t := t) (ls := l1 ++ l2) cc (by rw [List.length_append]; omega) (by rw [List.length_append]; omega)
      have f24c := weight_ok (t := t2) (ls := l2) cc a2 b2
      have f19k := product_ok (t := t1) (t2 := t3) (l2 := l3) cc a1 b1 (show l1.length = l3.length by omega)
      have k13 : (mm l1 l3).length = p := by rw [mm_len (by omega)]; exact h1
      have f27c := fun t t' => beside_ok (t := t) (t2 := t') (ls := mm l1 l3) (l2 := mm l2 l1) cc (by omega) (by omega) (by omega)
      have ap : oAdd (lp l1) (lp l2) = some (.tup (l1.map lv ++ l2.map lv)) := add_tt (by rw [List.length_map, List.length_map]; omega)
      have v1 : m4 (li (m4 (li t1 + li t2)) + li (m4 (li t3 + li t1)) + sm (l1 ++ l2) (l3 ++ l1)) = m4 (li (m4 (li t1 + li t3 + sm l1 l3)) + li (m4 (li t2 + li t1 + sm l2 l1))) := by
        rw [m4_eq, li_m4, li_m4, li_m4, li_m4, sm_app l2 l1 (by omega)]
        omega
      have v2 : mm (l1 ++ l2) (l3 ++ l1) = mm l1 l3 ++ mm l2 l1 := mm_app l2 l1 (by omega)
      have v3 : ((wt (l1 ++ l2) : Nat) : Int) = (wt l1 : Nat) + (wt l2 : Nat) := by rw [wt_app]; omega
      have lk5 : F_33 [.lst [W (m4 (li t1 + li t2)) (l1 ++ l2), W (m4 (li (m4 (li t1 + li t2)) + li (m4 (li t3 + li t1)) + sm (l1 ++ l2) (l3 ++ l1))) (mm (l1 ++ l2) (l3 ++ l1)), .int (wt (l1 ++ l2) : Nat)],
          .lst [.tup [lv (m4 (li t1 + li t2)), .tup (l1.map lv ++ l2.map lv)], W (m4 (li (m4 (li t1 + li t3 + sm l1 l3)) + li (m4 (li t2 + li t1 + sm l2 l1)))) (mm l1 l3 ++ mm l2 l1), .int ((wt l1 : Nat) + (wt l2 : Nat))]] cc = .ok (.bl true) cc :=
        like_ok (by rw [← v1, ← v2, ← v3, ← List.map_append]) (.lst (by show 3 ≤ 1000; decide) (pl_cons (pl_W (by rw [List.length_append]; omega)) (pl_cons (pl_W (by rw [v2, List.length_append]; omega)) (pl_cons (.int _) pl_nil)))) cc
      simp (config := { implicitDefEqProofs := false }) only [run_ap, List.map_cons, List.map_nil, List.replicate, List.cons_append, List.nil_append, bO_ok, bO_exc, sO_nx, sO_rt, sO_ex, oR_some, toS_ok, toS_exc, fin_nx, fin_rt, fin_ex, dSeq_ap, dNext_ap, dIfS_ap, kIfS_t, kIfS_f, dAsg_ap, dRet_ap, dDrop_ap, dRaise_ap, dBin_ap, dChain_ap, kCh_t, kCh_f, dUn_ap, dVar_ap, dVarB_ap, slV_va, slB_va, dC_ap, dNrm_ap, dNil_ap, dCons_ap, consT_ap, dTup_ap, dLst_ap, dBi_ap, tupO_ap, dCall_ap, dIx_ap, fnE_0, fnE_1, fnE_2, fnE_3, fnE_4, fnE_5, kIx_tup, kIx_lst, dIf_ap, kIf_t, kIf_f, dNotT_ap, kNot_ap, dNotV_ap, kNotV_ap, dTru_ap, kTru_bl, dAndT_ap, kAnd_t, kAnd_f, dOrT_ap, kOr_t, kOr_f, dAndV_ap, kAndV_t, kAndV_f, dOrV_ap, kOrV_t, kOrV_f, dItems_ap, dZip_ap, dComp_ap, dFor_ap, dM1_ap, kM1_xt, dAsgT2_ap, kT2_ap, dRng1_ap, dPar2_ap, dPar3_ap, kP2_ap, kP3_ap, dCut_ap, dPart_ap, kPart_i, bLen_tup, bLen_lst, frzA_nil, frzA_cons, frzS_no, frzS_va, ixF_0, ixF_1, Bool.not_true, Bool.not_false, getS_0, getS_1, getS_2, getS_3, getS_4, getS_5, getS_6, getS_7, getS_8, getS_9, getS_10, getS_11, getS_12, getS_13, getS_14, getS_15, getS_16, getS_17, getS_18, getS_19, getS_20, getS_21, set_0, set_1, set_2, set_3, set_4, set_5, set_6, set_7, set_8, set_9, set_10, set_11, set_12, set_13, set_14, set_15, set_16, set_17, set_18, set_19, set_20, set_21, mkT_0, mkT_1, mkT_2, mkT_3, mkT_4, mkT_5, mkT_6, mkT_7, mkT_8, mkT_9, mkT_10, mkT_11, mkT_12, mkL_0, mkL_1, mkL_2, mkL_3, mkL_4, mkL_5, mkL_6, mkL_7, mkL_8, mkL_9, mkL_10, mkL_11, mkL_12, gt, nrm_xw, f27a, f27b, f19j, f24b, f24, f24c, f19k, f19b, f27c, ap, add_lv, add_i, b_int, mod4, lk5]
end K00
set_option maxHeartbeats 8000000
namespace K00
open PySem PySem.Spec PyProof.Rows L2 RX
def rp (p : Nat) (l : L4) : List L4 := List.replicate p l
theorem rp_len {p : Nat} {l : L4} : (rp p l).length = p := List.length_replicate
theorem mul_rep {n : Nat} {xs : List PV} (h : 1 ≤ n) (h2 : n ≤ 1000) (hx : 1 ≤ xs.length) (hx2 : xs.length ≤ 1000) : oMul (.tup xs) (.int (n : Nat)) = some (.tup (repL n xs)) := by
  show (bif decide (2 ≤ (n : Int)) && decide ((n : Int) ≤ 1000) && Nat.ble 1 xs.length && Nat.ble xs.length 1000 then some (PV.tup (repL (n : Int).toNat xs)) else bif decide ((n : Int) = 1) then some (PV.tup xs) else bif decide ((n : Int) = 0) then some (PV.tup []) else none) = _
  by_cases e : n = 1
  · subst e
    have q : repL 1 xs = xs := by simp [repL]
    rw [q]
    rfl
  · rw [decide_eq_true (show 2 ≤ (n : Int) by omega), decide_eq_true (show (n : Int) ≤ 1000 by omega), Nat.ble_eq_true_of_le hx, Nat.ble_eq_true_of_le hx2, Int.toNat_natCast]
    rfl
theorem rep_lv (p : Nat) (l : L4) : repL p [lv l] = (rp p l).map lv := by
  unfold repL rp
  rw [List.map_replicate, List.flatten_replicate_singleton]
theorem mul_l {p : Nat} (h : p ≤ 12) (h1 : 1 ≤ p) (l : L4) : oMul (.tup [lv l]) (.int (p : Nat)) = some (lp (rp p l)) := by
  rw [mul_rep h1 (by omega) (by show 1 ≤ 1; decide) (by show 1 ≤ 1000; decide), rep_lv]
theorem sm_rp (a b : L4) : ∀ p : Nat, sm (rp p a) (rp p b) = (p : Nat) * tn a b
  | 0 => by show sm [] [] = _; simp [sm]
  | p + 1 => by
    have ih := sm_rp a b p
    show sm (a :: rp p a) (b :: rp p b) = _
    rw [sm_cons, ih, Int.natCast_add, Int.add_mul, Int.add_comm]
    congr 1
    show _ = (1 : Int) * _
    rw [Int.one_mul]
theorem mm_rp (a b : L4) : ∀ p : Nat, mm (rp p a) (rp p b) = rp p (ml a b)
  | 0 => rfl
  | p + 1 => by
    show ml a b :: mm (rp p a) (rp p b) = _
    rw [mm_rp a b p]
    rfl
theorem opp_rp : ∀ p : Nat, opp (rp p .x) (rp p .z) = p
  | 0 => rfl
  | p + 1 => by
    show opp (.x :: rp p .x) (.z :: rp p .z) = _
    rw [opp_cons, opp_rp p]
    show 1 + p = p + 1
    omega
/-! many of one -/
def alt (k : Nat) (a b : L4) : L4 := if k % 2 = 0 then a else b
theorem fold_one (p : Nat) : ∀ k : Nat, (List.replicate k ((L4.i, rp p .x) : Wd)).foldl mulW (.i, rp p .x) = (.i, rp p (alt k .x .i)) ∧ (List.replicate k ((L4.i, rp p .x) : Wd)).foldl mulW (.i, rp p .i) = (.i, rp p (alt k .i .x))
  | 0 => ⟨rfl, rfl⟩
  | k + 1 => by
    obtain ⟨h1, h2⟩ := fold_one p k
    have e1 : mulW (.i, rp p .x) (.i, rp p .x) = (.i, rp p .i) := by
      show (m4 (0 + 0 + sm (rp p .x) (rp p .x)), mm (rp p .x) (rp p .x)) = _
      rw [sm_rp, mm_rp]
      show (m4 (0 + 0 + (p : Int) * 0), rp p .i) = _
      rw [Int.mul_zero]
      rfl
    have e2 : mulW (.i, rp p .i) (.i, rp p .x) = (.i, rp p .x) := by
      show (m4 (0 + 0 + sm (rp p .i) (rp p .x)), mm (rp p .i) (rp p .x)) = _
      rw [sm_rp, mm_rp]
      show (m4 (0 + 0 + (p : Int) * 0), rp p .x) = _
      rw [Int.mul_zero]
      rfl
    have e3 : alt (k + 1) .x .i = alt k .i .x := by
      unfold alt
      by_cases e : k % 2 = 0
      · rw [if_pos e, if_neg (by omega)]
      · rw [if_neg e, if_pos (by omega)]
    have e4 : alt (k + 1) .i .x = alt k .x .i := by
      unfold alt
      by_cases e : k % 2 = 0
      · rw [if_pos e, if_neg (by omega)]
      · rw [if_neg e, if_pos (by omega)]
    rw [List.replicate_succ, List.foldl_cons, List.foldl_cons, e1, e2, e3, e4]
    exact ⟨h2, h1⟩
/-! letters alone -/
theorem fold_snd : ∀ (r : List Wd) (w : Wd), (r.foldl mulW w).2 = (r.map Prod.snd).foldl mm w.2
  | [], _ => rfl
  | x :: r, w => by
    rw [List.foldl_cons, fold_snd r, List.map_cons, List.foldl_cons]
    rfl
def two (h : Nat) (a b : Wd) : List Wd := (List.replicate h [a, b]).flatten
theorem two_succ (h : Nat) (a b : Wd) : two (h + 1) a b = a :: b :: two h a b := by
  unfold two
  rw [List.replicate_succ, List.flatten_cons]
  rfl
theorem two_len (a b : Wd) : ∀ h : Nat, (two h a b).length = 2 * h
  | 0 => rfl
  | h + 1 => by
    rw [two_succ, List.length_cons, List.length_cons, two_len a b h]
    omega
theorem two_mem (a b : Wd) : ∀ h : Nat, ∀ x ∈ two h a b, x = a ∨ x = b
  | 0, x, m => by cases m
  | h + 1, x, m => by
    rw [two_succ] at m
    rcases List.mem_cons.mp m with rfl | m
    · exact .inl rfl
    · rcases List.mem_cons.mp m with rfl | m
      · exact .inr rfl
      · exact two_mem a b h x m
theorem fold_two (p : Nat) : ∀ h : Nat, ((two h ((L4.i, rp p .z) : Wd) (L4.i, rp p .x)).map Prod.snd).foldl mm (rp p .y) = rp p (alt h .y .i) ∧ ((two h ((L4.i, rp p .z) : Wd) (L4.i, rp p .x)).map Prod.snd).foldl mm (rp p .i) = rp p (alt h .i .y)
  | 0 => ⟨rfl, rfl⟩
  | h + 1 => by
    obtain ⟨h1, h2⟩ := fold_two p h
    have e3 : alt (h + 1) .y .i = alt h .i .y := by
      unfold alt
      by_cases e : h % 2 = 0
      · rw [if_pos e, if_neg (by omega)]
      · rw [if_neg e, if_pos (by omega)]
    have e4 : alt (h + 1) .i .y = alt h .y .i := by
      unfold alt
      by_cases e : h % 2 = 0
      · rw [if_pos e, if_neg (by omega)]
      · rw [if_neg e, if_pos (by omega)]
    rw [two_succ, List.map_cons, List.map_cons, List.foldl_cons, List.foldl_cons, List.foldl_cons, List.foldl_cons, mm_rp, mm_rp, mm_rp, mm_rp, e3, e4]
    exact ⟨h2, h1⟩
theorem rep_map {n : Nat} {w : Wd} : repL n [wv w] = (List.replicate n w).map wv := by
  unfold repL
  rw [List.map_replicate, List.flatten_replicate_singleton]
theorem rep_two (a b : Wd) : ∀ n : Nat, repL n [wv a, wv b] = (two n a b).map wv
  | 0 => rfl
  | n + 1 => by
    have ih := rep_two a b n
    rw [two_succ, List.map_cons, List.map_cons, ← ih]
    unfold repL
    rw [List.replicate_succ, List.flatten_cons]
    rfl
theorem great1 {p k : Nat} (hp : p ≤ 12) (hp1 : 1 ≤ p) (hk : k ≤ 199) (c : Cup) : F_21 [.tup (repL (k + 1) [.tup [.int 0, lp (rp p .x)]])] c = .ok (.tup [.int 0, lp (rp p (alt (k + 1) .i .x))]) c := by
  have e : repL (k + 1) [PV.tup [.int 0, lp (rp p .x)]] = (List.replicate (k + 1) ((L4.i, rp p .x) : Wd)).map wv := rep_map (w := (L4.i, rp p .x))
  have q := prod_ok hp hp1 (List.replicate (k + 1) ((L4.i, rp p .x) : Wd)) (L4.i, rp p .x) (List.replicate k (L4.i, rp p .x)) c List.replicate_succ (by rw [List.length_replicate]; exact hk) fun x m => by
    rw [(List.mem_replicate.mp m).2]
    exact rp_len
  rw [e, q, (fold_one p k).1]
  have e3 : alt (k + 1) .i .x = alt k .x .i := by
    unfold alt
    by_cases e : k % 2 = 0
    · rw [if_pos e, if_neg (by omega)]
    · rw [if_neg e, if_pos (by omega)]
  rw [e3]
  rfl
theorem great2 {p h : Nat} (hp : p ≤ 12) (hp1 : 1 ≤ p) (hk : h ≤ 99) (c : Cup) : ∃ t : L4, F_21 [.tup (repL (h + 1) [.tup [.int 0, lp (rp p .z)], .tup [.int 0, lp (rp p .x)]])] c = .ok (W t (rp p (alt (h + 1) .i .y))) c := by
  have e : repL (h + 1) [PV.tup [.int 0, lp (rp p .z)], PV.tup [.int 0, lp (rp p .x)]] = (two (h + 1) ((L4.i, rp p .z) : Wd) (L4.i, rp p .x)).map wv := rep_two (L4.i, rp p .z) (L4.i, rp p .x) (h + 1)
  have q := prod_ok hp hp1 (two (h + 1) ((L4.i, rp p .z) : Wd) (L4.i, rp p .x)) (L4.i, rp p .z) ((L4.i, rp p .x) :: two h (L4.i, rp p .z) (L4.i, rp p .x)) c (two_succ _ _ _) (by rw [List.length_cons, two_len]; omega) fun x m => by
    rcases two_mem _ _ _ x m with rfl | rfl <;> exact rp_len
  have e3 : alt (h + 1) .i .y = alt h .y .i := by
    unfold alt
    by_cases e : h % 2 = 0
    · rw [if_pos e, if_neg (by omega)]
    · rw [if_neg e, if_pos (by omega)]
  have w2 : ((((L4.i, rp p .x) : Wd) :: two h (L4.i, rp p .z) (L4.i, rp p .x)).foldl mulW (L4.i, rp p .z)).2 = rp p (alt (h + 1) .i .y) := by
    rw [fold_snd, List.map_cons, List.foldl_cons, e3]
    show (List.map Prod.snd (two h ((L4.i, rp p .z) : Wd) (L4.i, rp p .x))).foldl mm (mm (rp p .z) (rp p .x)) = _
    rw [mm_rp]
    exact (fold_two p h).1
  refine ⟨((((L4.i, rp p .x) : Wd) :: two h (L4.i, rp p .z) (L4.i, rp p .x)).foldl mulW (L4.i, rp p .z)).1, ?_⟩
  rw [e, q, ← w2]
  rfl
end K00
set_option maxHeartbeats 8000000
namespace K00
open PySem PySem.Spec PyProof.Rows L2 RX
theorem add_1 {k : Nat} : oAdd (.int 1) (.int (k : Nat)) = some (.int ((k + 1 : Nat) : Int)) := by
  show some (PV.int (1 + (k : Int))) = _
  rw [Int.natCast_add, Int.add_comm]
  rfl
theorem rollN {m : Int} (hm : 0 < m) (hm2 : m < 1073741824) {c : Cup} (g : Gd c) : ∃ (k : Nat) (c2 : Cup), F_30 [.box, .int m] c = .ok (.int (k : Nat)) c2 ∧ (k : Int) < m ∧ Gd c2 := by
  obtain ⟨r, c2, e, h1, h2, g2⟩ := roll30 hm hm2 g
  obtain ⟨k, rfl⟩ := Int.eq_ofNat_of_zero_le h1
  exact ⟨k, c2, e, h2, g2⟩
theorem great_ok {c : Cup} (g : Gd c) : ∃ c2, F_41 [.box] c = .ok (.bl true) c2 ∧ Gd c2 := by
  obtain ⟨kp, ca, e1, h1, g1⟩ := rollN (m := 12) (by decide) (by decide) g
  obtain ⟨km, cb, e2, h2, g2⟩ := rollN (m := 200) (by decide) (by decide) g1
  obtain ⟨kh, cc, e3, h3, g3⟩ := rollN (m := 100) (by decide) (by decide) g2
  refine ⟨cc, ?_, g3⟩
  have hp : kp + 1 ≤ 12 := by omega
  have hp1 : 1 ≤ kp + 1 := by omega
  have m1 : oMul (.tup [.int 1]) (.int ((kp + 1 : Nat) : Int)) = some (lp (rp (kp + 1) .x)) := mul_l hp hp1 .x
  have m2 : oMul (.tup [.int 2]) (.int ((kp + 1 : Nat) : Int)) = some (lp (rp (kp + 1) .z)) := mul_l hp hp1 .z
  have m3 : oMul (.tup [.int 3]) (.int ((kp + 1 : Nat) : Int)) = some (lp (rp (kp + 1) .y)) := mul_l hp hp1 .y
  have m0 : oMul (.tup [.int 0]) (.int ((kp + 1 : Nat) : Int)) = some (lp (rp (kp + 1) .i)) := mul_l hp hp1 .i
  have q1 : oMul (.tup [.tup [.int 0, lp (rp (kp + 1) .x)]]) (.int ((km + 1 : Nat) : Int)) = some (.tup (repL (km + 1) [.tup [.int 0, lp (rp (kp + 1) .x)]])) := mul_rep (by omega) (by omega) (by show 1 ≤ 1; decide) (by show 1 ≤ 1000; decide)
  have q2 : oMul (.tup [.tup [.int 0, lp (rp (kp + 1) .z)], .tup [.int 0, lp (rp (kp + 1) .x)]]) (.int ((kh + 1 : Nat) : Int)) = some (.tup (repL (kh + 1) [.tup [.int 0, lp (rp (kp + 1) .z)], .tup [.int 0, lp (rp (kp + 1) .x)]])) := mul_rep (by omega) (by omega) (by show 1 ≤ 2; decide) (by show 2 ≤ 1000; decide)
  have f21a := great1 (k := km) hp hp1 (by omega) cc
  obtain ⟨tt, f21b⟩ := great2 (h := kh) hp hp1 (by omega) cc
  have lx : (rp (kp + 1) .x).length = kp + 1 := rp_len
  have lz : (rp (kp + 1) .z).length = kp + 1 := rp_len
  have f20 : F_20 [.tup [.int 0, lp (rp (kp + 1) .x)], .tup [.int 0, lp (rp (kp + 1) .z)]] cc = .ok (.bl (!decide (((kp + 1 : Nat) : Int) % 2 = 1))) cc := by
    have q := agree_ok (t := .i) (t2 := .i) (ls := rp (kp + 1) .x) (l2 := rp (kp + 1) .z) cc (by omega) (by omega) (by omega)
    rw [opp_rp] at q
    exact q
  have f19a : F_19 [.tup [.int 0, lp (rp (kp + 1) .z)], .tup [.int 0, lp (rp (kp + 1) .x)]] cc = .ok (W (m4 ((kp + 1 : Nat) : Int)) (rp (kp + 1) .y)) cc := by
    have q := product_ok (t := .i) (t2 := .i) (ls := rp (kp + 1) .z) (l2 := rp (kp + 1) .x) cc (by omega) (by omega) (by omega)
    rw [sm_rp, mm_rp] at q
    have e : li .i + li .i + ((kp + 1 : Nat) : Int) * tn .z .x = ((kp + 1 : Nat) : Int) := by
      show 0 + 0 + ((kp + 1 : Nat) : Int) * 1 = _
      omega
    rw [e] at q
    exact q
  have f19b : F_19 [.tup [.int 0, lp (rp (kp + 1) .x)], .tup [.int 0, lp (rp (kp + 1) .z)]] cc = .ok (W (m4 (3 * ((kp + 1 : Nat) : Int))) (rp (kp + 1) .y)) cc := by
    have q := product_ok (t := .i) (t2 := .i) (ls := rp (kp + 1) .x) (l2 := rp (kp + 1) .z) cc (by omega) (by omega) (by omega)
    rw [sm_rp, mm_rp] at q
    have e : li .i + li .i + ((kp + 1 : Nat) : Int) * tn .x .z = 3 * ((kp + 1 : Nat) : Int) := by
      show 0 + 0 + ((kp + 1 : Nat) : Int) * 3 = _
      omega
    rw [e] at q
    exact q
  have m5 : oMul (.int 3) (.int ((kp + 1 : Nat) : Int)) = some (.int (3 * ((kp + 1 : Nat) : Int))) := rfl
  have bp : (!decide (((kp + 1 : Nat) : Int) % 2 = 1)) = decide (((kp + 1 : Nat) : Int) % 2 = 0) := by
    by_cases e : ((kp + 1 : Nat) : Int) % 2 = 0
    · rw [decide_eq_true e, decide_eq_false (by omega)]; rfl
    · rw [decide_eq_false e, decide_eq_true (by omega)]; rfl
  have ll : ∀ l : L4, (rp (kp + 1) l).length ≤ 1000 := fun l => by rw [rp_len]; omega
  have lk1 : F_33 [.lst [.tup [.int 0, lp (rp (kp + 1) (alt (km + 1) .i .x))], lp (rp (kp + 1) (alt (kh + 1) .i .y)), .bl (!decide (((kp + 1 : Nat) : Int) % 2 = 1))],
      .lst [.tup [.int 0, lp (rp (kp + 1) (alt (km + 1) .i .x))], lp (rp (kp + 1) (alt (kh + 1) .i .y)), .bl (decide (((kp + 1 : Nat) : Int) % 2 = 0))]] cc = .ok (.bl true) cc :=
    like_ok (by rw [bp]; rfl) (.lst (by show 3 ≤ 1000; decide) (pl_cons (pl_W (t := .i) (ll _)) (pl_cons (pl_lp (ll _)) (pl_cons (.bl _) pl_nil)))) cc
  have lk2 : F_33 [.lst [W (m4 ((kp + 1 : Nat) : Int)) (rp (kp + 1) .y), W (m4 (3 * ((kp + 1 : Nat) : Int))) (rp (kp + 1) .y)],
      .lst [.tup [lv (m4 ((kp + 1 : Nat) : Int)), lp (rp (kp + 1) .y)], .tup [lv (m4 (3 * ((kp + 1 : Nat) : Int))), lp (rp (kp + 1) .y)]]] cc = .ok (.bl true) cc :=
    like_ok rfl (.lst (by show 2 ≤ 1000; decide) (pl_cons (pl_W (ll _)) (pl_cons (pl_W (ll _)) pl_nil))) cc
  have mo : ∀ i : Int, oMod (.int i) (.int 2) = some (.int (i % 2)) := fun i => mod_i rfl
  unfold F_41
  rw [n_41]
  unfold b_41
  by_cases em : (km + 1) % 2 = 0
  · have am : alt (km + 1) .i .x = .i := if_pos em
    rw [am] at f21a lk1
    have dm : decide (((km + 1 : Nat) : Int) % 2 = 0) = true := decide_eq_true (by omega)
    by_cases eh : (kh + 1) % 2 = 0
    · have ah : alt (kh + 1) .i .y = .i := if_pos eh
      rw [ah] at f21b lk1
      have dh : decide (((kh + 1 : Nat) : Int) % 2 = 0) = true := decide_eq_true (by omega)
      simp (config := { implicitDefEqProofs := false }) only [run_ap, List.map_cons, List.map_nil, List.replicate, List.cons_append, List.nil_append, bO_ok, bO_exc, sO_nx, sO_rt, sO_ex, oR_some, toS_ok, toS_exc, fin_nx, fin_rt, fin_ex, dSeq_ap, dNext_ap, dIfS_ap, kIfS_t, kIfS_f, dAsg_ap, dRet_ap, dDrop_ap, dRaise_ap, dBin_ap, dChain_ap, kCh_t, kCh_f, dUn_ap, dVar_ap, dVarB_ap, slV_va, slB_va, dC_ap, dNrm_ap, dNil_ap, dCons_ap, consT_ap, dTup_ap, dLst_ap, dBi_ap, tupO_ap, dCall_ap, dIx_ap, fnE_0, fnE_1, fnE_2, fnE_3, fnE_4, fnE_5, kIx_tup, kIx_lst, dIf_ap, kIf_t, kIf_f, dNotT_ap, kNot_ap, dNotV_ap, kNotV_ap, dTru_ap, kTru_bl, dAndT_ap, kAnd_t, kAnd_f, dOrT_ap, kOr_t, kOr_f, dAndV_ap, kAndV_t, kAndV_f, dOrV_ap, kOrV_t, kOrV_f, dItems_ap, dZip_ap, dComp_ap, dFor_ap, dM1_ap, kM1_xt, dAsgT2_ap, kT2_ap, dRng1_ap, dPar2_ap, dPar3_ap, kP2_ap, kP3_ap, dCut_ap, dPart_ap, kPart_i, bLen_tup, bLen_lst, frzA_nil, frzA_cons, frzS_no, frzS_va, ixF_0, ixF_1, Bool.not_true, Bool.not_false, getS_0, getS_1, getS_2, getS_3, getS_4, getS_5, getS_6, getS_7, getS_8, getS_9, getS_10, getS_11, getS_12, getS_13, getS_14, getS_15, getS_16, getS_17, getS_18, getS_19, getS_20, getS_21, set_0, set_1, set_2, set_3, set_4, set_5, set_6, set_7, set_8, set_9, set_10, set_11, set_12, set_13, set_14, set_15, set_16, set_17, set_18, set_19, set_20, set_21, mkT_0, mkT_1, mkT_2, mkT_3, mkT_4, mkT_5, mkT_6, mkT_7, mkT_8, mkT_9, mkT_10, mkT_11, mkT_12, mkL_0, mkL_1, mkL_2, mkL_3, mkL_4, mkL_5, mkL_6, mkL_7, mkL_8, mkL_9, mkL_10, mkL_11, mkL_12, e1, e2, e3, add_1, m1, m2, m0, q1, q2, f21a, f21b, f20, mo, eq_i, dm, dh, m3, m5, mod4, lk1, f19a, f19b, lk2]
    · have ah : alt (kh + 1) .i .y = .y := if_neg eh
      rw [ah] at f21b lk1
      have dh : decide (((kh + 1 : Nat) : Int) % 2 = 0) = false := decide_eq_false (by omega)
      simp (config := { implicitDefEqProofs := false }) only [run_ap, List.map_cons, List.map_nil, List.replicate, List.cons_append, List.nil_append, bO_ok, bO_exc, sO_nx, sO_rt, sO_ex, oR_some, toS_ok, toS_exc, fin_nx, fin_rt, fin_ex, dSeq_ap, dNext_ap, dIfS_ap, kIfS_t, kIfS_f, dAsg_ap, dRet_ap, dDrop_ap, dRaise_ap, dBin_ap, dChain_ap, kCh_t, kCh_f, dUn_ap, dVar_ap, dVarB_ap, slV_va, slB_va, dC_ap, dNrm_ap, dNil_ap, dCons_ap, consT_ap, dTup_ap, dLst_ap, dBi_ap, tupO_ap, dCall_ap, dIx_ap, fnE_0, fnE_1, fnE_2, fnE_3, fnE_4, fnE_5, kIx_tup, kIx_lst, dIf_ap, kIf_t, kIf_f, dNotT_ap, kNot_ap, dNotV_ap, kNotV_ap, dTru_ap, kTru_bl, dAndT_ap, kAnd_t, kAnd_f, dOrT_ap, kOr_t, kOr_f, dAndV_ap, kAndV_t, kAndV_f, dOrV_ap, kOrV_t, kOrV_f, dItems_ap, dZip_ap, dComp_ap, dFor_ap, dM1_ap, kM1_xt, dAsgT2_ap, kT2_ap, dRng1_ap, dPar2_ap, dPar3_ap, kP2_ap, kP3_ap, dCut_ap, dPart_ap, kPart_i, bLen_tup, bLen_lst, frzA_nil, frzA_cons, frzS_no, frzS_va, ixF_0, ixF_1, Bool.not_true, Bool.not_false, getS_0, getS_1, getS_2, getS_3, getS_4, getS_5, getS_6, getS_7, getS_8, getS_9, getS_10, getS_11, getS_12, getS_13, getS_14, getS_15, getS_16, getS_17, getS_18, getS_19, getS_20, getS_21, set_0, set_1, set_2, set_3, set_4, set_5, set_6, set_7, set_8, set_9, set_10, set_11, set_12, set_13, set_14, set_15, set_16, set_17, set_18, set_19, set_20, set_21, mkT_0, mkT_1, mkT_2, mkT_3, mkT_4, mkT_5, mkT_6, mkT_7, mkT_8, mkT_9, mkT_10, mkT_11, mkT_12, mkL_0, mkL_1, mkL_2, mkL_3, mkL_4, mkL_5, mkL_6, mkL_7, mkL_8, mkL_9, mkL_10, mkL_11, mkL_12, e1, e2, e3, add_1, m1, m2, m0, q1, q2, f21a, f21b, f20, mo, eq_i, dm, dh, m3, m5, mod4, lk1, f19a, f19b, lk2]
  · have am : alt (km + 1) .i .x = .x := if_neg em
    rw [am] at f21a lk1
    have dm : decide (((km + 1 : Nat) : Int) % 2 = 0) = false := decide_eq_false (by omega)
    by_cases eh : (kh + 1) % 2 = 0
    · have ah : alt (kh + 1) .i .y = .i := if_pos eh
      rw [ah] at f21b lk1
      have dh : decide (((kh + 1 : Nat) : Int) % 2 = 0) = true := decide_eq_true (by omega)
      simp (config := { implicitDefEqProofs := false }) only [run_ap, List.map_cons, List.map_nil, List.replicate, List.cons_append, List.nil_append, bO_ok, bO_exc, sO_nx, sO_rt, sO_ex, oR_some, toS_ok, toS_exc, fin_nx, fin_rt, fin_ex, dSeq_ap, dNext_ap, dIfS_ap, kIfS_t, kIfS_f, dAsg_ap, dRet_ap, dDrop_ap, dRaise_ap, dBin_ap, dChain_ap, kCh_t, kCh_f, dUn_ap, dVar_ap, dVarB_ap, slV_va, slB_va, dC_ap, dNrm_ap, dNil_ap, dCons_ap, consT_ap, dTup_ap, dLst_ap, dBi_ap, tupO_ap, dCall_ap, dIx_ap, fnE_0, fnE_1, fnE_2, fnE_3, fnE_4, fnE_5, kIx_tup, kIx_lst, dIf_ap, kIf_t, kIf_f, dNotT_ap, kNot_ap, dNotV_ap, kNotV_ap, dTru_ap, kTru_bl, dAndT_ap, kAnd_t, kAnd_f, dOrT_ap, kOr_t, kOr_f, dAndV_ap, kAndV_t, kAndV_f, dOrV_ap, kOrV_t, kOrV_f, dItems_ap, dZip_ap, dComp_ap, dFor_ap, dM1_ap, kM1_xt, dAsgT2_ap, kT2_ap, dRng1_ap, dPar2_ap, dPar3_ap, kP2_ap, kP3_ap, dCut_ap, dPart_ap, kPart_i, bLen_tup, bLen_lst, frzA_nil, frzA_cons, frzS_no, frzS_va, ixF_0, ixF_1, Bool.not_true, Bool.not_false, getS_0, getS_1, getS_2, getS_3, getS_4, getS_5, getS_6, getS_7, getS_8, getS_9, getS_10, getS_11, getS_12, getS_13, getS_14, getS_15, getS_16, getS_17, getS_18, getS_19, getS_20, getS_21, set_0, set_1, set_2, set_3, set_4, set_5, set_6, set_7, set_8, set_9, set_10, set_11, set_12, set_13, set_14, set_15, set_16, set_17, set_18, set_19, set_20, set_21, mkT_0, mkT_1, mkT_2, mkT_3, mkT_4, mkT_5, mkT_6, mkT_7, mkT_8, mkT_9, mkT_10, mkT_11, mkT_12, mkL_0, mkL_1, mkL_2, mkL_3, mkL_4, mkL_5, mkL_6, mkL_7, mkL_8, mkL_9, mkL_10, mkL_11, mkL_12, e1, e2, e3, add_1, m1, m2, m0, q1, q2, f21a, f21b, f20, mo, eq_i, dm, dh, m3, m5, mod4, lk1, f19a, f19b, lk2]
    · have ah : alt (kh + 1) .i .y = .y := if_neg eh
      rw [ah] at f21b lk1
      have dh : decide (((kh + 1 : Nat) : Int) % 2 = 0) = false := decide_eq_false (by omega)
      simp (config := { implicitDefEqProofs := false }) only [run_ap, List.map_cons, List.map_nil, List.replicate, List.cons_append, List.nil_append, bO_ok, bO_exc, sO_nx, sO_rt, sO_ex, oR_some, toS_ok, toS_exc, fin_nx, fin_rt, fin_ex, dSeq_ap, dNext_ap, dIfS_ap, kIfS_t, kIfS_f, dAsg_ap, dRet_ap, dDrop_ap, dRaise_ap, dBin_ap, dChain_ap, kCh_t, kCh_f, dUn_ap, dVar_ap, dVarB_ap, slV_va, slB_va, dC_ap, dNrm_ap, dNil_ap, dCons_ap, consT_ap, dTup_ap, dLst_ap, dBi_ap, tupO_ap, dCall_ap, dIx_ap, fnE_0, fnE_1, fnE_2, fnE_3, fnE_4, fnE_5, kIx_tup, kIx_lst, dIf_ap, kIf_t, kIf_f, dNotT_ap, kNot_ap, dNotV_ap, kNotV_ap, dTru_ap, kTru_bl, dAndT_ap, kAnd_t, kAnd_f, dOrT_ap, kOr_t, kOr_f, dAndV_ap, kAndV_t, kAndV_f, dOrV_ap, kOrV_t, kOrV_f, dItems_ap, dZip_ap, dComp_ap, dFor_ap, dM1_ap, kM1_xt, dAsgT2_ap, kT2_ap, dRng1_ap, dPar2_ap, dPar3_ap, kP2_ap, kP3_ap, dCut_ap, dPart_ap, kPart_i, bLen_tup, bLen_lst, frzA_nil, frzA_cons, frzS_no, frzS_va, ixF_0, ixF_1, Bool.not_true, Bool.not_false, getS_0, getS_1, getS_2, getS_3, getS_4, getS_5, getS_6, getS_7, getS_8, getS_9, getS_10, getS_11, getS_12, getS_13, getS_14, getS_15, getS_16, getS_17, getS_18, getS_19, getS_20, getS_21, set_0, set_1, set_2, set_3, set_4, set_5, set_6, set_7, set_8, set_9, set_10, set_11, set_12, set_13, set_14, set_15, set_16, set_17, set_18, set_19, set_20, set_21, mkT_0, mkT_1, mkT_2, mkT_3, mkT_4, mkT_5, mkT_6, mkT_7, mkT_8, mkT_9, mkT_10, mkT_11, mkT_12, mkL_0, mkL_1, mkL_2, mkL_3, mkL_4, mkL_5, mkL_6, mkL_7, mkL_8, mkL_9, mkL_10, mkL_11, mkL_12, e1, e2, e3, add_1, m1, m2, m0, q1, q2, f21a, f21b, f20, mo, eq_i, dm, dh, m3, m5, mod4, lk1, f19a, f19b, lk2]
end K00
set_option maxHeartbeats 0
namespace K00
open PySem PySem.Spec PyProof.Rows L2 RX
/-! ### the limits: finitely many -/
def b_31 : Sd := dRet (dIx (dVarB 1) (dCall F_30 2 (dCons (dVar 0) (dCons (dBi bLen (dCons (dVarB 1) dNil)) dNil))))
theorem n_31 : s_31 = b_31 := by kernel_rfl
def g_43 : Gam := ⟨N_43, defScope (top 43), ["bad", "bits", "good", "name", "row"], f_43, ers, con, exs, free, []⟩
def sl (k : Nat) : Sd := stmS (den 30) g_43 [] 10000 12 ((defBody (top 43)).getD k (.Pass ⟨0, 0, 0, 0⟩))
def rest : Sd := seqS (stmS (den 30) g_43 [] 10000 12) ((defBody (top 43)).drop 4)
theorem n_43 : s_43 = dSeq (sl 0) (dSeq (sl 1) (dSeq (sl 2) (dSeq (sl 3) rest))) := by kernel_rfl
def e_43 : En := [.va .box, .no, .no, .no, .no, .no, .no, .no, .no, .no, .no, .no, .no, .no, .no]
def E2 : En := match dSeq (sl 0) (dSeq (sl 1) (sl 2)) e_43 [] with
  | .nx e _ => e
  | _ => []
def E0 : En := match sl 0 e_43 [] with
  | .nx e _ => e
  | _ => []
def E1 : En := match sl 1 E0 [] with
  | .nx e _ => e
  | _ => []
theorem l_0 (c : Cup) : sl 0 e_43 c = .nx E0 c := by kernel_rfl
theorem l_1 (c : Cup) : sl 1 E0 c = .nx E1 c := by kernel_rfl
theorem l_2 (c : Cup) : sl 2 E1 c = .nx E1 c := by kernel_rfl
def OD : List PV := match getS E1 1 with
  | .va (.lst xs) => xs
  | _ => []
theorem od_len : OD.length = 18 := by kernel_rfl
theorem od_get : getS E1 1 = .va (.lst OD) := by kernel_rfl
theorem bx_get : getS E1 0 = .va .box := by kernel_rfl
def good : PV := .tup [.int 1, .tup [.int 1, .int 3]]
def v_3 : E := (dTup (dCons (dLst dNil) (dCons (dCall F_31 2 (dCons (dVar 0) (dCons (dVar 1) dNil))) (dCons (dTup (dCons (dC (.int 1)) (dCons (dTup (dCons (dC (.int 1)) (dCons (dC (.int 3)) dNil))) dNil))) dNil))))
theorem n_l3 : sl 3 = dAsg (gT 3 (gsCons (gS 2) (gsCons (gS 8) (gsCons (gS 10) gsNil)))) v_3 := by kernel_rfl
def E3 (v : PV) : En := ((E1.set 2 (.va (.lst []))).set 8 (.va v)).set 10 (.va good)
theorem l_3 {c c2 : Cup} {k : Nat} (hk : k < 18) (e : F_30 [.box, .int 18] c = .ok (.int (k : Nat)) c2) : sl 3 E1 c = .nx (E3 (OD.getD k .non)) c2 := by
  have hi' : ixF OD ((k : Nat) : Int) = some (OD.getD k .non) := by
    show getL OD k = _
    rw [getL_eq, List.getD_eq_getElem?_getD, List.getElem?_eq_getElem (by rw [od_len]; exact hk)]
    rfl
  have hl : bLen [.lst OD] = some (.int 18) := by
    show some (PV.int ((OD.length : Nat) : Int)) = _
    rw [od_len]
    rfl
  have f31 : F_31 [.box, .lst OD] c = .ok (OD.getD k .non) c2 := by
    unfold F_31
    rw [n_31]
    unfold b_31
    have e' : F_30 [.box, .int ((OD.length : Nat) : Int)] c = .ok (.int (k : Nat)) c2 := by
      rw [od_len]
      exact e
    simp (config := { implicitDefEqProofs := false }) only [run_ap, List.map_cons, List.map_nil, List.replicate, List.cons_append, List.nil_append, bO_ok, bO_exc, sO_nx, sO_rt, sO_ex, oR_some, toS_ok, toS_exc, fin_nx, fin_rt, fin_ex, dSeq_ap, dNext_ap, dIfS_ap, kIfS_t, kIfS_f, dAsg_ap, dRet_ap, dDrop_ap, dRaise_ap, dBin_ap, dChain_ap, kCh_t, kCh_f, dUn_ap, dVar_ap, dVarB_ap, slV_va, slB_va, dC_ap, dNrm_ap, dNil_ap, dCons_ap, consT_ap, dTup_ap, dLst_ap, dBi_ap, tupO_ap, dCall_ap, dIx_ap, fnE_0, fnE_1, fnE_2, fnE_3, fnE_4, fnE_5, kIx_tup, kIx_lst, dIf_ap, kIf_t, kIf_f, dNotT_ap, kNot_ap, dNotV_ap, kNotV_ap, dTru_ap, kTru_bl, dAndT_ap, kAnd_t, kAnd_f, dOrT_ap, kOr_t, kOr_f, dAndV_ap, kAndV_t, kAndV_f, dOrV_ap, kOrV_t, kOrV_f, dItems_ap, dZip_ap, dComp_ap, dFor_ap, dM1_ap, kM1_xt, dAsgT2_ap, kT2_ap, dRng1_ap, dPar2_ap, dPar3_ap, kP2_ap, kP3_ap, dCut_ap, dPart_ap, kPart_i, bLen_tup, bLen_lst, frzA_nil, frzA_cons, frzS_no, frzS_va, ixF_0, ixF_1, Bool.not_true, Bool.not_false, getS_0, getS_1, getS_2, getS_3, getS_4, getS_5, getS_6, getS_7, getS_8, getS_9, getS_10, getS_11, getS_12, getS_13, getS_14, getS_15, getS_16, getS_17, getS_18, getS_19, getS_20, getS_21, set_0, set_1, set_2, set_3, set_4, set_5, set_6, set_7, set_8, set_9, set_10, set_11, set_12, set_13, set_14, set_15, set_16, set_17, set_18, set_19, set_20, set_21, mkT_0, mkT_1, mkT_2, mkT_3, mkT_4, mkT_5, mkT_6, mkT_7, mkT_8, mkT_9, mkT_10, mkT_11, mkT_12, mkL_0, mkL_1, mkL_2, mkL_3, mkL_4, mkL_5, mkL_6, mkL_7, mkL_8, mkL_9, mkL_10, mkL_11, mkL_12, e', hi']
  have hv : v_3 E1 c = .ok (.tup [.lst [], OD.getD k .non, good]) c2 := by
    unfold v_3
    simp (config := { implicitDefEqProofs := false }) only [run_ap, List.map_cons, List.map_nil, List.replicate, List.cons_append, List.nil_append, bO_ok, bO_exc, sO_nx, sO_rt, sO_ex, oR_some, toS_ok, toS_exc, fin_nx, fin_rt, fin_ex, dSeq_ap, dNext_ap, dIfS_ap, kIfS_t, kIfS_f, dAsg_ap, dRet_ap, dDrop_ap, dRaise_ap, dBin_ap, dChain_ap, kCh_t, kCh_f, dUn_ap, dVar_ap, dVarB_ap, slV_va, slB_va, dC_ap, dNrm_ap, dNil_ap, dCons_ap, consT_ap, dTup_ap, dLst_ap, dBi_ap, tupO_ap, dCall_ap, dIx_ap, fnE_0, fnE_1, fnE_2, fnE_3, fnE_4, fnE_5, kIx_tup, kIx_lst, dIf_ap, kIf_t, kIf_f, dNotT_ap, kNot_ap, dNotV_ap, kNotV_ap, dTru_ap, kTru_bl, dAndT_ap, kAnd_t, kAnd_f, dOrT_ap, kOr_t, kOr_f, dAndV_ap, kAndV_t, kAndV_f, dOrV_ap, kOrV_t, kOrV_f, dItems_ap, dZip_ap, dComp_ap, dFor_ap, dM1_ap, kM1_xt, dAsgT2_ap, kT2_ap, dRng1_ap, dPar2_ap, dPar3_ap, kP2_ap, kP3_ap, dCut_ap, dPart_ap, kPart_i, bLen_tup, bLen_lst, frzA_nil, frzA_cons, frzS_no, frzS_va, ixF_0, ixF_1, Bool.not_true, Bool.not_false, getS_0, getS_1, getS_2, getS_3, getS_4, getS_5, getS_6, getS_7, getS_8, getS_9, getS_10, getS_11, getS_12, getS_13, getS_14, getS_15, getS_16, getS_17, getS_18, getS_19, getS_20, getS_21, set_0, set_1, set_2, set_3, set_4, set_5, set_6, set_7, set_8, set_9, set_10, set_11, set_12, set_13, set_14, set_15, set_16, set_17, set_18, set_19, set_20, set_21, mkT_0, mkT_1, mkT_2, mkT_3, mkT_4, mkT_5, mkT_6, mkT_7, mkT_8, mkT_9, mkT_10, mkT_11, mkT_12, mkL_0, mkL_1, mkL_2, mkL_3, mkL_4, mkL_5, mkL_6, mkL_7, mkL_8, mkL_9, mkL_10, mkL_11, mkL_12, od_get, bx_get, f31]
    rfl
  rw [n_l3]
  show toS (v_3 E1 c) _ = _
  rw [hv]
  rfl
theorem r_0 (c : Cup) : rest (E3 (OD.getD 0 .non)) c = .rt (.bl true) c := by kernel_rfl
theorem r_1 (c : Cup) : rest (E3 (OD.getD 1 .non)) c = .rt (.bl true) c := by kernel_rfl
theorem r_2 (c : Cup) : rest (E3 (OD.getD 2 .non)) c = .rt (.bl true) c := by kernel_rfl
theorem r_3 (c : Cup) : rest (E3 (OD.getD 3 .non)) c = .rt (.bl true) c := by kernel_rfl
theorem r_4 (c : Cup) : rest (E3 (OD.getD 4 .non)) c = .rt (.bl true) c := by kernel_rfl
theorem r_5 (c : Cup) : rest (E3 (OD.getD 5 .non)) c = .rt (.bl true) c := by kernel_rfl
theorem r_6 (c : Cup) : rest (E3 (OD.getD 6 .non)) c = .rt (.bl true) c := by kernel_rfl
theorem r_7 (c : Cup) : rest (E3 (OD.getD 7 .non)) c = .rt (.bl true) c := by kernel_rfl
theorem r_8 (c : Cup) : rest (E3 (OD.getD 8 .non)) c = .rt (.bl true) c := by kernel_rfl
theorem r_9 (c : Cup) : rest (E3 (OD.getD 9 .non)) c = .rt (.bl true) c := by kernel_rfl
theorem r_10 (c : Cup) : rest (E3 (OD.getD 10 .non)) c = .rt (.bl true) c := by kernel_rfl
theorem r_11 (c : Cup) : rest (E3 (OD.getD 11 .non)) c = .rt (.bl true) c := by kernel_rfl
theorem r_12 (c : Cup) : rest (E3 (OD.getD 12 .non)) c = .rt (.bl true) c := by kernel_rfl
theorem r_13 (c : Cup) : rest (E3 (OD.getD 13 .non)) c = .rt (.bl true) c := by kernel_rfl
theorem r_14 (c : Cup) : rest (E3 (OD.getD 14 .non)) c = .rt (.bl true) c := by kernel_rfl
theorem r_15 (c : Cup) : rest (E3 (OD.getD 15 .non)) c = .rt (.bl true) c := by kernel_rfl
theorem r_16 (c : Cup) : rest (E3 (OD.getD 16 .non)) c = .rt (.bl true) c := by kernel_rfl
theorem r_17 (c : Cup) : rest (E3 (OD.getD 17 .non)) c = .rt (.bl true) c := by kernel_rfl
theorem limits_ok {c : Cup} (g : Gd c) : ∃ c2, F_43 [.box] c = .ok (.bl true) c2 ∧ Gd c2 := by
  obtain ⟨k, c2, e, h, g2⟩ := rollN (m := 18) (by decide) (by decide) g
  have hk : k < 18 := by omega
  refine ⟨c2, ?_, g2⟩
  have hr : rest (E3 (OD.getD k .non)) c2 = .rt (.bl true) c2 := by
    have q : k = 0 ∨ k = 1 ∨ k = 2 ∨ k = 3 ∨ k = 4 ∨ k = 5 ∨ k = 6 ∨ k = 7 ∨ k = 8 ∨ k = 9 ∨ k = 10 ∨ k = 11 ∨ k = 12 ∨ k = 13 ∨ k = 14 ∨ k = 15 ∨ k = 16 ∨ k = 17 := by omega
    rcases q with rfl | rfl | rfl | rfl | rfl | rfl | rfl | rfl | rfl | rfl | rfl | rfl | rfl | rfl | rfl | rfl | rfl | rfl
    · exact r_0 c2
    · exact r_1 c2
    · exact r_2 c2
    · exact r_3 c2
    · exact r_4 c2
    · exact r_5 c2
    · exact r_6 c2
    · exact r_7 c2
    · exact r_8 c2
    · exact r_9 c2
    · exact r_10 c2
    · exact r_11 c2
    · exact r_12 c2
    · exact r_13 c2
    · exact r_14 c2
    · exact r_15 c2
    · exact r_16 c2
    · exact r_17 c2
  have e0 : F_43 [.box] c = RX.fin (s_43 e_43 c) := run_ap
  rw [e0, n_43, dSeq_ap, l_0, sO_nx, dSeq_ap, l_1, sO_nx, dSeq_ap, l_2, sO_nx, dSeq_ap, l_3 hk e, sO_nx, hr]
  rfl
end K00
set_option maxHeartbeats 0
namespace K00
open PySem PySem.Spec PyProof.Rows L2 RX
/-! ### the law -/
def N_29 : List Str := ["script", "cell"]
def s_29 : Sd := bodyS ⟨N_29, defScope (top 29), [], [], [], con, exs, free, []⟩ [] 10000 ((defBody (top 29)).drop 1)
theorem n_29 : s_29 = cupS 179 433 6427 1874129701 281 := by kernel_rfl
def N_44 : List Str := ["script", "cup", "turn"]
def f_44 : List (Str × Fn × Nat) := [("_law_great_right", F_41, 1), ("_law_limits_right", F_43, 1), ("_law_words_right", F_40, 2), ("_law_roll", F_30, 2)]
def g_44 : Gam := ⟨N_44, defScope (top 44), [], f_44, [], con, exs, free, []⟩
def s_44 : Sd := bodyS g_44 [] 10000 ((defBody (top 44)).drop 1)
def bd_44 : Sd := dIfS (dNotT (dTru (dCall F_40 2 (dCons (dVar 1) (dCons (dBin oAdd (dC (.int 1)) (dCall F_30 2 (dCons (dVar 1) (dCons (dC (.int 12)) dNil)))) dNil))))) (dRet (dC (.bl false))) dNext
def b_44 : Sd := dSeq (dFor (dRng1 (dCons (dC (.int 6)) dNil)) (gS 2) bd_44) (dRet (dAndV (dCall F_41 1 (dCons (dVar 1) dNil)) (dCall F_43 1 (dCons (dVar 1) dNil))))
theorem n_44 : s_44 = b_44 := by kernel_rfl
theorem turn_44 {x : PV} {c : Cup} (g : Gd c) : ∃ c2, bd_44 [.no, .va .box, .va x] c = .nx [.no, .va .box, .va x] c2 ∧ Gd c2 := by
  obtain ⟨k, c1, e1, h1, g1⟩ := rollN (m := 12) (by decide) (by decide) g
  obtain ⟨c2, e2, g2⟩ := words_ok (p := k + 1) (by omega) (by omega) g1
  refine ⟨c2, ?_, g2⟩
  unfold bd_44
  simp (config := { implicitDefEqProofs := false }) only [run_ap, List.map_cons, List.map_nil, List.replicate, List.cons_append, List.nil_append, bO_ok, bO_exc, sO_nx, sO_rt, sO_ex, oR_some, toS_ok, toS_exc, fin_nx, fin_rt, fin_ex, dSeq_ap, dNext_ap, dIfS_ap, kIfS_t, kIfS_f, dAsg_ap, dRet_ap, dDrop_ap, dRaise_ap, dBin_ap, dChain_ap, kCh_t, kCh_f, dUn_ap, dVar_ap, dVarB_ap, slV_va, slB_va, dC_ap, dNrm_ap, dNil_ap, dCons_ap, consT_ap, dTup_ap, dLst_ap, dBi_ap, tupO_ap, dCall_ap, dIx_ap, fnE_0, fnE_1, fnE_2, fnE_3, fnE_4, fnE_5, kIx_tup, kIx_lst, dIf_ap, kIf_t, kIf_f, dNotT_ap, kNot_ap, dNotV_ap, kNotV_ap, dTru_ap, kTru_bl, dAndT_ap, kAnd_t, kAnd_f, dOrT_ap, kOr_t, kOr_f, dAndV_ap, kAndV_t, kAndV_f, dOrV_ap, kOrV_t, kOrV_f, dItems_ap, dZip_ap, dComp_ap, dFor_ap, dM1_ap, kM1_xt, dAsgT2_ap, kT2_ap, dRng1_ap, dPar2_ap, dPar3_ap, kP2_ap, kP3_ap, dCut_ap, dPart_ap, kPart_i, bLen_tup, bLen_lst, frzA_nil, frzA_cons, frzS_no, frzS_va, ixF_0, ixF_1, Bool.not_true, Bool.not_false, getS_0, getS_1, getS_2, getS_3, getS_4, getS_5, getS_6, getS_7, getS_8, getS_9, getS_10, getS_11, getS_12, getS_13, getS_14, getS_15, getS_16, getS_17, getS_18, getS_19, getS_20, getS_21, set_0, set_1, set_2, set_3, set_4, set_5, set_6, set_7, set_8, set_9, set_10, set_11, set_12, set_13, set_14, set_15, set_16, set_17, set_18, set_19, set_20, set_21, mkT_0, mkT_1, mkT_2, mkT_3, mkT_4, mkT_5, mkT_6, mkT_7, mkT_8, mkT_9, mkT_10, mkT_11, mkT_12, mkL_0, mkL_1, mkL_2, mkL_3, mkL_4, mkL_5, mkL_6, mkL_7, mkL_8, mkL_9, mkL_10, mkL_11, mkL_12, e1, add_1, e2]
theorem loop_44 : ∀ (xs : List PV) (s2 : Sl) (c : Cup), Gd c → ∃ t2 c2, loopS (gS 2) bd_44 xs [.no, .va .box, s2] c = .nx [.no, .va .box, t2] c2 ∧ Gd c2
  | [], s2, c, g => ⟨s2, c, rfl, g⟩
  | x :: r, s2, c, g => by
    obtain ⟨c1, e1, g1⟩ := turn_44 (x := x) g
    obtain ⟨t2, c2, e2, g2⟩ := loop_44 r (.va x) c1 g1
    refine ⟨t2, c2, ?_, g2⟩
    show (match bd_44 [.no, .va .box, .va x] c with
      | .nx e c => loopS (gS 2) bd_44 r e c
      | .ct e c => loopS (gS 2) bd_44 r e c
      | .bk e c => .nx e c
      | .rt v c => .rt v c
      | .ex k c => .ex k c
      | .st => .st) = _
    rw [e1]
    exact e2
theorem plain (n : Int) (h : 0 ≤ n) : ∃ (zs : List Int) (c c' : Cup), s_29 (.no :: .va (.int n) :: List.replicate 0 .no) [] = .rt (.lst (zs.map PV.int)) c ∧ s_44 (.no :: .va .box :: List.replicate 1 .no) (zs.map PV.int) = .rt (.bl true) c' := by
  obtain ⟨a, b, e⟩ := cup_go (D := 179) (A := 433) (B := 6427) (M := 1874129701) (Z := 281) rfl (by decide) rfl n
  obtain ⟨t2, c2, e2, g2⟩ := loop_44 (upto 0 6) .no [.int a, .int b] ⟨a, b, rfl⟩
  obtain ⟨c3, e3, g3⟩ := great_ok g2
  obtain ⟨c4, e4, g4⟩ := limits_ok g3
  refine ⟨[a, b], [], c4, by rw [n_29]; exact e, ?_⟩
  rw [n_44]
  show b_44 [.no, .va .box, .no] [.int a, .int b] = _
  have r6 : ∀ (env : En) (c : Cup), kRng1 (.tup [.int 6]) env c = .ok (.lst (upto 0 6)) c := fun _ _ => rfl
  unfold b_44
  simp (config := { implicitDefEqProofs := false }) only [run_ap, List.map_cons, List.map_nil, List.replicate, List.cons_append, List.nil_append, bO_ok, bO_exc, sO_nx, sO_rt, sO_ex, oR_some, toS_ok, toS_exc, fin_nx, fin_rt, fin_ex, dSeq_ap, dNext_ap, dIfS_ap, kIfS_t, kIfS_f, dAsg_ap, dRet_ap, dDrop_ap, dRaise_ap, dBin_ap, dChain_ap, kCh_t, kCh_f, dUn_ap, dVar_ap, dVarB_ap, slV_va, slB_va, dC_ap, dNrm_ap, dNil_ap, dCons_ap, consT_ap, dTup_ap, dLst_ap, dBi_ap, tupO_ap, dCall_ap, dIx_ap, fnE_0, fnE_1, fnE_2, fnE_3, fnE_4, fnE_5, kIx_tup, kIx_lst, dIf_ap, kIf_t, kIf_f, dNotT_ap, kNot_ap, dNotV_ap, kNotV_ap, dTru_ap, kTru_bl, dAndT_ap, kAnd_t, kAnd_f, dOrT_ap, kOr_t, kOr_f, dAndV_ap, kAndV_t, kAndV_f, dOrV_ap, kOrV_t, kOrV_f, dItems_ap, dZip_ap, dComp_ap, dFor_ap, dM1_ap, kM1_xt, dAsgT2_ap, kT2_ap, dRng1_ap, dPar2_ap, dPar3_ap, kP2_ap, kP3_ap, dCut_ap, dPart_ap, kPart_i, bLen_tup, bLen_lst, frzA_nil, frzA_cons, frzS_no, frzS_va, ixF_0, ixF_1, Bool.not_true, Bool.not_false, getS_0, getS_1, getS_2, getS_3, getS_4, getS_5, getS_6, getS_7, getS_8, getS_9, getS_10, getS_11, getS_12, getS_13, getS_14, getS_15, getS_16, getS_17, getS_18, getS_19, getS_20, getS_21, set_0, set_1, set_2, set_3, set_4, set_5, set_6, set_7, set_8, set_9, set_10, set_11, set_12, set_13, set_14, set_15, set_16, set_17, set_18, set_19, set_20, set_21, mkT_0, mkT_1, mkT_2, mkT_3, mkT_4, mkT_5, mkT_6, mkT_7, mkT_8, mkT_9, mkT_10, mkT_11, mkT_12, mkL_0, mkL_1, mkL_2, mkL_3, mkL_4, mkL_5, mkL_6, mkL_7, mkL_8, mkL_9, mkL_10, mkL_11, mkL_12, r6, e2]
  simp (config := { implicitDefEqProofs := false }) only [run_ap, List.map_cons, List.map_nil, List.replicate, List.cons_append, List.nil_append, bO_ok, bO_exc, sO_nx, sO_rt, sO_ex, oR_some, toS_ok, toS_exc, fin_nx, fin_rt, fin_ex, dSeq_ap, dNext_ap, dIfS_ap, kIfS_t, kIfS_f, dAsg_ap, dRet_ap, dDrop_ap, dRaise_ap, dBin_ap, dChain_ap, kCh_t, kCh_f, dUn_ap, dVar_ap, dVarB_ap, slV_va, slB_va, dC_ap, dNrm_ap, dNil_ap, dCons_ap, consT_ap, dTup_ap, dLst_ap, dBi_ap, tupO_ap, dCall_ap, dIx_ap, fnE_0, fnE_1, fnE_2, fnE_3, fnE_4, fnE_5, kIx_tup, kIx_lst, dIf_ap, kIf_t, kIf_f, dNotT_ap, kNot_ap, dNotV_ap, kNotV_ap, dTru_ap, kTru_bl, dAndT_ap, kAnd_t, kAnd_f, dOrT_ap, kOr_t, kOr_f, dAndV_ap, kAndV_t, kAndV_f, dOrV_ap, kOrV_t, kOrV_f, dItems_ap, dZip_ap, dComp_ap, dFor_ap, dM1_ap, kM1_xt, dAsgT2_ap, kT2_ap, dRng1_ap, dPar2_ap, dPar3_ap, kP2_ap, kP3_ap, dCut_ap, dPart_ap, kPart_i, bLen_tup, bLen_lst, frzA_nil, frzA_cons, frzS_no, frzS_va, ixF_0, ixF_1, Bool.not_true, Bool.not_false, getS_0, getS_1, getS_2, getS_3, getS_4, getS_5, getS_6, getS_7, getS_8, getS_9, getS_10, getS_11, getS_12, getS_13, getS_14, getS_15, getS_16, getS_17, getS_18, getS_19, getS_20, getS_21, set_0, set_1, set_2, set_3, set_4, set_5, set_6, set_7, set_8, set_9, set_10, set_11, set_12, set_13, set_14, set_15, set_16, set_17, set_18, set_19, set_20, set_21, mkT_0, mkT_1, mkT_2, mkT_3, mkT_4, mkT_5, mkT_6, mkT_7, mkT_8, mkT_9, mkT_10, mkT_11, mkT_12, mkL_0, mkL_1, mkL_2, mkL_3, mkL_4, mkL_5, mkL_6, mkL_7, mkL_8, mkL_9, mkL_10, mkL_11, mkL_12, e3, e4]
end K00
set_option maxHeartbeats 0
namespace K00
open PySem PySem.Spec PyProof.Rows L2 LamX RX
theorem lkp_one {α : Type} {y x : Str} {a b : α} (h : lkp [(y, a)] x = some b) : x = y ∧ b = a := by
  unfold lkp at h
  cases q : decide (y = x) with
  | true =>
    rw [q] at h
    cases h
    exact ⟨(of_decide_eq_true q).symm, rfl⟩
  | false =>
    rw [q] at h
    cases h
def er : Er := match ers with
  | [q] => q.2
  | _ => ("", [])
def N_err : List Str := ["call", "e", "pairs", ".0", "word", "is_so"]
def g_err : Gam := ⟨N_err, defScope (top 42), [], [], [], con, exs, free, []⟩
/-- the suite behind except -/
def suite : List Stmt := match defBody (top 42) with
  | [.Try _ [.ExceptHandler _ _ b _] _ _ _, _] => b
  | _ => []
theorem er_all : er.2.all (fun q => has exs q.1 && decide (sufRun g_err 1 (subF exs q.1) suite = some q.2)) = true := by kernel_rfl
theorem err_body : ∃ p1 p2 p3 p4 p5 p6 p7 p8 j b0 r, b0 :: r = suite ∧ defBody (top 42) = [.Try [.Expr (.Call (.Name "call" p1) [] [] p2) p3] [.ExceptHandler (some (.Name "TurnError" p4)) (some "e") (b0 :: r) p5] [] [] p6, .Return (some (.Constant (.str "none") j p7)) p8] := ⟨_, _, _, _, _, _, _, _, _, _, _, rfl, rfl⟩
section
variable {P : Program} {w : World} {K : PySem.W.Frag} {mg : Str → Option Value} {base h : Heap}
/-- what is known at the head -/
structure Kn (w : World) (K : PySem.W.Frag) (mg : Str → Option Value) (h : Heap) : Prop where
  X : K.In h
  G : h.Ns mainGlobals mg
  c : He.SaysX fa fn [] tf ex w h K
  B : Bas K mg con free exs
abbrev Dk (P : Program) (w : World) (K : PySem.W.Frag) (mg : Str → Option Value) (base : Heap) (lvl : Nat) (x : Str) (f : Fn) (n : Nat) : Prop := DefOk P w K mg base (tlOf K tf) lvl x f n
theorem cls_ok (k : Kn w K mg h) {x : Str} (hx : has exs x = true) : ClsOk K mg (He.ga K "TurnError") x (subF exs x) := clsB_ok k.X k.G (List.all_eq_true.mp (He.ba (He.ba (He.ba (He.ba (He.ba k.c.more).2).2).2).2).1 x (has_mem hx))
theorem te_ok (k : Kn w K mg h) : mg "TurnError" = some (.ref (He.ga K "TurnError")) := He.glo_ok k.X k.G (He.ba (He.ba (He.ba (He.ba k.c.more).2).2).2).1
theorem tf_nd (k : Kn w K mg h) : (tf.map fun p => (He.cT K p).2).Nodup := of_decide_eq_true (He.ba (He.ba (He.ba (He.ba (He.ba k.c.more).2).2).2).2).2
theorem err_ok (k : Kn w K mg h) {g : Addr} {cdg : Value} {X : Cx} {q : Str} (hK : X.K = K) (hm : X.mg = mg) : GivesN X N_err "_law_error" (defScope (top 42)) g cdg (defBody (top 42)) "call" q (TTer mg (tlOf K tf) er) := by
  obtain ⟨p1, p2, p3, p4, p5, p6, p7, p8, j, b0, r, hs, e⟩ := err_body
  rw [e]
  subst hK hm
  refine err_gives (i := 1) g_err rfl (by decide +kernel) rfl (by kernel_rfl) (by kernel_rfl) (by kernel_rfl) (fun f => by kernel_rfl) (by kernel_rfl) (te_ok k) (by decide) (k.B.free _ (by decide)) (by kernel_rfl) fun c w hw => ?_
  obtain ⟨h1, h2⟩ := He.ba (List.all_eq_true.mp er_all _ (lkp_mem hw))
  exact ⟨_, cls_ok k h1, by rw [hs]; exact of_decide_eq_true h2⟩
theorem lam_ok (k : Kn w K mg h) {d : He.DefD} {lv kk : Nat} {X : Cx} {E : XK} {N : List Str} {scope : Scope} {qual : Str} {fd : FuncData} (p : He.Defn) (hp : p ∈ tf) (bc : BCx P w K mg base N scope qual fd.code kk X E) (FD : FunD K d.name d.qual d.params d.body d.scope (d.dvs K) (d.kws K) (He.fAd K d.at_) fd) (hat : d.at_ = p) (hq : qual = p.1)
    (TB : TabB base mg (He.cT K p).1 (He.cT K p).2) (hk : lv + 2 ≤ kk) {fns : List (Str × Fn × Nat)} (hf : AllD P w K mg base (tlOf K tf) lv fns) {x : Str} {h' : Er} (e : lkp ers x = some h') : LamOk X fns x h' (tlOf K tf) := by
  obtain ⟨rfl, rfl⟩ := lkp_one (y := "_law_error") (a := er) e
  subst hq
  obtain ⟨fde, FDe⟩ := k.c.t.d.def_ 30 (d := D__law_error) (by kernel_rfl)
  have hc := code_of FD
  rw [hat] at hc
  exact lamOk_of bc FDe (He.glo_ok k.X k.G (k.c.t.d.fact 30 (f := .glo "_law_error") (by kernel_rfl))) (Ng := N_err) (a := "call") ⟨by kernel_rfl, by kernel_rfl, by kernel_rfl, by decide +kernel, rfl, by decide +kernel, by decide +kernel⟩ rfl (.inl (by kernel_rfl)) (FDe.bindsN fun _ _ _ _ _ _ us hl => match us, hl with | [_], _ => rfl) (fun X q hK hm => err_ok k hK hm) TB hc (tl_mem hp) (tl_uni (tf_nd k) hp) hk (by decide) (by decide) hf
theorem ok_is_whole (k : Kn w K mg h) : Dk P w K mg base 1 "is_whole" F_6 3 := by
  obtain ⟨fd, FD⟩ := k.c.t.d.def_ 0 (d := D_is_whole) (by kernel_rfl)
  exact def_ok k.B FD (N := N_6) (ps := ["value", "low", "high"]) ⟨by kernel_rfl, by kernel_rfl, by kernel_rfl, by decide +kernel, rfl, by decide +kernel, by decide +kernel⟩ (He.glo_ok k.X k.G (k.c.t.d.fact 0 (f := .glo "is_whole") (by kernel_rfl))) (by decide) (FD.bindsN fun _ _ _ _ _ _ us hl => match us, hl with | [_, _, _], _ => rfl) (fns := f_6) trivial rfl rfl rfl
theorem ok_is_tuple_of (k : Kn w K mg h) : Dk P w K mg base 1 "is_tuple_of" F_7 3 := by
  obtain ⟨fd, FD⟩ := k.c.t.d.def_ 1 (d := D_is_tuple_of) (by kernel_rfl)
  exact def_ok k.B FD (N := N_7) (ps := ["value", "low", "high"]) ⟨by kernel_rfl, by kernel_rfl, by kernel_rfl, by decide +kernel, rfl, by decide +kernel, by decide +kernel⟩ (He.glo_ok k.X k.G (k.c.t.d.fact 1 (f := .glo "is_tuple_of") (by kernel_rfl))) (by decide) (FD.bindsN fun _ _ _ _ _ _ us hl => match us, hl with | [_, _, _], _ => rfl) (fns := f_7) trivial rfl rfl rfl
theorem ok_times (k : Kn w K mg h) : Dk P w K mg base 1 "times" F_17 2 := by
  obtain ⟨fd, FD⟩ := k.c.t.d.def_ 6 (d := D_times) (by kernel_rfl)
  exact def_ok k.B FD (N := N_17) (ps := ["one", "other"]) ⟨by kernel_rfl, by kernel_rfl, by kernel_rfl, by decide +kernel, rfl, by decide +kernel, by decide +kernel⟩ (He.glo_ok k.X k.G (k.c.t.d.fact 6 (f := .glo "times") (by kernel_rfl))) (by decide) (FD.bindsN fun _ _ _ _ _ _ us hl => match us, hl with | [_, _], _ => rfl) (fns := f_17) trivial rfl rfl rfl
theorem ok_are_opposite (k : Kn w K mg h) : Dk P w K mg base 1 "are_opposite" F_18 2 := by
  obtain ⟨fd, FD⟩ := k.c.t.d.def_ 7 (d := D_are_opposite) (by kernel_rfl)
  exact def_ok k.B FD (N := N_18) (ps := ["one", "other"]) ⟨by kernel_rfl, by kernel_rfl, by kernel_rfl, by decide +kernel, rfl, by decide +kernel, by decide +kernel⟩ (He.glo_ok k.X k.G (k.c.t.d.fact 7 (f := .glo "are_opposite") (by kernel_rfl))) (by decide) (FD.bindsN fun _ _ _ _ _ _ us hl => match us, hl with | [_, _], _ => rfl) (fns := f_18) trivial rfl rfl rfl
theorem ok__law_roll (k : Kn w K mg h) : Dk P w K mg base 1 "_law_roll" F_30 2 := by
  obtain ⟨fd, FD⟩ := k.c.t.d.def_ 18 (d := D__law_roll) (by kernel_rfl)
  exact def_ok k.B FD (N := N_30) (ps := ["cup", "many"]) ⟨by kernel_rfl, by kernel_rfl, by kernel_rfl, by decide +kernel, rfl, by decide +kernel, by decide +kernel⟩ (He.glo_ok k.X k.G (k.c.t.d.fact 18 (f := .glo "_law_roll") (by kernel_rfl))) (by decide) (FD.bindsN fun _ _ _ _ _ _ us hl => match us, hl with | [_, _], _ => rfl) (fns := f_30) trivial rfl rfl rfl
theorem ok__law_sort (k : Kn w K mg h) : Dk P w K mg base 1 "_law_sort" F_32 1 := by
  obtain ⟨fd, FD⟩ := k.c.t.d.def_ 20 (d := D__law_sort) (by kernel_rfl)
  exact def_ok k.B FD (N := N_32) (ps := ["value"]) ⟨by kernel_rfl, by kernel_rfl, by kernel_rfl, by decide +kernel, rfl, by decide +kernel, by decide +kernel⟩ (He.glo_ok k.X k.G (k.c.t.d.fact 20 (f := .glo "_law_sort") (by kernel_rfl))) (by decide) (FD.bindsN fun _ _ _ _ _ _ us hl => match us, hl with | [_], _ => rfl) (fns := f_32) trivial rfl rfl rfl
theorem ok__law_tables (k : Kn w K mg h) : Dk P w K mg base 1 "_law_tables" F_35 0 := by
  obtain ⟨fd, FD⟩ := k.c.t.d.def_ 23 (d := D__law_tables) (by kernel_rfl)
  exact def_ok k.B FD (N := N_35) (ps := []) ⟨by kernel_rfl, by kernel_rfl, by kernel_rfl, by decide +kernel, rfl, by decide +kernel, by decide +kernel⟩ (He.glo_ok k.X k.G (k.c.t.d.fact 23 (f := .glo "_law_tables") (by kernel_rfl))) (by decide) (FD.bindsN fun _ _ _ _ _ _ us hl => match us, hl with | [], _ => rfl) (fns := f_35) trivial rfl rfl rfl
theorem ok__law_times (k : Kn w K mg h) : Dk P w K mg base 1 "_law_times" F_36 2 := by
  obtain ⟨fd, FD⟩ := k.c.t.d.def_ 24 (d := D__law_times) (by kernel_rfl)
  exact def_ok k.B FD (N := N_36) (ps := ["one", "other"]) ⟨by kernel_rfl, by kernel_rfl, by kernel_rfl, by decide +kernel, rfl, by decide +kernel, by decide +kernel⟩ (He.glo_ok k.X k.G (k.c.t.d.fact 24 (f := .glo "_law_times") (by kernel_rfl))) (by decide) (FD.bindsN fun _ _ _ _ _ _ us hl => match us, hl with | [_, _], _ => rfl) (fns := f_36) trivial rfl rfl rfl
theorem ok_is_word_of (k : Kn w K mg h) : Dk P w K mg base 2 "is_word_of" F_13 2 := by
  obtain ⟨fd, FD⟩ := k.c.t.d.def_ 2 (d := D_is_word_of) (by kernel_rfl)
  exact def_ok k.B FD (N := N_13) (ps := ["value", "places"]) ⟨by kernel_rfl, by kernel_rfl, by kernel_rfl, by decide +kernel, rfl, by decide +kernel, by decide +kernel⟩ (He.glo_ok k.X k.G (k.c.t.d.fact 2 (f := .glo "is_word_of") (by kernel_rfl))) (by decide) (FD.bindsN fun _ _ _ _ _ _ us hl => match us, hl with | [_, _], _ => rfl) (fns := f_13) ⟨(ok_is_tuple_of k).mono (by decide), ⟨(ok_is_whole k).mono (by decide), trivial⟩⟩ rfl rfl rfl
theorem ok_from_bits (k : Kn w K mg h) : Dk P w K mg base 2 "from_bits" F_26 2 := by
  obtain ⟨fd, FD⟩ := k.c.t.d.def_ 15 (d := D_from_bits) (by kernel_rfl)
  exact def_ok k.B FD (N := N_26) (ps := ["flips", "signs"]) ⟨by kernel_rfl, by kernel_rfl, by kernel_rfl, by decide +kernel, rfl, by decide +kernel, by decide +kernel⟩ (He.glo_ok k.X k.G (k.c.t.d.fact 15 (f := .glo "from_bits") (by kernel_rfl))) (by decide) (FD.bindsN fun _ _ _ _ _ _ us hl => match us, hl with | [_, _], _ => rfl) (fns := f_26) ⟨(ok_is_tuple_of k).mono (by decide), ⟨(ok_is_whole k).mono (by decide), trivial⟩⟩ rfl rfl rfl
theorem ok__law_some (k : Kn w K mg h) : Dk P w K mg base 2 "_law_some" F_31 2 := by
  obtain ⟨fd, FD⟩ := k.c.t.d.def_ 19 (d := D__law_some) (by kernel_rfl)
  exact def_ok k.B FD (N := N_31) (ps := ["cup", "things"]) ⟨by kernel_rfl, by kernel_rfl, by kernel_rfl, by decide +kernel, rfl, by decide +kernel, by decide +kernel⟩ (He.glo_ok k.X k.G (k.c.t.d.fact 19 (f := .glo "_law_some") (by kernel_rfl))) (by decide) (FD.bindsN fun _ _ _ _ _ _ us hl => match us, hl with | [_, _], _ => rfl) (fns := f_31) ⟨(ok__law_roll k).mono (by decide), trivial⟩ rfl rfl rfl
theorem ok__law_word (k : Kn w K mg h) : Dk P w K mg base 2 "_law_word" F_34 2 := by
  obtain ⟨fd, FD⟩ := k.c.t.d.def_ 22 (d := D__law_word) (by kernel_rfl)
  exact def_ok k.B FD (N := N_34) (ps := ["cup", "places"]) ⟨by kernel_rfl, by kernel_rfl, by kernel_rfl, by decide +kernel, rfl, by decide +kernel, by decide +kernel⟩ (He.glo_ok k.X k.G (k.c.t.d.fact 22 (f := .glo "_law_word") (by kernel_rfl))) (by decide) (FD.bindsN fun _ _ _ _ _ _ us hl => match us, hl with | [_, _], _ => rfl) (fns := f_34) ⟨(ok__law_roll k).mono (by decide), trivial⟩ rfl rfl rfl
theorem ok__law_table_times (k : Kn w K mg h) : Dk P w K mg base 2 "_law_table_times" F_37 2 := by
  obtain ⟨fd, FD⟩ := k.c.t.d.def_ 25 (d := D__law_table_times) (by kernel_rfl)
  exact def_ok k.B FD (N := N_37) (ps := ["one", "other"]) ⟨by kernel_rfl, by kernel_rfl, by kernel_rfl, by decide +kernel, rfl, by decide +kernel, by decide +kernel⟩ (He.glo_ok k.X k.G (k.c.t.d.fact 25 (f := .glo "_law_table_times") (by kernel_rfl))) (by decide) (FD.bindsN fun _ _ _ _ _ _ us hl => match us, hl with | [_, _], _ => rfl) (fns := f_37) ⟨(ok__law_times k).mono (by decide), trivial⟩ rfl rfl rfl
theorem ok__law_letter (k : Kn w K mg h) : Dk P w K mg base 2 "_law_letter" F_38 1 := by
  obtain ⟨fd, FD⟩ := k.c.t.d.def_ 26 (d := D__law_letter) (by kernel_rfl)
  exact def_ok k.B FD (N := N_38) (ps := ["table"]) ⟨by kernel_rfl, by kernel_rfl, by kernel_rfl, by decide +kernel, rfl, by decide +kernel, by decide +kernel⟩ (He.glo_ok k.X k.G (k.c.t.d.fact 26 (f := .glo "_law_letter") (by kernel_rfl))) (by decide) (FD.bindsN fun _ _ _ _ _ _ us hl => match us, hl with | [_], _ => rfl) (fns := f_38) ⟨(ok__law_tables k).mono (by decide), ⟨(ok__law_times k).mono (by decide), trivial⟩⟩ rfl rfl rfl
theorem ok_is_word (k : Kn w K mg h) : Dk P w K mg base 3 "is_word" F_14 1 := by
  obtain ⟨fd, FD⟩ := k.c.t.d.def_ 3 (d := D_is_word) (by kernel_rfl)
  exact def_ok k.B FD (N := N_14) (ps := ["value"]) ⟨by kernel_rfl, by kernel_rfl, by kernel_rfl, by decide +kernel, rfl, by decide +kernel, by decide +kernel⟩ (He.glo_ok k.X k.G (k.c.t.d.fact 3 (f := .glo "is_word") (by kernel_rfl))) (by decide) (FD.bindsN fun _ _ _ _ _ _ us hl => match us, hl with | [_], _ => rfl) (fns := f_14) ⟨(ok_is_word_of k).mono (by decide), ⟨(ok_is_tuple_of k).mono (by decide), trivial⟩⟩ rfl rfl rfl
theorem ok_need_mate (k : Kn w K mg h) : Dk P w K mg base 3 "need_mate" F_16 2 := by
  obtain ⟨fd, FD⟩ := k.c.t.d.def_ 5 (d := D_need_mate) (by kernel_rfl)
  exact def_ok k.B FD (N := N_16) (ps := ["one", "other"]) ⟨by kernel_rfl, by kernel_rfl, by kernel_rfl, by decide +kernel, rfl, by decide +kernel, by decide +kernel⟩ (He.glo_ok k.X k.G (k.c.t.d.fact 5 (f := .glo "need_mate") (by kernel_rfl))) (by decide) (FD.bindsN fun _ _ _ _ _ _ us hl => match us, hl with | [_, _], _ => rfl) (fns := f_16) ⟨(ok_is_word_of k).mono (by decide), trivial⟩ rfl rfl rfl
theorem ok__law_product (k : Kn w K mg h) : Dk P w K mg base 3 "_law_product" F_39 2 := by
  obtain ⟨fd, FD⟩ := k.c.t.d.def_ 27 (d := D__law_product) (by kernel_rfl)
  exact def_ok k.B FD (N := N_39) (ps := ["one", "other"]) ⟨by kernel_rfl, by kernel_rfl, by kernel_rfl, by decide +kernel, rfl, by decide +kernel, by decide +kernel⟩ (He.glo_ok k.X k.G (k.c.t.d.fact 27 (f := .glo "_law_product") (by kernel_rfl))) (by decide) (FD.bindsN fun _ _ _ _ _ _ us hl => match us, hl with | [_, _], _ => rfl) (fns := f_39) ⟨(ok__law_tables k).mono (by decide), ⟨(ok__law_letter k).mono (by decide), ⟨(ok__law_table_times k).mono (by decide), trivial⟩⟩⟩ rfl rfl rfl
theorem ok_need_word (k : Kn w K mg h) : Dk P w K mg base 4 "need_word" F_15 1 := by
  obtain ⟨fd, FD⟩ := k.c.t.d.def_ 4 (d := D_need_word) (by kernel_rfl)
  exact def_ok k.B FD (N := N_15) (ps := ["value"]) ⟨by kernel_rfl, by kernel_rfl, by kernel_rfl, by decide +kernel, rfl, by decide +kernel, by decide +kernel⟩ (He.glo_ok k.X k.G (k.c.t.d.fact 4 (f := .glo "need_word") (by kernel_rfl))) (by decide) (FD.bindsN fun _ _ _ _ _ _ us hl => match us, hl with | [_], _ => rfl) (fns := f_15) ⟨(ok_is_word k).mono (by decide), trivial⟩ rfl rfl rfl
theorem ok_product_of (k : Kn w K mg h) : Dk P w K mg base 4 "product_of" F_21 1 := by
  obtain ⟨fd, FD⟩ := k.c.t.d.def_ 10 (d := D_product_of) (by kernel_rfl)
  exact def_ok k.B FD (N := N_21) (ps := ["words"]) ⟨by kernel_rfl, by kernel_rfl, by kernel_rfl, by decide +kernel, rfl, by decide +kernel, by decide +kernel⟩ (He.glo_ok k.X k.G (k.c.t.d.fact 10 (f := .glo "product_of") (by kernel_rfl))) (by decide) (FD.bindsN fun _ _ _ _ _ _ us hl => match us, hl with | [_], _ => rfl) (fns := f_21) ⟨(ok_times k).mono (by decide), ⟨(ok_is_tuple_of k).mono (by decide), ⟨(ok_is_word k).mono (by decide), trivial⟩⟩⟩ rfl rfl rfl
theorem ok_product (k : Kn w K mg h) : Dk P w K mg base 5 "product" F_19 2 := by
  obtain ⟨fd, FD⟩ := k.c.t.d.def_ 8 (d := D_product) (by kernel_rfl)
  exact def_ok k.B FD (N := N_19) (ps := ["one", "other"]) ⟨by kernel_rfl, by kernel_rfl, by kernel_rfl, by decide +kernel, rfl, by decide +kernel, by decide +kernel⟩ (He.glo_ok k.X k.G (k.c.t.d.fact 8 (f := .glo "product") (by kernel_rfl))) (by decide) (FD.bindsN fun _ _ _ _ _ _ us hl => match us, hl with | [_, _], _ => rfl) (fns := f_19) ⟨(ok_need_word k).mono (by decide), ⟨(ok_need_mate k).mono (by decide), ⟨(ok_times k).mono (by decide), trivial⟩⟩⟩ rfl rfl rfl
theorem ok_agree (k : Kn w K mg h) : Dk P w K mg base 5 "agree" F_20 2 := by
  obtain ⟨fd, FD⟩ := k.c.t.d.def_ 9 (d := D_agree) (by kernel_rfl)
  exact def_ok k.B FD (N := N_20) (ps := ["one", "other"]) ⟨by kernel_rfl, by kernel_rfl, by kernel_rfl, by decide +kernel, rfl, by decide +kernel, by decide +kernel⟩ (He.glo_ok k.X k.G (k.c.t.d.fact 9 (f := .glo "agree") (by kernel_rfl))) (by decide) (FD.bindsN fun _ _ _ _ _ _ us hl => match us, hl with | [_, _], _ => rfl) (fns := f_20) ⟨(ok_need_word k).mono (by decide), ⟨(ok_need_mate k).mono (by decide), ⟨(ok_are_opposite k).mono (by decide), trivial⟩⟩⟩ rfl rfl rfl
theorem ok_undone (k : Kn w K mg h) : Dk P w K mg base 5 "undone" F_22 1 := by
  obtain ⟨fd, FD⟩ := k.c.t.d.def_ 11 (d := D_undone) (by kernel_rfl)
  exact def_ok k.B FD (N := N_22) (ps := ["word"]) ⟨by kernel_rfl, by kernel_rfl, by kernel_rfl, by decide +kernel, rfl, by decide +kernel, by decide +kernel⟩ (He.glo_ok k.X k.G (k.c.t.d.fact 11 (f := .glo "undone") (by kernel_rfl))) (by decide) (FD.bindsN fun _ _ _ _ _ _ us hl => match us, hl with | [_], _ => rfl) (fns := f_22) ⟨(ok_need_word k).mono (by decide), trivial⟩ rfl rfl rfl
theorem ok_is_straight (k : Kn w K mg h) : Dk P w K mg base 5 "is_straight" F_23 1 := by
  obtain ⟨fd, FD⟩ := k.c.t.d.def_ 12 (d := D_is_straight) (by kernel_rfl)
  exact def_ok k.B FD (N := N_23) (ps := ["word"]) ⟨by kernel_rfl, by kernel_rfl, by kernel_rfl, by decide +kernel, rfl, by decide +kernel, by decide +kernel⟩ (He.glo_ok k.X k.G (k.c.t.d.fact 12 (f := .glo "is_straight") (by kernel_rfl))) (by decide) (FD.bindsN fun _ _ _ _ _ _ us hl => match us, hl with | [_], _ => rfl) (fns := f_23) ⟨(ok_need_word k).mono (by decide), trivial⟩ rfl rfl rfl
theorem ok_weight_of (k : Kn w K mg h) : Dk P w K mg base 5 "weight_of" F_24 1 := by
  obtain ⟨fd, FD⟩ := k.c.t.d.def_ 13 (d := D_weight_of) (by kernel_rfl)
  exact def_ok k.B FD (N := N_24) (ps := ["word"]) ⟨by kernel_rfl, by kernel_rfl, by kernel_rfl, by decide +kernel, rfl, by decide +kernel, by decide +kernel⟩ (He.glo_ok k.X k.G (k.c.t.d.fact 13 (f := .glo "weight_of") (by kernel_rfl))) (by decide) (FD.bindsN fun _ _ _ _ _ _ us hl => match us, hl with | [_], _ => rfl) (fns := f_24) ⟨(ok_need_word k).mono (by decide), trivial⟩ rfl rfl rfl
theorem ok_bits_of (k : Kn w K mg h) : Dk P w K mg base 5 "bits_of" F_25 1 := by
  obtain ⟨fd, FD⟩ := k.c.t.d.def_ 14 (d := D_bits_of) (by kernel_rfl)
  exact def_ok k.B FD (N := N_25) (ps := ["word"]) ⟨by kernel_rfl, by kernel_rfl, by kernel_rfl, by decide +kernel, rfl, by decide +kernel, by decide +kernel⟩ (He.glo_ok k.X k.G (k.c.t.d.fact 14 (f := .glo "bits_of") (by kernel_rfl))) (by decide) (FD.bindsN fun _ _ _ _ _ _ us hl => match us, hl with | [_], _ => rfl) (fns := f_25) ⟨(ok_need_word k).mono (by decide), trivial⟩ rfl rfl rfl
theorem ok_beside (k : Kn w K mg h) : Dk P w K mg base 5 "beside" F_27 2 := by
  obtain ⟨fd, FD⟩ := k.c.t.d.def_ 16 (d := D_beside) (by kernel_rfl)
  exact def_ok k.B FD (N := N_27) (ps := ["one", "other"]) ⟨by kernel_rfl, by kernel_rfl, by kernel_rfl, by decide +kernel, rfl, by decide +kernel, by decide +kernel⟩ (He.glo_ok k.X k.G (k.c.t.d.fact 16 (f := .glo "beside") (by kernel_rfl))) (by decide) (FD.bindsN fun _ _ _ _ _ _ us hl => match us, hl with | [_, _], _ => rfl) (fns := f_27) ⟨(ok_need_word k).mono (by decide), trivial⟩ rfl rfl rfl
theorem rec__law_like (k : Kn w K mg h) : ∀ n, Dk P w K mg base (2 + n) "_law_like" (R_33 n) 2
  | 0 => by
    obtain ⟨fd, FD⟩ := k.c.t.d.def_ 21 (d := D__law_like) (by kernel_rfl)
    exact stk_ok FD (ps := ["one", "other"]) (He.glo_ok k.X k.G (k.c.t.d.fact 21 (f := .glo "_law_like") (by kernel_rfl))) (by decide) (FD.bindsN fun _ _ _ _ _ _ us hl => match us, hl with | [_, _], _ => rfl) rfl
  | n + 1 => by
    obtain ⟨fd, FD⟩ := k.c.t.d.def_ 21 (d := D__law_like) (by kernel_rfl)
    exact def_ok k.B FD (N := N_33) (ps := ["one", "other"]) ⟨by kernel_rfl, by kernel_rfl, by kernel_rfl, by decide +kernel, rfl, by decide +kernel, by decide +kernel⟩ (He.glo_ok k.X k.G (k.c.t.d.fact 21 (f := .glo "_law_like") (by kernel_rfl))) (by decide) (FD.bindsN fun _ _ _ _ _ _ us hl => match us, hl with | [_, _], _ => rfl) (fns := f_33 (R_33 n)) (k := 2 + n) ⟨(ok__law_sort k).mono (by omega), ⟨rec__law_like k n, trivial⟩⟩ rfl rfl rfl
theorem ok__law_like (k : Kn w K mg h) : Dk P w K mg base 11 "_law_like" F_33 2 := rec__law_like k 9
theorem ok__law_words_right (k : Kn w K mg h) : Dk P w K mg base 12 "_law_words_right" F_40 2 := by
  obtain ⟨fd, FD⟩ := k.c.t.d.def_ 28 (d := D__law_words_right) (by kernel_rfl)
  exact def_ok k.B FD (N := N_40) (ps := ["cup", "places"]) ⟨by kernel_rfl, by kernel_rfl, by kernel_rfl, by decide +kernel, rfl, by decide +kernel, by decide +kernel⟩ (He.glo_ok k.X k.G (k.c.t.d.fact 28 (f := .glo "_law_words_right") (by kernel_rfl))) (by decide) (FD.bindsN fun _ _ _ _ _ _ us hl => match us, hl with | [_, _], _ => rfl) (fns := f_40) ⟨(ok__law_product k).mono (by decide), ⟨(ok_bits_of k).mono (by decide), ⟨(ok_beside k).mono (by decide), ⟨(ok__law_like k).mono (by decide), ⟨(ok__law_word k).mono (by decide), ⟨(ok_is_word k).mono (by decide), ⟨(ok_product k).mono (by decide), ⟨(ok_agree k).mono (by decide), ⟨(ok_product_of k).mono (by decide), ⟨(ok_is_straight k).mono (by decide), ⟨(ok_weight_of k).mono (by decide), ⟨(ok_undone k).mono (by decide), ⟨(ok_from_bits k).mono (by decide), trivial⟩⟩⟩⟩⟩⟩⟩⟩⟩⟩⟩⟩⟩ rfl rfl rfl
theorem ok__law_great_right (k : Kn w K mg h) : Dk P w K mg base 12 "_law_great_right" F_41 1 := by
  obtain ⟨fd, FD⟩ := k.c.t.d.def_ 29 (d := D__law_great_right) (by kernel_rfl)
  exact def_ok k.B FD (N := N_41) (ps := ["cup"]) ⟨by kernel_rfl, by kernel_rfl, by kernel_rfl, by decide +kernel, rfl, by decide +kernel, by decide +kernel⟩ (He.glo_ok k.X k.G (k.c.t.d.fact 29 (f := .glo "_law_great_right") (by kernel_rfl))) (by decide) (FD.bindsN fun _ _ _ _ _ _ us hl => match us, hl with | [_], _ => rfl) (fns := f_41) ⟨(ok__law_like k).mono (by decide), ⟨(ok_product_of k).mono (by decide), ⟨(ok_agree k).mono (by decide), ⟨(ok__law_roll k).mono (by decide), ⟨(ok_product k).mono (by decide), trivial⟩⟩⟩⟩⟩ rfl rfl rfl
theorem ok__law_limits_right (k : Kn w K mg h) (T : ∀ p ∈ tf, TabB base mg (He.cT K p).1 (He.cT K p).2) : Dk P w K mg base 15 "_law_limits_right" F_43 1 := by
  obtain ⟨fd, FD⟩ := k.c.t.d.def_ 31 (d := D__law_limits_right) (by kernel_rfl)
  have hf : AllD P w K mg base (tlOf K tf) 12 f_43 := ⟨(ok_undone k).mono (by decide), ⟨(ok_is_straight k).mono (by decide), ⟨(ok_weight_of k).mono (by decide), ⟨(ok_bits_of k).mono (by decide), ⟨(ok_product k).mono (by decide), ⟨(ok_agree k).mono (by decide), ⟨(ok_beside k).mono (by decide), ⟨(ok__law_like k).mono (by decide), ⟨(ok__law_some k).mono (by decide), ⟨(ok_product_of k).mono (by decide), ⟨(ok_is_word k).mono (by decide), ⟨(ok_from_bits k).mono (by decide), trivial⟩⟩⟩⟩⟩⟩⟩⟩⟩⟩⟩⟩
  have hf2 : AllD P w K mg base (tlOf K tf) 14 f_43 := ⟨(ok_undone k).mono (by decide), ⟨(ok_is_straight k).mono (by decide), ⟨(ok_weight_of k).mono (by decide), ⟨(ok_bits_of k).mono (by decide), ⟨(ok_product k).mono (by decide), ⟨(ok_agree k).mono (by decide), ⟨(ok_beside k).mono (by decide), ⟨(ok__law_like k).mono (by decide), ⟨(ok__law_some k).mono (by decide), ⟨(ok_product_of k).mono (by decide), ⟨(ok_is_word k).mono (by decide), ⟨(ok_from_bits k).mono (by decide), trivial⟩⟩⟩⟩⟩⟩⟩⟩⟩⟩⟩⟩
  exact defL_ok k.B FD (N := N_43) (ps := ["cup"]) ⟨by kernel_rfl, by kernel_rfl, by kernel_rfl, by decide +kernel, rfl, by decide +kernel, by decide +kernel⟩ (He.glo_ok k.X k.G (k.c.t.d.fact 31 (f := .glo "_law_limits_right") (by kernel_rfl))) (by decide) (FD.bindsN fun _ _ _ _ _ _ us hl => match us, hl with | [_], _ => rfl) (fns := f_43) (ers := ers) (k := 14) hf2 (fun X E bc x h e => lam_ok k (d := D__law_limits_right) ("_law_limits_right", none) (by decide) bc FD rfl rfl (T _ (by decide)) (by decide) hf e) rfl rfl rfl
theorem law_fn (k : Kn w K mg h) {fd : FuncData} (T : ∀ p ∈ tf, TabB base mg (He.cT K p).1 (He.cT K p).2) (FD : FunD K "law" "law" (defArgs (top 44)) (defBody (top 44)) (defScope (top 44)) [] [] (He.ga K "law") fd) : FnOk P w K mg base (L2N.CX P w) 16 (He.ga K "law") fd ["script"] (spLaw ⟨K, mg⟩ (tlOf K tf) s_29 0 s_44 1) := by
  obtain ⟨fdc, FDc⟩ := k.c.t.d.def_ 17 (d := D__law_cup) (by kernel_rfl)
  have hc : FnOk P w K mg base (L2N.CX P w) 15 (He.ga K "_law_cup") fdc ["script"] (spCup ⟨K, mg⟩ (tlOf K tf) s_29 0) :=
    cup_ok (N := []) (tl := tlOf K tf) FDc ⟨by kernel_rfl, by kernel_rfl, by kernel_rfl, by decide +kernel, rfl, by decide +kernel, by decide +kernel⟩ (.inl (by kernel_rfl)) (by decide) (by decide) (by kernel_rfl) (by kernel_rfl) (k.B.free _ (by decide)) (by kernel_rfl) (k.B.free _ (by decide)) fun X E F hT bc => body_ok (okS_of bc hT k.B (by decide +kernel) (by kernel_rfl) (fns := []) trivial (fun x h e => by cases e))
  have hf : AllD P w K mg base (tlOf K tf) 15 f_44 := ⟨(ok__law_great_right k).mono (by decide), ⟨(ok__law_limits_right k T).mono (by decide), ⟨(ok__law_words_right k).mono (by decide), ⟨(ok__law_roll k).mono (by decide), trivial⟩⟩⟩⟩
  exact law_ok (N := ["turn"]) (tl := tlOf K tf) FD ⟨by kernel_rfl, by kernel_rfl, by kernel_rfl, by decide +kernel, rfl, by decide +kernel, by decide +kernel⟩ (.inl (by kernel_rfl)) (by decide) (by decide) (by kernel_rfl) (by kernel_rfl) (by decide) hc (He.glo_ok k.X k.G (k.c.t.d.fact 17 (f := .glo "_law_cup") (by kernel_rfl))) FDc.kp (FDc.bindsN fun _ _ _ _ _ _ us hl => match us, hl with | [_], _ => rfl)
    fun X E F hT bc => body_ok (okS_of bc hT k.B (by decide +kernel) (by kernel_rfl) hf (fun x h e => by cases e))
end
theorem law_end {w : World} {K : PySem.W.Frag} {mg : Str → Option Value} {h : Heap} (k : Kn w K mg h) : LawAtS PySem.Challenge.rw_halfturns_k00_whole_signed_words w K (L2N.CX (PySem.Challenge.rw_halfturns_k00_whole_signed_words).prog w) 16 63 "script" mg (He.ga K "law") h := by
  obtain ⟨fd, FD⟩ := k.c.t.d.def_ 32 (d := D_law) (by kernel_rfl)
  have b := FunD.bindsA (ps := ["script"]) FD fun _ _ _ _ _ _ us hl => match us, hl with | [_], _ => rfl
  exact law_at k.X k.c (fun s u => b s [u] rfl) plain fun base hK hN T => law_fn k T FD
end K00
set_option maxHeartbeats 0
namespace K00
open PySem PySem.Spec PySem.Calls PySem.W PyProof.Rows L2 RX
theorem run1 (w : World) (os : OsState) : (fin w os).map (fun s => HandSHeadRun.looksF R.prog (boot_heap w.params) s.abs) = some true := by
  kernel_rfl
end K00
set_option maxHeartbeats 0
namespace K00
open PySem PySem.Spec PySem.Calls PySem.W PyProof.Rows L2 RX
theorem run2 (w : World) (os : OsState) : (fin w os).map (fun s => HandSHeadRun.seenQ qv loose (importedModules R.prog.main.body) (fun s => PySem.W.xlAt qv [] s && PySem.W.recOk R.toRowW.records s) s.abs) = some (PySem.W.openGood qv loose) := by
  kernel_rfl
end K00
set_option maxHeartbeats 0
namespace K00
open PySem PySem.Spec PySem.Calls PySem.W PyProof.Rows L2 RX
theorem run3 (w : World) (os : OsState) : (fin w os).map (fun s => (ob s).1) = some (He.valT fn [] w) := by
  kernel_rfl
end K00
set_option maxHeartbeats 0
namespace K00
open PySem PySem.Spec PySem.Calls PySem.W PyProof.Rows L2 RX
theorem run4 (w : World) (os : OsState) : (fin w os).map (fun s => (ob s).2) = some true := by
  kernel_rfl
end K00
set_option maxHeartbeats 0
namespace K00
open PySem PySem.Spec PyProof.Rows L2 RX
theorem run (w : World) : HandSHeadRun.RunEq R qv hk ob 20000 loose w := fun os => two_of (run1 w os) (run2 w os) (pair_of (run3 w os) (run4 w os))
theorem at_head {w : World} {K : PySem.W.Frag} {mg : Str → Option Value} {h : Heap} {a : Addr} (X : K.In h) (G : h.Ns mainGlobals mg) (c : He.SaysX fa fn [] tf ex w h K) (e : mg ("law" : Str) = some (.ref a)) : LamX.LawAtS PySem.Challenge.rw_halfturns_k00_whole_signed_words w K (L2N.CX (PySem.Challenge.rw_halfturns_k00_whole_signed_words).prog w) 16 63 "script" mg a h := by
  have k : Kn w K mg h := ⟨X, G, c, bas_of X G (He.ba c.more).1 (He.ba (He.ba c.more).2).1 (He.ba (He.ba (He.ba c.more).2).2).1⟩
  have e2 := e.symm.trans (He.glo_ok X G (c.t.d.fact 32 (f := .glo "law") (by kernel_rfl)))
  cases e2
  exact law_end k
end K00
open PySem PySem.W PySem.Calls PyProof.Rows
theorem PySem.Challenge.cw_halfturns_k00_whole_signed_words_holds : PySem.Challenge.rw_halfturns_k00_whole_signed_words.Holds := by
  w_on; o_law
  refine HandSHeadRun.head_any (r := OpenLaw.row PySem.Challenge.rw_halfturns_k00_whole_signed_words) (q := K00.qv) (H := K00.hk) (ob := fun s => K00.ob s) (M := 20000) (loose := K00.loose) (d := HandSHeadRun.topDef (OpenLaw.row PySem.Challenge.rw_halfturns_k00_whole_signed_words).prog 44) (kwd := []) (fun s => RX.obG_eq s) (by kernel_rfl) (fun s => by kernel_rfl) K00.run
    (by kernel_rfl) (by kernel_rfl) (by kernel_rfl) (by rfl) (by first | assumption | decide +kernel) (by decide +kernel) ⟨rfl, rfl, rfl, rfl, rfl, by decide +kernel⟩ ?hw ?hc
  case hw => w_witness2
  case hc =>
    refine LamX.walk_ofTsE (l := PySem.Challenge.rw_halfturns_k00_whole_signed_words) (n := 63) (k := 16) (x := "script") (CX := fun w => L2N.CX (PySem.Challenge.rw_halfturns_k00_whole_signed_words).prog w) rfl (by decide) (by kernel_rfl) ⟨rfl, by decide, by decide⟩ ?hf (fun _ _ _ _ _ ⟨_, _, _, _, _, _, _, _, _, _, _, _, z⟩ => z)
    intro w mg fa h Y G hm
    obtain ⟨K, hK, c⟩ := Y
    have en : (HandSHeadRun.topDef (OpenLaw.row PySem.Challenge.rw_halfturns_k00_whole_signed_words).prog 44).name = ("law" : PySem.Str) := by kernel_rfl
    rw [en] at hm
    exact ⟨K, hK, K00.at_head hK G c hm⟩
