import PyProof.Rows.All
import HandS.Deep
import HandS.Evl
import HandS.Flow
import HandS.ForExc
import HandS.ForMost
import HandS.GenList
import HandS.IsInst
import HandS.RaiseMore
import HandS.Rev
import HandS.RevTup
import HandS.SortInts
import HandS.TupAny
import HandS.TupLen
import HandS.Wide
import KE.KDictList
import OpenK.AllK
import Wide.All
import Wide.FinOn
import PySem.Challenge.RW_hearthdue_k19_shares_add_up
set_option linter.all false
set_option Elab.async false
set_option maxRecDepth 100000
set_option maxHeartbeats 2000000
/-! DL: a denotational layer over HandS: every expression and statement denotes a Lean function over deep data D and a list of cells. -/
namespace DL
open PySem PySem.Spec PyProof.Rows L2

/-- deep data: v a scalar, h a handle to a cell, the others values that are never changed -/
inductive D where
  | v (x : V)
  | h (k : Nat)
  | tup (ds : List D)
  | lst (ds : List D)
  | ro (ds : List D)
  | ins (C : Addr) (ns : List Str) (ds : List D)
  | dK (ks : List Key) (ds : List D)
  | dT (ks : List (List Key)) (ds : List D)

abbrev Mem := List D
abbrev Env := List (Option D)
structure Exn where
  cls : Value
  fs : Option (List Str × List D)
inductive Out (α : Type) where
  | ok (a : α) (M : Mem)
  | er (x : Exn) (M : Mem)
  | stuck
abbrev C (α : Type) := Mem → Out α
def C.bind {α β : Type} (c : C α) (g : α → C β) : C β := fun M => match c M with
  | .ok a M1 => g a M1
  | .er x M1 => .er x M1
  | .stuck => .stuck
def C.ret {α : Type} (a : α) : C α := fun M => .ok a M
def C.stuck {α : Type} : C α := fun _ => .stuck
@[simp] theorem bind_ok {α β : Type} {c : C α} {g : α → C β} {M M1 : Mem} {a : α} (h : c M = .ok a M1) : C.bind c g M = g a M1 := by
  unfold C.bind; rw [h]
@[simp] theorem ret_bind {α β : Type} {a : α} {g : α → C β} : C.bind (C.ret a) g = g a := rfl
theorem ret_def {α : Type} (a : α) (M : Mem) : C.ret a M = .ok a M := rfl

/-! ### what stands for what -/
def okV : V → Bool
  | .str s => PyData.strOk s && decide (s.length ≤ 16777216)
  | _ => true
/-- an object's content: ds stand for the values -/
def ObjR (R : List D → List V → Prop) : D → HO → Prop
  | .lst ds, .lst vs => R ds vs ∧ ds.length ≤ sizeLine
  | .tup ds, .tup vs => R ds vs ∧ ds.length ≤ sizeLine
  | .ins C ns ds, .ins C' _ fs => C = C' ∧ fs.map (·.1) = ns ∧ R ds (fs.map (·.2))
  | .dK ks ds, .dK kvs => kvs.map (·.1) = ks ∧ R ds (kvs.map (·.2)) ∧ ks.Nodup ∧ ks.length ≤ sizeLine
  | .dT ks ds, .dT kvs => kvs.map (·.1) = ks ∧ R ds (kvs.map (·.2)) ∧ ks.Nodup ∧ ks.length ≤ sizeLine
  | _, _ => False
mutual
def Rep (K : PySem.W.Frag) (S : Hp) (as : List Addr) : D → V → Prop
  | .v x, v => v = x ∧ okV x = true
  | .h k, v => ∃ a, as[k]? = some a ∧ v = .ref a
  | .tup ds, v => ∃ a vs, v = .ref a ∧ SqT K S a vs ∧ Reps K S as ds vs ∧ ds.length ≤ sizeLine
  | .ro ds, v => ∃ a vs, v = .ref a ∧ SqL K S a vs ∧ Reps K S as ds vs ∧ ds.length ≤ sizeLine
  | .lst ds, v => ∃ a vs, v = .ref a ∧ S a = some (.lst vs) ∧ Reps K S as ds vs ∧ ds.length ≤ sizeLine
  | .ins C ns ds, v => ∃ a dx fs, v = .ref a ∧ S a = some (.ins C dx fs) ∧ fs.map (·.1) = ns ∧ Reps K S as ds (fs.map (·.2))
  | .dK ks ds, v => ∃ a kvs, v = .ref a ∧ S a = some (.dK kvs) ∧ kvs.map (·.1) = ks ∧ Reps K S as ds (kvs.map (·.2)) ∧ ks.Nodup ∧ ks.length ≤ sizeLine
  | .dT ks ds, v => ∃ a kvs, v = .ref a ∧ S a = some (.dT kvs) ∧ kvs.map (·.1) = ks ∧ Reps K S as ds (kvs.map (·.2)) ∧ ks.Nodup ∧ ks.length ≤ sizeLine
def Reps (K : PySem.W.Frag) (S : Hp) (as : List Addr) : List D → List V → Prop
  | [], vs => vs = []
  | d :: ds, vs => ∃ v r, vs = v :: r ∧ Rep K S as d v ∧ Reps K S as ds r
end
def Pre (as as' : List Addr) : Prop := ∀ (k : Nat) (a : Addr), as[k]? = some a → as'[k]? = some a
theorem Pre.refl (as : List Addr) : Pre as as := fun _ _ h => h
theorem Pre.trans {a b c : List Addr} (x : Pre a b) (y : Pre b c) : Pre a c := fun k a h => y k a (x k a h)
theorem Pre.app (as bs : List Addr) : Pre as (as ++ bs) := fun k a h => by
  have hk := (List.getElem?_eq_some_iff.mp h).1
  rw [List.getElem?_append_left hk]; exact h

section
variable {K : PySem.W.Frag} {S S' : Hp} {as as' : List Addr}
mutual
theorem Rep.mono (e : Same S S') (p : Pre as as') : ∀ (d : D) (v : V), Rep K S as d v → Rep K S' as' d v
  | .v x, v, h => h
  | .h k, v, h => by
    obtain ⟨a, h1, h2⟩ := h
    exact ⟨a, p _ _ h1, h2⟩
  | .tup ds, v, h => by
    obtain ⟨a, vs, h1, h2, h3, h4⟩ := h
    exact ⟨a, vs, h1, Evl.ex_t e h2, Reps.mono e p ds vs h3, h4⟩
  | .ro ds, v, h => by
    obtain ⟨a, vs, h1, h2, h3, h4⟩ := h
    exact ⟨a, vs, h1, Evl.ex_l e h2, Reps.mono e p ds vs h3, h4⟩
  | .lst ds, v, h => by
    obtain ⟨a, vs, h1, h2, h3, h4⟩ := h
    exact ⟨a, vs, h1, e _ _ h2, Reps.mono e p ds vs h3, h4⟩
  | .ins C ns ds, v, h => by
    obtain ⟨a, dx, fs, h1, h2, h3, h4⟩ := h
    exact ⟨a, dx, fs, h1, e _ _ h2, h3, Reps.mono e p ds _ h4⟩
  | .dK ks ds, v, h => by
    obtain ⟨a, kvs, h1, h2, h3, h4, h5⟩ := h
    exact ⟨a, kvs, h1, e _ _ h2, h3, Reps.mono e p ds _ h4, h5⟩
  | .dT ks ds, v, h => by
    obtain ⟨a, kvs, h1, h2, h3, h4, h5⟩ := h
    exact ⟨a, kvs, h1, e _ _ h2, h3, Reps.mono e p ds _ h4, h5⟩
theorem Reps.mono (e : Same S S') (p : Pre as as') : ∀ (ds : List D) (vs : List V), Reps K S as ds vs → Reps K S' as' ds vs
  | [], vs, h => h
  | d :: ds, vs, h => by
    obtain ⟨v, r, h1, h2, h3⟩ := h
    exact ⟨v, r, h1, Rep.mono e p d v h2, Reps.mono e p ds r h3⟩
end
theorem Reps.nil : Reps K S as [] [] := rfl
theorem Reps.cons {d : D} {v : V} {ds : List D} {vs : List V} (h : Rep K S as d v) (t : Reps K S as ds vs) : Reps K S as (d :: ds) (v :: vs) := ⟨v, vs, rfl, h, t⟩
theorem Reps.length : ∀ {ds : List D} {vs : List V}, Reps K S as ds vs → ds.length = vs.length
  | [], vs, h => by have h : vs = [] := h; subst h; rfl
  | d :: ds, vs, h => by
    obtain ⟨v, r, h1, h2, h3⟩ := h
    subst h1
    simp [Reps.length h3]
theorem Reps.get : ∀ {ds : List D} {vs : List V} {i : Nat} {d : D}, Reps K S as ds vs → ds[i]? = some d → ∃ v, vs[i]? = some v ∧ Rep K S as d v
  | [], vs, i, d, h, e => by simp at e
  | d :: ds, vs, 0, d', h, e => by
    obtain ⟨v, r, h1, h2, h3⟩ := h
    subst h1
    simp at e; subst e
    exact ⟨v, rfl, h2⟩
  | d :: ds, vs, i + 1, d', h, e => by
    obtain ⟨v, r, h1, h2, h3⟩ := h
    subst h1
    simp at e
    obtain ⟨u, h4, h5⟩ := Reps.get h3 e
    exact ⟨u, by simpa using h4, h5⟩
theorem Reps.get' : ∀ {ds : List D} {vs : List V} {i : Nat} {v : V}, Reps K S as ds vs → vs[i]? = some v → ∃ d, ds[i]? = some d ∧ Rep K S as d v := fun {ds vs i v} h e => by
  have hl := h.length
  have hi := (List.getElem?_eq_some_iff.mp e).1
  have : i < ds.length := by omega
  obtain ⟨u, h1, h2⟩ := h.get (List.getElem?_eq_getElem this)
  rw [e] at h1; cases h1
  exact ⟨_, List.getElem?_eq_getElem this, h2⟩
theorem Reps.append : ∀ {ds es : List D} {vs us : List V}, Reps K S as ds vs → Reps K S as es us → Reps K S as (ds ++ es) (vs ++ us)
  | [], es, vs, us, h, q => by have h : vs = [] := h; subst h; exact q
  | d :: ds, es, vs, us, h, q => by
    obtain ⟨v, r, h1, h2, h3⟩ := h
    subst h1
    exact ⟨v, r ++ us, rfl, h2, Reps.append h3 q⟩
theorem Reps.drop : ∀ {ds : List D} {vs : List V} (n : Nat), Reps K S as ds vs → Reps K S as (ds.drop n) (vs.drop n)
  | ds, vs, 0, h => h
  | [], vs, n + 1, h => by have h : vs = [] := h; subst h; rfl
  | d :: ds, vs, n + 1, h => by
    obtain ⟨v, r, h1, h2, h3⟩ := h
    subst h1
    exact Reps.drop n h3
theorem Reps.take : ∀ {ds : List D} {vs : List V} (n : Nat), Reps K S as ds vs → Reps K S as (ds.take n) (vs.take n)
  | ds, vs, 0, h => rfl
  | [], vs, n + 1, h => by have h : vs = [] := h; subst h; rfl
  | d :: ds, vs, n + 1, h => by
    obtain ⟨v, r, h1, h2, h3⟩ := h
    subst h1
    exact ⟨v, r.take n, rfl, h2, Reps.take n h3⟩
theorem Reps.set : ∀ {ds : List D} {vs : List V} (n : Nat) {d : D} {v : V}, Reps K S as ds vs → Rep K S as d v → Reps K S as (ds.set n d) (vs.set n v)
  | [], vs, n, d, v, h, q => by have h : vs = [] := h; subst h; simp; rfl
  | d :: ds, vs, 0, d', v', h, q => by
    obtain ⟨v, r, h1, h2, h3⟩ := h
    subst h1
    exact ⟨v', r, rfl, q, h3⟩
  | d :: ds, vs, n + 1, d', v', h, q => by
    obtain ⟨v, r, h1, h2, h3⟩ := h
    subst h1
    exact ⟨v, r.set n v', rfl, h2, Reps.set n h3 q⟩
theorem Reps.rev : ∀ {ds : List D} {vs : List V}, Reps K S as ds vs → Reps K S as ds.reverse vs.reverse
  | [], vs, h => by have h : vs = [] := h; subst h; rfl
  | d :: ds, vs, h => by
    obtain ⟨v, r, h1, h2, h3⟩ := h
    subst h1
    rw [List.reverse_cons, List.reverse_cons]
    exact Reps.append (Reps.rev h3) ⟨v, [], rfl, h2, rfl⟩
theorem ObjR.mono {c : D} {ho : HO} {R R' : List D → List V → Prop} (h : ObjR R c ho) (m : ∀ ds vs, R ds vs → R' ds vs) : ObjR R' c ho := by
  cases c <;> cases ho <;> first | exact h.elim | exact ⟨m _ _ h.1, h.2⟩ | exact ⟨h.1, h.2.1, m _ _ h.2.2⟩ | exact ⟨h.1, m _ _ h.2.1, h.2.2⟩ | exact h
end

/-- the memory: cell k lies at the k-th address -/
structure St (K : PySem.W.Frag) (S : Hp) (as : List Addr) (M : Mem) (H : Hp) : Prop where
  ex : Same S H
  len : as.length = M.length
  nd : as.Nodup
  cell : ∀ (k : Nat) (c : D) (a : Addr), M[k]? = some c → as[k]? = some a → S a = none ∧ ∃ ho, H a = some ho ∧ ObjR (Reps K S as) c ho
def EnvOk (K : PySem.W.Frag) (S : Hp) (as : List Addr) (σ : L2.St) (ρ : Env) : Prop :=
  σ.length = ρ.length ∧ ∀ (i : Nat) (d : D), ρ[i]? = some (some d) → ∃ v, σ[i]? = some (some v) ∧ Rep K S as d v
theorem EnvOk.mono {K : PySem.W.Frag} {S S' : Hp} {as as' : List Addr} {σ : L2.St} {ρ : Env} (e : Same S S') (p : Pre as as') (h : EnvOk K S as σ ρ) : EnvOk K S' as' σ ρ :=
  ⟨h.1, fun i d q => let ⟨v, a, b⟩ := h.2 i d q; ⟨v, a, Rep.mono e p d v b⟩⟩
theorem EnvOk.set {K : PySem.W.Frag} {S : Hp} {as : List Addr} {σ : L2.St} {ρ : Env} {i : Nat} {d : D} {v : V} (h : EnvOk K S as σ ρ) (r : Rep K S as d v) : EnvOk K S as (σ.set i (some v)) (ρ.set i (some d)) := by
  refine ⟨by simp [h.1], fun j e q => ?_⟩
  by_cases hj : j = i
  · subst hj
    have hl : j < ρ.length := by
      have := (List.getElem?_eq_some_iff.mp q).1
      simpa using this
    rw [List.getElem?_set_self hl] at q
    cases q
    exact ⟨v, List.getElem?_set_self (by rw [h.1]; exact hl), r⟩
  · rw [List.getElem?_set_ne (Ne.symm hj)] at q
    obtain ⟨u, h1, h2⟩ := h.2 j e q
    exact ⟨u, by rw [List.getElem?_set_ne (Ne.symm hj)]; exact h1, h2⟩

def ErOk (K : PySem.W.Frag) (S : Hp) (as : List Addr) (H : Hp) (x : Exn) (dd : Option Addr) : Prop := match x.fs with
  | none => dd = none
  | some (ns, ds) => ∃ a fl, dd = some a ∧ H a = some (.xd fl) ∧ fl.map (·.1) = ns ∧ Reps K S as ds (fl.map (·.2))

/-- what a step may do: S and as grow by new things alone, what stands outside the cells stays -/
structure Ext (S : Hp) (as : List Addr) (H : Hp) (S' : Hp) (as' : List Addr) (H' : Hp) : Prop where
  same : Same S S'
  pre : Pre as as'
  fr : ∀ a o, H a = some o → a ∉ as → H' a = some o ∧ a ∉ as' ∧ (S a = none → S' a = none)
theorem Ext.refl (S : Hp) (as : List Addr) (H : Hp) : Ext S as H S as H := ⟨Same.refl _, Pre.refl _, fun _ _ h n => ⟨h, n, fun z => z⟩⟩
theorem Ext.trans {S S1 S2 H H1 H2 : Hp} {as as1 as2 : List Addr} (x : Ext S as H S1 as1 H1) (y : Ext S1 as1 H1 S2 as2 H2) : Ext S as H S2 as2 H2 :=
  ⟨x.same.trans y.same, x.pre.trans y.pre, fun a o h n => by
    obtain ⟨h1, n1, s1⟩ := x.fr a o h n
    obtain ⟨h2, n2, s2⟩ := y.fr a o h1 n1
    exact ⟨h2, n2, fun z => s2 (s1 z)⟩⟩
/-- the outcome o fulfils what is wanted -/
def Fin {α β : Type} (R : Hp → List Addr → α → β → Prop) (K : PySem.W.Frag) (S : Hp) (as : List Addr) (H : Hp) (W : WX) (σ : L2.St) (ρ : Env) (o : Out α) (Q : β → Hp → Prop) : Prop := match o with
  | .ok a M' => ∀ S' as' b H', Ext S as H S' as' H' → St K S' as' M' H' → R S' as' a b → Q b H'
  | .er x M' => ∀ S' as' H' dd, Ext S as H S' as' H' → St K S' as' M' H' → EnvOk K S' as' σ ρ → ErOk K S' as' H' x dd → W x.cls dd σ H'
  | .stuck => False
def tG {α β : Type} (R : Hp → List Addr → α → β → Prop) (K : PySem.W.Frag) (W : WX) (f : Env → C α) : L2.St → Hp → (β → Hp → Prop) → Prop := fun σ H Q =>
  ∃ S as M ρ, St K S as M H ∧ EnvOk K S as σ ρ ∧ Fin R K S as H W σ ρ (f ρ M) Q
def Mono {α β : Type} (R : Hp → List Addr → α → β → Prop) : Prop := ∀ {S S' : Hp} {as as' : List Addr} {a : α} {b : β}, Same S S' → Pre as as' → R S as a b → R S' as' a b
section
variable {K : PySem.W.Frag} {W : WX} {α β α' β' : Type} {R : Hp → List Addr → α → β → Prop} {R' : Hp → List Addr → α' → β' → Prop}
theorem Fin.pre {S S0 : Hp} {as as0 : List Addr} {H H0 : Hp} {σ : L2.St} {ρ : Env} {o : Out α} {Q : β → Hp → Prop} (e : Ext S0 as0 H0 S as H) (h : Fin R K S0 as0 H0 W σ ρ o Q) : Fin R K S as H W σ ρ o Q := by
  cases o with
  | ok a M' => exact fun S' as' b H' e' => h S' as' b H' (e.trans e')
  | er x M' => exact fun S' as' H' dd e' => h S' as' H' dd (e.trans e')
  | stuck => exact h
theorem Fin.imp {S : Hp} {as : List Addr} {H : Hp} {σ : L2.St} {ρ : Env} {o : Out α} {Q Q' : β → Hp → Prop} (h : Fin R K S as H W σ ρ o Q) (i : ∀ b H, Q b H → Q' b H) : Fin R K S as H W σ ρ o Q' := by
  cases o with
  | ok a M' => exact fun S' as' b H' e' s r => i _ _ (h S' as' b H' e' s r)
  | er x M' => exact h
  | stuck => exact h
/-- two computations in a row -/
theorem Fin.bind {c : C α} {g : α → C α'} {S : Hp} {as : List Addr} {H : Hp} {M : Mem} {σ : L2.St} {ρ : Env} {Q : β' → Hp → Prop} {Q1 : β → Hp → Prop} (fin : Fin R' K S as H W σ ρ (c.bind g M) Q) (env : EnvOk K S as σ ρ)
    (k : ∀ S' as' M' a b H', Ext S as H S' as' H' → St K S' as' M' H' → EnvOk K S' as' σ ρ → R S' as' a b → Fin R' K S' as' H' W σ ρ (g a M') Q → Q1 b H') : Fin R K S as H W σ ρ (c M) Q1 := by
  unfold C.bind at fin
  cases e : c M with
  | ok a M' =>
    simp only [e] at fin
    intro S' as' b H' e' s' r
    exact k S' as' M' a b H' e' s' (env.mono e'.same e'.pre) r (fin.pre e')
  | er x M' =>
    simp only [e] at fin
    exact fin
  | stuck =>
    simp only [e] at fin
    exact fin.elim
end

/-! ### expressions -/
def RepR (K : PySem.W.Frag) : Hp → List Addr → D → V → Prop := Rep K
def RepsR (K : PySem.W.Frag) : Hp → List Addr → List D → List V → Prop := Reps K
def EqR {α : Type} : Hp → List Addr → α → α → Prop := fun _ _ a b => a = b
abbrev tD (K : PySem.W.Frag) (W : WX) (f : Env → C D) : TE := tG (RepR K) K W f
abbrev tDs (K : PySem.W.Frag) (W : WX) (f : Env → C (List D)) : TA := tG (RepsR K) K W f
abbrev tDb (K : PySem.W.Frag) (W : WX) (f : Env → C Bool) : TT := tG EqR K W f
abbrev PD (X : Cx) (W : WX) (e : Expr) (f : Env → C D) : Prop := PE X e (tD X.K W f)
abbrev PDs (X : Cx) (W : WX) (es : List Expr) (f : Env → C (List D)) : Prop := PA X es (tDs X.K W f)
abbrev PDb (X : Cx) (W : WX) (e : Expr) (f : Env → C Bool) : Prop := PT X e (tDb X.K W f)
abbrev PDw (X : Cx) (W : WX) (e : Expr) (f : Env → C Bool) : Prop := PW X e (tDb X.K W f)
theorem _root_.L2.PE.up {X : Cx} {e : Expr} {t t' : TE} (h : PE X e t) (i : ∀ σ H Q, t' σ H Q → t σ H Q) : PE X e t' := ⟨fun pins s σ H Q I q => h.run pins s σ H Q I (i σ H Q q)⟩
theorem _root_.L2.PT.up {X : Cx} {e : Expr} {t t' : TT} (h : PT X e t) (i : ∀ σ H Q, t' σ H Q → t σ H Q) : PT X e t' := ⟨fun pins s σ H Q I q => h.run pins s σ H Q I (i σ H Q q)⟩
theorem _root_.L2.PW.up {X : Cx} {e : Expr} {t t' : TT} (h : PW X e t) (i : ∀ σ H Q, t' σ H Q → t σ H Q) : PW X e t' := ⟨fun wh pins s σ H Q I q => h.run wh pins s σ H Q I (i σ H Q q)⟩
theorem _root_.L2.PA.up {X : Cx} {e : List Expr} {t t' : TA} (h : PA X e t) (i : ∀ σ H Q, t' σ H Q → t σ H Q) : PA X e t' := ⟨fun ps pins s σ H Q I q => h.run ps pins s σ H Q I (i σ H Q q)⟩
theorem _root_.L2.PS.up {X : Cx} {e : Stmt} {t t' : TS} (h : PS X e t) (i : ∀ D σ H, t' D σ H → t D σ H) : PS X e t' := ⟨fun pins s σ H D I q => h.run pins s σ H D I (i D σ H q)⟩
theorem _root_.L2.PSs.up {X : Cx} {e : List Stmt} {t t' : TS} (h : PSs X e t) (i : ∀ D σ H, t' D σ H → t D σ H) : PSs X e t' := ⟨fun pins s σ H D I q => h.run pins s σ H D I (i D σ H q)⟩
theorem _root_.L2.PE.or {X : Cx} {e : Expr} {t t' : TE} (h : PE X e t) (h' : PE X e t') : PE X e (fun σ H Q => t σ H Q ∨ t' σ H Q) := ⟨fun pins s σ H Q I q => q.elim (h.run pins s σ H Q I) (h'.run pins s σ H Q I)⟩

/-- an operation on values: the reading r is met by the denotation g -/
def Dr2 (K : PySem.W.Frag) (r : R2) (g : D → D → C D) : Prop := ∀ S as M H σ ρ W x y v u Q, St K S as M H → Rep K S as x v → Rep K S as y u → Fin (RepR K) K S as H W σ ρ (g x y M) Q → r v u H Q
def Dr1 (K : PySem.W.Frag) (r : V → Hp → VK → Prop) (g : D → C D) : Prop := ∀ S as M H σ ρ W x v Q, St K S as M H → Rep K S as x v → Fin (RepR K) K S as H W σ ρ (g x M) Q → r v H Q
def DrN (K : PySem.W.Frag) (r : List V → Hp → VK → Prop) (g : List D → C D) : Prop := ∀ S as M H σ ρ W xs vs Q, St K S as M H → Reps K S as xs vs → Fin (RepR K) K S as H W σ ρ (g xs M) Q → r vs H Q

def eVar (i : Nat) : Env → C D := fun ρ M => match ρ[i]? with
  | some (some d) => .ok d M
  | _ => .stuck
def eC (d : D) : Env → C D := fun _ M => .ok d M
def e2 (g : D → D → C D) (fa fb : Env → C D) : Env → C D := fun ρ => (fa ρ).bind fun x => (fb ρ).bind fun y => g x y
def e1 (g : D → C D) (fa : Env → C D) : Env → C D := fun ρ => (fa ρ).bind g
def eNil : Env → C (List D) := fun _ => C.ret []
def eCons (fa : Env → C D) (fr : Env → C (List D)) : Env → C (List D) := fun ρ => (fa ρ).bind fun x => (fr ρ).bind fun xs => C.ret (x :: xs)
def eN (g : List D → C D) (fs : Env → C (List D)) : Env → C D := fun ρ => (fs ρ).bind g

theorem fin_ok {K : PySem.W.Frag} {W : WX} {S : Hp} {as : List Addr} {M : Mem} {H : Hp} {σ : L2.St} {ρ : Env} {d : D} {v : V} {Q : VK} (st : St K S as M H) (r : Rep K S as d v) (fin : Fin (RepR K) K S as H W σ ρ (.ok d M) Q) : Q v H := fin S as v H (Ext.refl _ _ _) st r
theorem fin_okb {K : PySem.W.Frag} {W : WX} {S : Hp} {as : List Addr} {M : Mem} {H : Hp} {σ : L2.St} {ρ : Env} {b : Bool} {Q : Bool → Hp → Prop} (st : St K S as M H) (fin : Fin EqR K S as H W σ ρ (.ok b M) Q) : Q b H := fin S as b H (Ext.refl _ _ _) st rfl
section
variable {X : Cx} {W : WX} {pos : Pos} {a b e : Expr} {es : List Expr} {fa fb : Env → C D} {fs : Env → C (List D)}
theorem pd_var (i : Nat) {x : Str} (hN : X.N[i]? = some x := by rfl) (hv : Vis X.env.scope x := by first | exact Or.inl rfl | exact Or.inr (Or.inl rfl) | exact Or.inr (Or.inr rfl)) (hd : (x == ("__debug__" : Str)) = false := by decide)
    (hcd : (x == ("__classdict__" : Str)) = false := by decide) : PD X W (.Name x pos) (eVar i) := (pe_var hN hv hd hcd).up fun σ H Q h => by
  obtain ⟨S, as, M, ρ, st, env, fin⟩ := h
  unfold eVar at fin
  cases e : ρ[i]? with
  | none => simp only [e] at fin; exact fin.elim
  | some o =>
    cases o with
    | none => simp only [e] at fin; exact fin.elim
    | some d =>
      simp only [e] at fin
      obtain ⟨v, h1, h2⟩ := env.2 i d e
      exact ⟨v, h1, fin_ok st h2 fin⟩
theorem pd_c {v : V} (h : PE X e (tC v)) (ok : okV v = true) : PD X W e (eC (.v v)) := h.up fun σ H Q h => by
  obtain ⟨S, as, M, ρ, st, env, fin⟩ := h
  exact fin_ok (d := .v v) st ⟨rfl, ok⟩ fin
theorem pd_int {i : Int} {j} : PD X W (.Constant (.int i) j pos) (eC (.v (.int i))) := pd_c pe_int rfl
theorem pd_bl {b : Bool} {j} : PD X W (.Constant (.bool b) j pos) (eC (.v (.bl b))) := pd_c pe_bl rfl
theorem pd_non {j} : PD X W (.Constant .none j pos) (eC (.v .non)) := pd_c pe_non rfl
theorem pd_str {x : Str} {j} (h : okV (.str x) = true := by decide +kernel) : PD X W (.Constant (.str x) j pos) (eC (.v (.str x))) := pd_c pe_str h
theorem t2_of {r : R2} {g : D → D → C D} (hr : Dr2 X.K r g) {σ : L2.St} {H : Hp} {Q : VK} (h : tD X.K W (e2 g fa fb) σ H Q) : tOp r (tD X.K W fa) (tD X.K W fb) σ H Q := by
  obtain ⟨S, as, M, ρ, st, env, fin⟩ := h
  refine ⟨S, as, M, ρ, st, env, Fin.bind (g := fun x => (fb ρ).bind fun y => g x y) fin env fun S1 as1 M1 x v H1 e1 st1 env1 rx fin1 => ?_⟩
  refine ⟨S1, as1, M1, ρ, st1, env1, Fin.bind (g := fun y => g x y) fin1 env1 fun S2 as2 M2 y u H2 e2 st2 env2 ry fin2 => ?_⟩
  exact hr S2 as2 M2 H2 σ ρ W x y v u Q st2 (Rep.mono e2.same e2.pre x v rx) ry fin2
theorem pd_op {op : Operator} {r : R2} {g : D → D → C D} (ho : OpR X (binaryOp op) r) (hr : Dr2 X.K r g) (ha : PD X W a fa) (hb : PD X W b fb) : PD X W (.BinOp a op b pos) (e2 g fa fb) := (pe_op ho ha hb).up fun _ _ _ h => t2_of hr h
theorem pd_cmp {op : CmpOp} {r : R2} {g : D → D → C D} (ho : OpR X (compareOp op) r) (hr : Dr2 X.K r g) (ha : PD X W a fa) (hb : PD X W b fb) (hm : behindInMarks op b = false := by first | exact nomark _ | rfl) : PD X W (.Compare a [op] [b] pos) (e2 g fa fb) :=
  (pe_cmpR ho ha hb hm).up fun _ _ _ h => t2_of hr h
theorem pd_un {op : UnaryOp} {r : V → Hp → VK → Prop} {g : D → C D} (ho : UnR X (unaryOp op) r) (hr : Dr1 X.K r g) (ha : PD X W a fa) : PD X W (.UnaryOp op a pos) (e1 g fa) := (pe_un ho ha).up fun σ H Q h => by
  obtain ⟨S, as, M, ρ, st, env, fin⟩ := h
  exact ⟨S, as, M, ρ, st, env, Fin.bind (g := g) fin env fun S1 as1 M1 x v H1 e1 st1 env1 rx fin1 => hr S1 as1 M1 H1 σ ρ W x v Q st1 rx fin1⟩
theorem pd_ix {r : R2} {g : D → D → C D} (ho : IxR X r) (hr : Dr2 X.K r g) (ha : PD X W a fa) (hb : PD X W b fb) (hs : PlainIx b := by exact fun _ _ => rfl) : PD X W (.Subscript a b pos) (e2 g fa fb) := (pe_ix ho ha hb hs).up fun _ _ _ h => t2_of hr h
/-! arguments -/
theorem pds_nil : PDs X W [] eNil := pa_nil.up fun σ H Q h => by
  obtain ⟨S, as, M, ρ, st, env, fin⟩ := h
  exact fin S as [] H (Ext.refl _ _ _) st rfl
theorem pds_cons (ha : PD X W e fa) (hr : PDs X W es fs) (hs : starEach (e :: es) X.env = (false, eval e X.env) :: starEach es X.env := by rfl) : PDs X W (e :: es) (eCons fa fs) := (pa_cons ha hr hs).up fun σ H Q h => by
  obtain ⟨S, as, M, ρ, st, env, fin⟩ := h
  refine ⟨S, as, M, ρ, st, env, Fin.bind (g := fun x => (fs ρ).bind fun xs => C.ret (x :: xs)) fin env fun S1 as1 M1 x v H1 e1 st1 env1 rx fin1 => ?_⟩
  refine ⟨S1, as1, M1, ρ, st1, env1, Fin.bind (g := fun xs => C.ret (x :: xs)) fin1 env1 fun S2 as2 M2 xs vs H2 e2 st2 env2 rs fin2 => ?_⟩
  exact fin2 S2 as2 (v :: vs) H2 (Ext.refl _ _ _) st2 (Reps.cons (Rep.mono e2.same e2.pre x v rx) rs)
theorem pd_callB {x : Str} {id : String} {r : List V → Hp → VK → Prop} {g : List D → C D} {p : Pos} (hr : CallR X (.builtin id) r) (hd : DrN X.K r g) (hm : X.mg x = none) (hv : bootBuiltins x = some (.builtin id) := by decide +kernel)
    (ha : PDs X W (e :: es) fs) (hg : Gl X x := by rfl) (hn : x ≠ "__name__" := by decide) (hdb : (x == ("__debug__" : Str)) = false := by decide) (hs : starEach (e :: es) X.env = (false, eval e X.env) :: starEach es X.env := by rfl) (hpl : (backTo pos (starEach es X.env)).any (·.1) = false := by rfl) : PD X W (.Call (.Name x p) (e :: es) [] pos) (eN g fs) :=
  (pe_callB hr hg hm hv ha hn hdb hs hpl).up fun σ H Q h => by
    obtain ⟨S, as, M, ρ, st, env, fin⟩ := h
    exact ⟨S, as, M, ρ, st, env, Fin.bind (g := g) fin env fun S1 as1 M1 xs vs H1 e1 st1 env1 rx fin1 => hd S1 as1 M1 H1 σ ρ W xs vs Q st1 rx fin1⟩
end
end DL
set_option Elab.async false
set_option maxRecDepth 100000
set_option maxHeartbeats 2000000
namespace DL
open PySem PySem.Spec PyProof.Rows L2
theorem line_eq : sizeLine = 16777216 := sizeLine_eq
section
variable {K : PySem.W.Frag} {W : WX} {S : Hp} {as : List Addr} {M : Mem} {H : Hp} {σ : L2.St} {ρ : Env} {Q : VK} {p : Addr}
/-! ### the memory -/
theorem St.notin (st : St K S as M H) (n : H p = none) : p ∉ as := fun hm => by
  obtain ⟨k, hk⟩ := List.getElem?_of_mem hm
  have hl : k < M.length := by
    have := (List.getElem?_eq_some_iff.mp hk).1
    rw [st.len] at this; exact this
  obtain ⟨_, ho, e, _⟩ := st.cell k M[k] p (List.getElem?_eq_getElem hl) hk
  rw [n] at e; cases e
theorem St.sfree (st : St K S as M H) (n : H p = none) : S p = none := by
  cases h : S p with
  | none => rfl
  | some o => rw [st.ex p o h] at n; cases n
/-- a new value object -/
theorem St.frozen {ho : HO} (st : St K S as M H) (n : H p = none) : St K (upd S p ho) as M (upd H p ho) := by
  have sp := st.sfree n
  refine ⟨fun b o e => ?_, st.len, st.nd, fun k c a h1 h2 => ?_⟩
  · by_cases hb : b = p
    · subst hb; rw [upd_same] at e ⊢; exact e
    · rw [upd_ne hb] at e ⊢; exact st.ex b o e
  · obtain ⟨s0, o, e, r⟩ := st.cell k c a h1 h2
    have ha : a ≠ p := ne_of_none e n
    exact ⟨by rw [upd_ne ha]; exact s0, o, by rw [upd_ne ha]; exact e, r.mono fun ds vs h => Reps.mono (Evl.Ex.new sp) (Pre.refl _) ds vs h⟩
theorem Ext.frozen {ho : HO} (st : St K S as M H) (n : H p = none) : Ext S as H (upd S p ho) as (upd H p ho) :=
  ⟨Evl.Ex.new (st.sfree n), Pre.refl _, fun a o h na => by
    have ha : a ≠ p := ne_of_none h n
    exact ⟨by rw [upd_ne ha]; exact h, na, fun z => by rw [upd_ne ha]; exact z⟩⟩
/-- a new cell -/
theorem St.fresh {ho : HO} {c : D} (st : St K S as M H) (n : H p = none) (r : ObjR (Reps K S as) c ho) : St K S (as ++ [p]) (M ++ [c]) (upd H p ho) := by
  have sp := st.sfree n
  have np := st.notin n
  refine ⟨fun b o e => ?_, by simp [st.len], ?_, fun k c' a h1 h2 => ?_⟩
  · rw [upd_ne (ne_of_none e sp)]; exact st.ex b o e
  · rw [List.nodup_append]
    refine ⟨st.nd, by simp, fun a ha b hb => ?_⟩
    have : b = p := by simpa using hb
    subst this
    rintro rfl
    exact np ha
  · by_cases hk : k < M.length
    · rw [List.getElem?_append_left hk] at h1
      rw [List.getElem?_append_left (by rw [st.len]; exact hk)] at h2
      obtain ⟨s0, o, e, r'⟩ := st.cell k c' a h1 h2
      have ha : a ≠ p := ne_of_none e n
      exact ⟨s0, o, by rw [upd_ne ha]; exact e, r'.mono fun ds vs h => Reps.mono (Same.refl _) (Pre.app _ _) ds vs h⟩
    · have hk' : k = M.length := by
        have := (List.getElem?_eq_some_iff.mp h1).1
        simp at this; omega
      subst hk'
      rw [List.getElem?_concat_length] at h1
      rw [← st.len, List.getElem?_concat_length] at h2
      cases h1; cases h2
      exact ⟨sp, ho, upd_same, r.mono fun ds vs h => Reps.mono (Same.refl _) (Pre.app _ _) ds vs h⟩
theorem Ext.fresh {ho : HO} (st : St K S as M H) (n : H p = none) : Ext S as H S (as ++ [p]) (upd H p ho) :=
  ⟨Same.refl _, Pre.app _ _, fun a o h na => by
    have ha : a ≠ p := ne_of_none h n
    exact ⟨by rw [upd_ne ha]; exact h, by simp [na, ha], fun z => z⟩⟩
theorem nodup_ixA {N : List Addr} (hN : N.Nodup) {i j : Nat} {x : Addr} (a : N[i]? = some x) (b : N[j]? = some x) : i = j := by
  obtain ⟨h1, e1⟩ := List.getElem?_eq_some_iff.mp a
  obtain ⟨h2, e2⟩ := List.getElem?_eq_some_iff.mp b
  exact (List.getElem_inj hN).mp (e1.trans e2.symm)
/-- a cell is written -/
theorem St.write {ho : HO} {k : Nat} {c c0 : D} {a : Addr} (st : St K S as M H) (hM : M[k]? = some c0) (ha : as[k]? = some a) (r : ObjR (Reps K S as) c ho) : St K S as (M.set k c) (upd H a ho) := by
  have sa := (st.cell k c0 a hM ha).1
  refine ⟨fun b o e => ?_, by simp [st.len], st.nd, fun j c' b h1 h2 => ?_⟩
  · rw [upd_ne (ne_of_none e sa)]; exact st.ex b o e
  · by_cases hj : j = k
    · subst hj
      rw [ha] at h2; cases h2
      rw [List.getElem?_set_self (List.getElem?_eq_some_iff.mp hM).1] at h1
      cases h1
      exact ⟨sa, ho, upd_same, r⟩
    · rw [List.getElem?_set_ne (Ne.symm hj)] at h1
      obtain ⟨s0, o, e, r'⟩ := st.cell j c' b h1 h2
      have hb : b ≠ a := fun z => by
        subst z
        exact hj (nodup_ixA st.nd h2 ha)
      exact ⟨s0, o, by rw [upd_ne hb]; exact e, r'⟩
theorem Ext.write {ho : HO} {k : Nat} {a : Addr} (ha : as[k]? = some a) : Ext S as H S as (upd H a ho) :=
  ⟨Same.refl _, Pre.refl _, fun b o h nb => by
    have hb : b ≠ a := fun z => nb (z ▸ List.mem_of_getElem? ha)
    exact ⟨by rw [upd_ne hb]; exact h, nb, fun z => z⟩⟩
theorem fin_lst {ds : List D} {vs : List V} (st : St K S as M H) (fin : Fin (RepR K) K S as H W σ ρ (.ok (.lst ds) M) Q) (r : Reps K S as ds vs) (hl : ds.length ≤ sizeLine) (n : H p = none) : Q (.ref p) (upd H p (.lst vs)) :=
  fin (upd S p (.lst vs)) as (.ref p) _ (Ext.frozen st n) (st.frozen n) ⟨p, vs, rfl, upd_same, Reps.mono (Evl.Ex.new (st.sfree n)) (Pre.refl _) _ _ r, hl⟩
theorem fin_tup {ds : List D} {vs : List V} (st : St K S as M H) (fin : Fin (RepR K) K S as H W σ ρ (.ok (.tup ds) M) Q) (r : Reps K S as ds vs) (hl : ds.length ≤ sizeLine) (n : H p = none) : Q (.ref p) (upd H p (.tup vs)) :=
  fin (upd S p (.tup vs)) as (.ref p) _ (Ext.frozen st n) (st.frozen n) ⟨p, vs, rfl, SqT.of upd_same, Reps.mono (Evl.Ex.new (st.sfree n)) (Pre.refl _) _ _ r, hl⟩
theorem fin_cell {c : D} {ho : HO} (st : St K S as M H) (fin : Fin (RepR K) K S as H W σ ρ (.ok (.h M.length) (M ++ [c])) Q) (r : ObjR (Reps K S as) c ho) (n : H p = none) : Q (.ref p) (upd H p ho) :=
  fin S (as ++ [p]) (.ref p) _ (Ext.fresh st n) (st.fresh n r) ⟨p, by rw [← st.len]; simp, rfl⟩

/-! ### what a datum holds -/
def seqOf (M : Mem) : D → Option (List D)
  | .tup ds => some ds
  | .lst ds => some ds
  | .ro ds => some ds
  | .h k => match M[k]? with
    | some (.lst ds) => some ds
    | _ => none
  | _ => none
def lstOf (M : Mem) : D → Option (List D)
  | .lst ds => some ds
  | .ro ds => some ds
  | .h k => match M[k]? with
    | some (.lst ds) => some ds
    | _ => none
  | _ => none
def mlOf (M : Mem) : D → Option (List D)
  | .lst ds => some ds
  | .h k => match M[k]? with
    | some (.lst ds) => some ds
    | _ => none
  | _ => none
theorem cell_lst {k : Nat} {a : Addr} {ds : List D} (st : St K S as M H) (hM : M[k]? = some (.lst ds)) (ha : as[k]? = some a) : ∃ vs, H a = some (.lst vs) ∧ Reps K S as ds vs ∧ ds.length ≤ sizeLine := by
  obtain ⟨_, ho, e, r⟩ := st.cell k _ a hM ha
  cases ho with
  | lst vs => exact ⟨vs, e, r.1, r.2⟩
  | _ => exact r.elim
theorem ml_of {d : D} {v : V} {ds : List D} (st : St K S as M H) (r : Rep K S as d v) (h : mlOf M d = some ds) : ∃ a vs, v = .ref a ∧ H a = some (.lst vs) ∧ Reps K S as ds vs ∧ ds.length ≤ sizeLine := by
  cases d with
  | lst es =>
    cases h
    obtain ⟨a, vs, h1, h2, h3, h4⟩ := r
    exact ⟨a, vs, h1, st.ex _ _ h2, h3, h4⟩
  | h k =>
    obtain ⟨a, h1, h2⟩ := r
    unfold mlOf at h
    cases e : M[k]? with
    | none => simp [e] at h
    | some c =>
      cases c with
      | lst es =>
        simp [e] at h; subst h
        obtain ⟨vs, h3, h4, h5⟩ := cell_lst st e h1
        exact ⟨a, vs, h2, h3, h4, h5⟩
      | _ => simp [e] at h
  | _ => cases h
theorem lst_of {d : D} {v : V} {ds : List D} (st : St K S as M H) (r : Rep K S as d v) (h : lstOf M d = some ds) : ∃ a vs, v = .ref a ∧ SqL K H a vs ∧ Reps K S as ds vs ∧ ds.length ≤ sizeLine := by
  cases d with
  | lst es =>
    obtain ⟨a, vs, h1, h2, h3, h4⟩ := ml_of st r (by exact h)
    exact ⟨a, vs, h1, SqL.of h2, h3, h4⟩
  | h k =>
    obtain ⟨a, vs, h1, h2, h3, h4⟩ := ml_of st r (by exact h)
    exact ⟨a, vs, h1, SqL.of h2, h3, h4⟩
  | ro es =>
    cases h
    obtain ⟨a, vs, h1, h2, h3, h4⟩ := r
    exact ⟨a, vs, h1, Evl.ex_l st.ex h2, h3, h4⟩
  | _ => cases h
theorem seq_of {d : D} {v : V} {ds : List D} (st : St K S as M H) (r : Rep K S as d v) (h : seqOf M d = some ds) : ∃ a vs, v = .ref a ∧ (SqL K H a vs ∨ SqT K H a vs) ∧ Reps K S as ds vs ∧ ds.length ≤ sizeLine := by
  cases d with
  | lst es =>
    obtain ⟨a, vs, h1, h2, h3, h4⟩ := lst_of st r (by exact h)
    exact ⟨a, vs, h1, .inl h2, h3, h4⟩
  | h k =>
    obtain ⟨a, vs, h1, h2, h3, h4⟩ := lst_of st r (by exact h)
    exact ⟨a, vs, h1, .inl h2, h3, h4⟩
  | ro es =>
    obtain ⟨a, vs, h1, h2, h3, h4⟩ := lst_of st r (by exact h)
    exact ⟨a, vs, h1, .inl h2, h3, h4⟩
  | tup es =>
    cases h
    obtain ⟨a, vs, h1, h2, h3, h4⟩ := r
    exact ⟨a, vs, h1, .inr (Evl.ex_t st.ex h2), h3, h4⟩
  | _ => cases h
theorem tup_of {v : V} {ds : List D} (st : St K S as M H) (r : Rep K S as (.tup ds) v) : ∃ a vs, v = .ref a ∧ SqT K H a vs ∧ Reps K S as ds vs ∧ ds.length ≤ sizeLine := by
  obtain ⟨a, vs, h1, h2, h3, h4⟩ := r
  exact ⟨a, vs, h1, Evl.ex_t st.ex h2, h3, h4⟩
theorem Reps.flat : ∀ {ds : List D} {vs : List V} {f : D → Option V}, Reps K S as ds vs → (∀ d x, f d = some x → d = .v x) → ∀ {xs : List V}, ds.mapM f = some xs → vs = xs
  | [], vs, f, h, hf, xs, e => by
    have h : vs = [] := h
    subst h
    simp at e; subst e; rfl
  | d :: ds, vs, f, h, hf, xs, e => by
    obtain ⟨v, r, h1, h2, h3⟩ := h
    subst h1
    rw [List.mapM_cons] at e
    cases e1 : f d with
    | none => simp [e1] at e
    | some x =>
      cases e2 : ds.mapM f with
      | none => simp [e1, e2] at e
      | some ys =>
        simp [e1, e2] at e
        subst e
        have := hf d x e1
        subst this
        rw [h2.1, Reps.flat h3 hf e2]
end

/-! ### operators -/
open Classical in
noncomputable def gI (P : Int → Int → Prop) (f : Int → Int → V) : D → D → C D := fun x y M => match x, y with
  | .v (.int i), .v (.int j) => if P i j then .ok (.v (f i j)) M else .stuck
  | _, _ => .stuck
theorem dr_gI {K : PySem.W.Frag} {P : Int → Int → Prop} {f : Int → Int → V} (hf : ∀ i j, okV (f i j) = true) : Dr2 K (rI P f) (gI P f) := by
  intro S as M H σ ρ W x y v u Q st rx ry fin
  unfold gI at fin
  split at fin
  · rename_i i j
    split at fin
    · rename_i hp
      exact ⟨i, j, rx.1, ry.1, hp, fin_ok (d := .v (f i j)) st ⟨rfl, hf i j⟩ fin⟩
    · exact fin.elim
  · exact fin.elim
theorem dr_gI0 {K : PySem.W.Frag} {f : Int → Int → V} (hf : ∀ i j, okV (f i j) = true) : Dr2 K (rI0 f) (gI (fun _ _ => True) f) := by
  intro S as M H σ ρ W x y v u Q st rx ry fin
  obtain ⟨i, j, h1, h2, _, h3⟩ := dr_gI hf S as M H σ ρ W x y v u Q st rx ry fin
  exact ⟨i, j, h1, h2, h3⟩
/-- + of ints, texts, tuples, lists (a new list: a value) -/
def addD (x y : D) (M : Mem) : Out D := match x with
  | .v (.int i) => match y with
    | .v (.int j) => .ok (.v (.int (i + j))) M
    | .v (.bl k) => .ok (.v (.int (i + b2i k))) M
    | _ => .stuck
  | .v (.str a) => match y with
    | .v (.str b) => if a.length + b.length ≤ 16777216 then .ok (.v (.str (a ++ b))) M else .stuck
    | _ => .stuck
  | .tup xs => match y with
    | .tup ys => if xs.length + ys.length ≤ 16777216 then .ok (.tup (xs ++ ys)) M else .stuck
    | _ => .stuck
  | x => match mlOf M x with
    | some xs => match mlOf M y with
      | some ys => if xs.length + ys.length ≤ 16777216 then .ok (.lst (xs ++ ys)) M else .stuck
      | none => .stuck
    | none => .stuck
def gAdd : D → D → C D := addD
theorem strOk_app {a b : Str} (h : PyData.strOk a = true) (h' : PyData.strOk b = true) : PyData.strOk (a ++ b) = true := by
  unfold PyData.strOk at *
  show (a.cps ++ b.cps).all _ = true
  rw [Array.all_append, h, h']; rfl
theorem len_app (a b : Str) : (a ++ b).length = a.length + b.length := by
  show (a.cps ++ b.cps).size = a.cps.size + b.cps.size
  exact Array.size_append
theorem okV_str {s : Str} (h : okV (.str s) = true) : PyData.strOk s = true ∧ s.length ≤ 16777216 := by
  unfold okV at h
  simpa using h
theorem okV_mk {s : Str} (h : PyData.strOk s = true) (h' : s.length ≤ 16777216) : okV (.str s) = true := by
  unfold okV
  simp [h, h']
abbrev rAddAll (K : PySem.W.Frag) : R2 := fun x y H Q => (rI0 (fun i j => .int (i + j))) x y H Q ∨ ((fun x y H Q => ∃ i k, x = .int i ∧ y = .bl k ∧ Q (.int (i + b2i k)) H) : R2) x y H Q ∨
  ((fun x y H Q => ∃ i j, x = .str i ∧ y = .str j ∧ i.length + j.length ≤ sizeLine ∧ Q (.str (i ++ j)) H) : R2) x y H Q ∨ rCatA K x y H Q ∨ rCat x y H Q
theorem op_addAll {X : Cx} : OpR X (binaryOp .Add) (rAddAll X.K) := op_add.or (op_add_ib.or (op_add_str.or (op_catA.or op_cat)))
theorem dr_cat {K : PySem.W.Frag} {S : Hp} {as : List Addr} {M : Mem} {H : Hp} {σ : L2.St} {ρ : Env} {W : WX} {x y : D} {v u : V} {Q : VK} {xs ys : List D} (st : St K S as M H) (rx : Rep K S as x v) (ry : Rep K S as y u)
    (hx : mlOf M x = some xs) (hy : mlOf M y = some ys) (hl : xs.length + ys.length ≤ 16777216) (fin : Fin (RepR K) K S as H W σ ρ (.ok (.lst (xs ++ ys)) M) Q) : rCat v u H Q := by
  obtain ⟨a, vs, h1, h2, h3, h4⟩ := ml_of st rx hx
  obtain ⟨b, us, k1, k2, k3, k4⟩ := ml_of st ry hy
  have l1 := h3.length
  have l2 := k3.length
  have lq := line_eq
  exact ⟨a, b, vs, us, h1, k1, h2, k2, by omega, fun p n => fin_lst st fin (h3.append k3) (by rw [List.length_append]; omega) n⟩
theorem dr_add {K : PySem.W.Frag} : Dr2 K (rAddAll K) gAdd := by
  intro S as M H σ ρ W x y v u Q st rx ry fin
  have lq := line_eq
  unfold gAdd addD at fin
  split at fin
  · rename_i i
    split at fin
    · rename_i j
      exact .inl ⟨i, j, rx.1, ry.1, fin_ok (d := .v (.int (i + j))) st ⟨rfl, rfl⟩ fin⟩
    · rename_i k
      exact .inr (.inl ⟨i, k, rx.1, ry.1, fin_ok (d := .v (.int (i + b2i k))) st ⟨rfl, rfl⟩ fin⟩)
    · exact fin.elim
  · rename_i a
    split at fin
    · rename_i b
      split at fin
      · rename_i hl
        refine .inr (.inr (.inl ⟨a, b, rx.1, ry.1, by omega, fin_ok (d := .v (.str (a ++ b))) st ⟨rfl, okV_mk (strOk_app (okV_str rx.2).1 (okV_str ry.2).1) (by rw [len_app]; exact hl)⟩ fin⟩))
      · exact fin.elim
    · exact fin.elim
  · rename_i xs
    split at fin
    · rename_i ys
      split at fin
      · rename_i hl
        obtain ⟨a, vs, h1, h2, h3, h4⟩ := tup_of st rx
        obtain ⟨b, us, k1, k2, k3, k4⟩ := tup_of st ry
        have l1 := h3.length
        have l2 := k3.length
        refine .inr (.inr (.inr (.inl ⟨a, b, vs, us, h1, k1, h2, k2, by omega, fun e => ?_, fun e1 e2 => ?_, fun e1 e2 p n => ?_⟩)))
        · subst e
          have : xs = [] := List.length_eq_zero_iff.mp (by simpa using l1)
          subst this
          rw [← k1]
          exact fin_ok (d := .tup ys) st ry fin
        · subst e2
          have : ys = [] := List.length_eq_zero_iff.mp (by simpa using l2)
          subst this
          rw [← h1]
          rw [List.append_nil] at fin
          exact fin_ok (d := .tup xs) st rx fin
        · exact fin_tup st fin (h3.append k3) (by rw [List.length_append]; omega) n
      · exact fin.elim
    · exact fin.elim
  · split at fin
    · rename_i xs hx
      split at fin
      · rename_i ys hy
        split at fin
        · rename_i hl
          exact .inr (.inr (.inr (.inr (dr_cat st rx ry hx hy hl fin))))
        · exact fin.elim
      · exact fin.elim
    · exact fin.elim
theorem pd_add {X : Cx} {W : WX} {pos : Pos} {a b : Expr} {fa fb : Env → C D} (ha : PD X W a fa) (hb : PD X W b fb) : PD X W (.BinOp a .Add b pos) (e2 gAdd fa fb) := pd_op op_addAll dr_add ha hb
noncomputable def gSub : D → D → C D := gI (fun _ _ => True) fun i j => .int (i - j)
theorem pd_sub {X : Cx} {W : WX} {pos : Pos} {a b : Expr} {fa fb : Env → C D} (ha : PD X W a fa) (hb : PD X W b fb) : PD X W (.BinOp a .Sub b pos) (e2 gSub fa fb) := pd_op op_sub (dr_gI0 fun _ _ => rfl) ha hb
def PMul (i j : Int) : Prop := CMul i j ∨ CMulW i j
noncomputable def gMul : D → D → C D := gI PMul fun i j => .int (i * j)
theorem op_mulAll {X : Cx} : OpR X (binaryOp .Mult) (rI PMul fun i j => .int (i * j)) := fun pins s σ H x y v u Q I r1 r2 ⟨i, j, h1, h2, h3, h4⟩ =>
  h3.elim (fun h => op_mul pins s σ H x y v u Q I r1 r2 ⟨i, j, h1, h2, h, h4⟩) fun h => op_mulW pins s σ H x y v u Q I r1 r2 ⟨i, j, h1, h2, h, h4⟩
theorem pd_mul {X : Cx} {W : WX} {pos : Pos} {a b : Expr} {fa fb : Env → C D} (ha : PD X W a fa) (hb : PD X W b fb) : PD X W (.BinOp a .Mult b pos) (e2 gMul fa fb) := pd_op op_mulAll (dr_gI fun _ _ => rfl) ha hb
def PDiv (i j : Int) : Prop := CDiv i j ∨ CDivW i j
noncomputable def gDiv : D → D → C D := gI PDiv fun i j => .int (i / j)
theorem op_divAll {X : Cx} : OpR X (binaryOp .FloorDiv) (rI PDiv fun i j => .int (i / j)) := fun pins s σ H x y v u Q I r1 r2 ⟨i, j, h1, h2, h3, h4⟩ =>
  h3.elim (fun h => op_fdiv pins s σ H x y v u Q I r1 r2 ⟨i, j, h1, h2, h, h4⟩) fun h => op_fdivW pins s σ H x y v u Q I r1 r2 ⟨i, j, h1, h2, h, h4⟩
theorem pd_div {X : Cx} {W : WX} {pos : Pos} {a b : Expr} {fa fb : Env → C D} (ha : PD X W a fa) (hb : PD X W b fb) : PD X W (.BinOp a .FloorDiv b pos) (e2 gDiv fa fb) := pd_op op_divAll (dr_gI fun _ _ => rfl) ha hb
noncomputable def gMod : D → D → C D := gI (fun _ j => 0 < j) fun i j => .int (i % j)
theorem pd_mod {X : Cx} {W : WX} {pos : Pos} {a b : Expr} {fa fb : Env → C D} (ha : PD X W a fa) (hb : PD X W b fb) : PD X W (.BinOp a .Mod b pos) (e2 gMod fa fb) := pd_op op_mod (dr_gI fun _ _ => rfl) ha hb
noncomputable def gPow : D → D → C D := gI CPow fun i j => .int (i ^ j.toNat)
theorem pd_pow {X : Cx} {W : WX} {pos : Pos} {a b : Expr} {fa fb : Env → C D} (ha : PD X W a fa) (hb : PD X W b fb) : PD X W (.BinOp a .Pow b pos) (e2 gPow fa fb) := pd_op op_pow (dr_gI fun _ _ => rfl) ha hb
def gNeg : D → C D := fun x M => match x with
  | .v (.int i) => .ok (.v (.int (-i))) M
  | _ => .stuck
theorem pd_neg {X : Cx} {W : WX} {pos : Pos} {a : Expr} {fa : Env → C D} (ha : PD X W a fa) : PD X W (.UnaryOp .USub a pos) (e1 gNeg fa) := pd_un un_neg (fun S as M H σ ρ W x v Q st rx fin => by
  unfold gNeg at fin
  split at fin
  · rename_i i
    exact ⟨i, rx.1, fin_ok (d := .v (.int (-i))) st ⟨rfl, rfl⟩ fin⟩
  · exact fin.elim) ha
/-! comparisons -/
def strLt (a b : Str) : Bool := decide (a.cps.toList < b.cps.toList)
def gLt : D → D → C D := fun x y M => match x, y with
  | .v (.int i), .v (.int j) => .ok (.v (.bl (decide (i < j)))) M
  | .v (.str i), .v (.str j) => .ok (.v (.bl (strLt i j))) M
  | _, _ => .stuck
def gLe : D → D → C D := fun x y M => match x, y with
  | .v (.int i), .v (.int j) => .ok (.v (.bl (decide (i ≤ j)))) M
  | .v (.str i), .v (.str j) => .ok (.v (.bl (!strLt j i))) M
  | _, _ => .stuck
def gGt : D → D → C D := fun x y M => match x, y with
  | .v (.int i), .v (.int j) => .ok (.v (.bl (decide (j < i)))) M
  | .v (.str i), .v (.str j) => .ok (.v (.bl (strLt j i))) M
  | _, _ => .stuck
def gGe : D → D → C D := fun x y M => match x, y with
  | .v (.int i), .v (.int j) => .ok (.v (.bl (decide (j ≤ i)))) M
  | .v (.str i), .v (.str j) => .ok (.v (.bl (!strLt i j))) M
  | _, _ => .stuck
theorem dr_cmp {K : PySem.W.Frag} {f : Int → Int → Bool} {g : Str → Str → Bool} {G : D → D → C D} (hG : ∀ x y M, G x y M = match x, y with
    | .v (.int i), .v (.int j) => Out.ok (.v (.bl (f i j))) M
    | .v (.str i), .v (.str j) => .ok (.v (.bl (g i j))) M
    | _, _ => .stuck) : Dr2 K (fun x y H Q => (rI0 fun i j => .bl (f i j)) x y H Q ∨ ((fun x y H Q => ∃ i j, x = .str i ∧ y = .str j ∧ Q (.bl (g i j)) H) : R2) x y H Q) G := by
  intro S as M H σ ρ W x y v u Q st rx ry fin
  rw [hG] at fin
  split at fin
  · rename_i i j
    exact .inl ⟨i, j, rx.1, ry.1, fin_ok (d := .v (.bl (f i j))) st ⟨rfl, rfl⟩ fin⟩
  · rename_i i j
    exact .inr ⟨i, j, rx.1, ry.1, fin_ok (d := .v (.bl (g i j))) st ⟨rfl, rfl⟩ fin⟩
  · exact fin.elim
section
variable {X : Cx} {W : WX} {pos : Pos} {a b : Expr} {fa fb : Env → C D}
theorem op_ltAll : OpR X (compareOp .Lt) (fun x y H Q => (rI0 fun i j => .bl (decide (i < j))) x y H Q ∨ ((fun x y H Q => ∃ i j, x = .str i ∧ y = .str j ∧ Q (.bl (strLt i j)) H) : R2) x y H Q) := op_lt.or op_lt_str
theorem op_leAll : OpR X (compareOp .LtE) (fun x y H Q => (rI0 fun i j => .bl (decide (i ≤ j))) x y H Q ∨ ((fun x y H Q => ∃ i j, x = .str i ∧ y = .str j ∧ Q (.bl (!strLt j i)) H) : R2) x y H Q) := op_le.or op_le_str
theorem op_gtAll : OpR X (compareOp .Gt) (fun x y H Q => (rI0 fun i j => .bl (decide (j < i))) x y H Q ∨ ((fun x y H Q => ∃ i j, x = .str i ∧ y = .str j ∧ Q (.bl (strLt j i)) H) : R2) x y H Q) := op_gt.or op_gt_str
theorem op_geAll : OpR X (compareOp .GtE) (fun x y H Q => (rI0 fun i j => .bl (decide (j ≤ i))) x y H Q ∨ ((fun x y H Q => ∃ i j, x = .str i ∧ y = .str j ∧ Q (.bl (!strLt i j)) H) : R2) x y H Q) := op_ge.or op_ge_str
theorem dr_lt {K : PySem.W.Frag} : Dr2 K (fun x y H Q => (rI0 fun i j => .bl (decide (i < j))) x y H Q ∨ ((fun x y H Q => ∃ i j, x = .str i ∧ y = .str j ∧ Q (.bl (strLt i j)) H) : R2) x y H Q) gLt := dr_cmp (f := fun i j => decide (i < j)) (g := strLt) fun _ _ _ => rfl
theorem dr_le {K : PySem.W.Frag} : Dr2 K (fun x y H Q => (rI0 fun i j => .bl (decide (i ≤ j))) x y H Q ∨ ((fun x y H Q => ∃ i j, x = .str i ∧ y = .str j ∧ Q (.bl (!strLt j i)) H) : R2) x y H Q) gLe := dr_cmp (f := fun i j => decide (i ≤ j)) (g := fun i j => !strLt j i) fun _ _ _ => rfl
theorem dr_gt {K : PySem.W.Frag} : Dr2 K (fun x y H Q => (rI0 fun i j => .bl (decide (j < i))) x y H Q ∨ ((fun x y H Q => ∃ i j, x = .str i ∧ y = .str j ∧ Q (.bl (strLt j i)) H) : R2) x y H Q) gGt := dr_cmp (f := fun i j => decide (j < i)) (g := fun i j => strLt j i) fun _ _ _ => rfl
theorem dr_ge {K : PySem.W.Frag} : Dr2 K (fun x y H Q => (rI0 fun i j => .bl (decide (j ≤ i))) x y H Q ∨ ((fun x y H Q => ∃ i j, x = .str i ∧ y = .str j ∧ Q (.bl (!strLt i j)) H) : R2) x y H Q) gGe := dr_cmp (f := fun i j => decide (j ≤ i)) (g := fun i j => !strLt i j) fun _ _ _ => rfl
theorem pd_lt (ha : PD X W a fa) (hb : PD X W b fb) : PD X W (.Compare a [.Lt] [b] pos) (e2 gLt fa fb) := pd_cmp op_ltAll dr_lt ha hb
theorem pd_le (ha : PD X W a fa) (hb : PD X W b fb) : PD X W (.Compare a [.LtE] [b] pos) (e2 gLe fa fb) := pd_cmp op_leAll dr_le ha hb
theorem pd_gt (ha : PD X W a fa) (hb : PD X W b fb) : PD X W (.Compare a [.Gt] [b] pos) (e2 gGt fa fb) := pd_cmp op_gtAll dr_gt ha hb
theorem pd_ge (ha : PD X W a fa) (hb : PD X W b fb) : PD X W (.Compare a [.GtE] [b] pos) (e2 gGe fa fb) := pd_cmp op_geAll dr_ge ha hb
end
end DL
set_option Elab.async false
set_option maxRecDepth 100000
set_option maxHeartbeats 2000000
namespace DL
open PySem PySem.Spec PyProof.Rows L2

/-! ### == of data -/
mutual
def plain : D → Bool
  | .v x => flatV x
  | .tup ds => plains ds
  | .lst ds => plains ds
  | .ro ds => plains ds
  | _ => false
def plains : List D → Bool
  | [] => true
  | d :: ds => plain d && plains ds
end
def pyV : V → PyData
  | .non => .none
  | .bl b => .bool b
  | .int i => .int i
  | .str s => .str s
  | _ => .none
mutual
def toPy : D → PyData
  | .v x => pyV x
  | .tup ds => .tuple (toPys ds)
  | .lst ds => .list (toPys ds)
  | .ro ds => .list (toPys ds)
  | _ => .none
def toPys : List D → List PyData
  | [] => []
  | d :: ds => toPy d :: toPys ds
end
mutual
def dep : D → Nat
  | .v _ => 0
  | .tup ds => deps ds + 1
  | .lst ds => deps ds + 1
  | .ro ds => deps ds + 1
  | _ => 0
def deps : List D → Nat
  | [] => 0
  | d :: ds => max (dep d) (deps ds)
end
def deq (x y : D) : Bool := PyData.eqv (toPy x) (toPy y)
def resM (M : Mem) : D → D
  | .h k => match M[k]? with
    | some c => c
    | none => .h k
  | d => d
theorem pyV_can {x : V} (h : okV x = true) : (pyV x).canLay0 = true := by
  cases x with
  | str s => unfold pyV PyData.canLay0; exact (okV_str h).1
  | _ => first | (unfold pyV; simp [PyData.canLay0])
theorem pyV_dep (x : V) : (pyV x).depth = 0 := by
  cases x <;> simp [pyV, PyData.depth]
section
variable {K : PySem.W.Frag} {W : WX} {S : Hp} {as : List Addr} {M : Mem} {H : Hp} {σ : L2.St} {ρ : Env} {Q : VK} {p : Addr}
mutual
theorem Rep.dp (e : Same S H) : ∀ (d : D) (v : V), Rep K S as d v → plain d = true → Dp K H v (toPy d) ∧ (toPy d).canLay0 = true ∧ (toPy d).depth = dep d
  | .v x, v, r, h => by
    obtain ⟨r1, r2⟩ := r
    subst r1
    refine ⟨?_, by unfold toPy; exact pyV_can r2, by unfold toPy dep; exact pyV_dep _⟩
    unfold plain at h
    cases v with
    | non => exact .non
    | bl b => exact .bl b
    | int i => exact .int i
    | str s => exact .str s
    | _ => cases h
  | .tup ds, v, r, h => by
    obtain ⟨a, vs, h1, h2, h3, h4⟩ := r
    subst h1
    obtain ⟨q1, q2, q3⟩ := Reps.dp e ds vs h3 (by unfold plain at h; exact h)
    unfold toPy
    exact ⟨.tup (Evl.ex_t e h2) q1, by simp [PyData.canLay0, q2], by simp [PyData.depth, q3, dep]⟩
  | .lst ds, v, r, h => by
    obtain ⟨a, vs, h1, h2, h3, h4⟩ := r
    subst h1
    obtain ⟨q1, q2, q3⟩ := Reps.dp e ds vs h3 (by unfold plain at h; exact h)
    unfold toPy
    exact ⟨.lst (SqL.of (e _ _ h2)) q1, by simp [PyData.canLay0, q2], by simp [PyData.depth, q3, dep]⟩
  | .ro ds, v, r, h => by
    obtain ⟨a, vs, h1, h2, h3, h4⟩ := r
    subst h1
    obtain ⟨q1, q2, q3⟩ := Reps.dp e ds vs h3 (by unfold plain at h; exact h)
    unfold toPy
    exact ⟨.lst (Evl.ex_l e h2) q1, by simp [PyData.canLay0, q2], by simp [PyData.depth, q3, dep]⟩
  | .h k, v, r, h => by simp [plain] at h
  | .ins _ _ _, v, r, h => by simp [plain] at h
  | .dK _ _, v, r, h => by simp [plain] at h
  | .dT _ _, v, r, h => by simp [plain] at h
theorem Reps.dp (e : Same S H) : ∀ (ds : List D) (vs : List V), Reps K S as ds vs → plains ds = true → DpAll K H vs (toPys ds) ∧ PyData.canLayAll0 (toPys ds) = true ∧ PyData.depthAll (toPys ds) = deps ds
  | [], vs, r, h => by
    have r : vs = [] := r
    subst r
    unfold toPys
    exact ⟨.nil, by simp [PyData.canLayAll0], by simp [PyData.depthAll, deps]⟩
  | d :: ds, vs, r, h => by
    obtain ⟨v, r', h1, h2, h3⟩ := r
    subst h1
    unfold plains at h
    rw [Bool.and_eq_true] at h
    obtain ⟨a1, a2, a3⟩ := Rep.dp e d v h2 h.1
    obtain ⟨b1, b2, b3⟩ := Reps.dp e ds r' h3 h.2
    unfold toPys
    exact ⟨.cons a1 b1, by simp [PyData.canLayAll0, a2, b2], by simp [PyData.depthAll, a3, b3, deps]⟩
end
theorem res_dp {d : D} {v : V} (st : St K S as M H) (r : Rep K S as d v) (h : plain (resM M d) = true) : Dp K H v (toPy (resM M d)) ∧ (toPy (resM M d)).canLay0 = true ∧ (toPy (resM M d)).depth = dep (resM M d) := by
  cases d with
  | h k =>
    obtain ⟨a, h1, h2⟩ := r
    subst h2
    unfold resM at h ⊢
    cases e : M[k]? with
    | none => simp [e, plain] at h
    | some c =>
      simp only [e] at h ⊢
      obtain ⟨_, ho, eh, ro⟩ := st.cell k c a e h1
      cases c with
      | lst ds =>
        cases ho with
        | lst vs =>
          obtain ⟨q1, q2, q3⟩ := Reps.dp st.ex ds vs ro.1 (by unfold plain at h; exact h)
          unfold toPy
          exact ⟨.lst (SqL.of eh) q1, by simp [PyData.canLay0, q2], by simp [PyData.depth, q3, dep]⟩
        | _ => exact ro.elim
      | tup ds =>
        cases ho with
        | tup vs =>
          obtain ⟨q1, q2, q3⟩ := Reps.dp st.ex ds vs ro.1 (by unfold plain at h; exact h)
          unfold toPy
          exact ⟨.tup (SqT.of eh) q1, by simp [PyData.canLay0, q2], by simp [PyData.depth, q3, dep]⟩
        | _ => exact ro.elim
      | v x => exact ro.elim
      | h j => exact ro.elim
      | ro ds => exact ro.elim
      | _ => simp [plain] at h
  | _ => exact Rep.dp st.ex _ v r h
theorem shaped_of {d : PyData} (h1 : d.canLay0 = true) (h2 : d.depth ≤ 64) : SeqAt.shaped d = true := by
  unfold SeqAt.shaped; simp [h1, h2]
def okEq (d : D) : Bool := plain d && decide (dep d ≤ 64)
theorem okEq_of {d : D} {v : V} (st : St K S as M H) (r : Rep K S as d v) (h : okEq (resM M d) = true) : Dp K H v (toPy (resM M d)) ∧ SeqAt.shaped (toPy (resM M d)) = true := by
  unfold okEq at h
  rw [Bool.and_eq_true, decide_eq_true_iff] at h
  obtain ⟨a, b, c⟩ := res_dp st r h.1
  exact ⟨a, shaped_of b (by rw [c]; exact h.2)⟩
def gEq : D → D → C D := fun x y M => if (okEq (resM M x) && okEq (resM M y)) = true then .ok (.v (.bl (deq (resM M x) (resM M y)))) M else .stuck
def gNe : D → D → C D := fun x y M => if (okEq (resM M x) && okEq (resM M y)) = true then .ok (.v (.bl (!deq (resM M x) (resM M y)))) M else .stuck
theorem dr_eq : Dr2 K (rEqD K) gEq := by
  intro S as M H σ ρ W x y v u Q st rx ry fin
  unfold gEq at fin
  split at fin
  · rename_i h
    rw [Bool.and_eq_true] at h
    obtain ⟨a1, a2⟩ := okEq_of st rx h.1
    obtain ⟨b1, b2⟩ := okEq_of st ry h.2
    exact ⟨_, _, a1, b1, a2, b2, fin_ok (d := .v (.bl _)) st ⟨rfl, rfl⟩ fin⟩
  · exact fin.elim
theorem dr_ne : Dr2 K (rNeD K) gNe := by
  intro S as M H σ ρ W x y v u Q st rx ry fin
  unfold gNe at fin
  split at fin
  · rename_i h
    rw [Bool.and_eq_true] at h
    obtain ⟨a1, a2⟩ := okEq_of st rx h.1
    obtain ⟨b1, b2⟩ := okEq_of st ry h.2
    exact ⟨_, _, a1, b1, a2, b2, fin_ok (d := .v (.bl _)) st ⟨rfl, rfl⟩ fin⟩
  · exact fin.elim
end
section
variable {X : Cx} {W : WX} {pos : Pos} {a b : Expr} {fa fb : Env → C D}
theorem pd_eq (hu : X.A.units + 65 < cLine) (ha : PD X W a fa) (hb : PD X W b fb) : PD X W (.Compare a [.Eq] [b] pos) (e2 gEq fa fb) := pd_cmp (op_eqD (by omega)) dr_eq ha hb
theorem pd_ne (hu : X.A.units + 65 < cLine) (ha : PD X W a fa) (hb : PD X W b fb) : PD X W (.Compare a [.NotEq] [b] pos) (e2 gNe fa fb) := pd_cmp (op_neD (by omega)) dr_ne ha hb
/-- is None -/
def isNon : D → Bool
  | .v .non => true
  | _ => false
def gIsN : D → C D := fun x M => .ok (.v (.bl (isNon x))) M
def gNotN : D → C D := fun x M => .ok (.v (.bl (!isNon x))) M
theorem rep_non {K : PySem.W.Frag} {S : Hp} {as : List Addr} : ∀ {d : D} {v : V}, Rep K S as d v → decide (v = .non) = isNon d := fun {d v} r => by
  cases d with
  | v x =>
    obtain ⟨r1, _⟩ := r
    subst r1
    cases v <;> rfl
  | h k => obtain ⟨_, _, r1⟩ := r; subst r1; rfl
  | tup _ => obtain ⟨_, _, r1, _⟩ := r; subst r1; rfl
  | lst _ => obtain ⟨_, _, r1, _⟩ := r; subst r1; rfl
  | ro _ => obtain ⟨_, _, r1, _⟩ := r; subst r1; rfl
  | ins _ _ _ => obtain ⟨_, _, _, r1, _⟩ := r; subst r1; rfl
  | dK _ _ => obtain ⟨_, _, r1, _⟩ := r; subst r1; rfl
  | dT _ _ => obtain ⟨_, _, r1, _⟩ := r; subst r1; rfl
theorem pd_isN {j pos'} (ha : PD X W a fa) : PD X W (.Compare a [.Is] [.Constant .none j pos'] pos) (e1 gIsN fa) := (pe_cmp (pc_isN ha) (by first | rfl | exact nobehind _ (by decide) (by decide))).up fun σ H Q h => by
  obtain ⟨S, as, M, ρ, st, env, fin⟩ := h
  refine ⟨S, as, M, ρ, st, env, Fin.bind (g := gIsN) fin env fun S1 as1 M1 x v H1 e1 st1 env1 rx fin1 => ?_⟩
  rw [rep_non rx]
  exact fin_ok (d := .v (.bl _)) st1 ⟨rfl, rfl⟩ fin1
theorem pd_notN {j pos'} (ha : PD X W a fa) : PD X W (.Compare a [.IsNot] [.Constant .none j pos'] pos) (e1 gNotN fa) := (pe_cmp (pc_notN ha) (by first | rfl | exact nobehind _ (by decide) (by decide))).up fun σ H Q h => by
  obtain ⟨S, as, M, ρ, st, env, fin⟩ := h
  refine ⟨S, as, M, ρ, st, env, Fin.bind (g := gNotN) fin env fun S1 as1 M1 x v H1 e1 st1 env1 rx fin1 => ?_⟩
  rw [rep_non rx]
  exact fin_ok (d := .v (.bl _)) st1 ⟨rfl, rfl⟩ fin1
end

/-! ### in, not in: texts, lists, tuples (dicts: below) -/
def inStr (a b : Str) : Bool := !(Builtin.Str.occurrences b a 0 b.length 1).isEmpty
def flatD : D → Bool
  | .v x => flatV x
  | _ => false
def anyEq (x : D) (ds : List D) : Bool := ds.any fun z => deq z x
/-- the answer of in, if it is known -/
def inD (M : Mem) (x y : D) : Option Bool := match y with
  | .v (.str b) => match x with
    | .v (.str a) => some (inStr a b)
    | _ => none
  | .tup ds => if (flatD x && ds.all flatD) = true then some (anyEq x ds) else none
  | y => match lstOf M y with
    | some ds => if (okEq (resM M x) && okEq (.lst ds)) = true then some (anyEq (resM M x) ds) else none
    | none => none
def gIn : D → D → C D := fun x y M => match inD M x y with
  | some b => .ok (.v (.bl b)) M
  | none => .stuck
def gNotIn : D → D → C D := fun x y M => match inD M x y with
  | some b => .ok (.v (.bl (!b))) M
  | none => .stuck
theorem eqV_flat {x y : V} (hx : flatV x = true) (hy : flatV y = true) : eqV y x = PyData.eqv (pyV y) (pyV x) := by
  cases x <;> cases hx <;> cases y <;> cases hy <;> simp [eqV, pyV, PyData.eqv]
section
variable {K : PySem.W.Frag} {W : WX} {S : Hp} {as : List Addr} {M : Mem} {H : Hp} {σ : L2.St} {ρ : Env} {Q : VK} {p : Addr}
theorem flat_in {x : V} (hx : flatV x = true) : ∀ {ds : List D} {vs : List V}, Reps K S as ds vs → ds.all flatD = true → vs.all flatV = true ∧ inV x vs = anyEq (.v x) ds
  | [], vs, r, h => by
    have r : vs = [] := r
    subst r
    exact ⟨rfl, rfl⟩
  | d :: ds, vs, r, h => by
    obtain ⟨v, r', h1, h2, h3⟩ := r
    subst h1
    rw [List.all_cons, Bool.and_eq_true] at h
    obtain ⟨q1, q2⟩ := flat_in hx h3 h.2
    cases d with
    | v z =>
      obtain ⟨h4, _⟩ := h2
      subst h4
      have hz : flatV v = true := h.1
      refine ⟨by rw [List.all_cons, hz, q1]; rfl, ?_⟩
      unfold inV anyEq at *
      rw [List.any_cons, List.any_cons, q2, eqV_flat hx hz]
      unfold deq toPy
      rfl
    | _ => exact absurd h.1 (by simp [flatD])
theorem dp_any : ∀ {ds : List D} {x : D}, (toPys ds).any (fun z => PyData.eqv z (toPy x)) = anyEq x ds
  | [], x => by unfold toPys anyEq; rfl
  | d :: ds, x => by
    have ih := dp_any (ds := ds) (x := x)
    show ((toPy d :: toPys ds).any fun z => PyData.eqv z (toPy x)) = anyEq x (d :: ds)
    rw [List.any_cons, ih]; rfl
theorem okEq_lst {y : D} {u : V} {ds : List D} (st : St K S as M H) (ry : Rep K S as y u) (hy : lstOf M y = some ds) (h : okEq (.lst ds) = true) : Dp K H u (.list (toPys ds)) ∧ SeqAt.shaped (.list (toPys ds)) = true := by
  obtain ⟨a, vs, h1, h2, h3, h4⟩ := lst_of st ry hy
  unfold okEq at h
  rw [Bool.and_eq_true, decide_eq_true_iff] at h
  unfold plain dep at h
  obtain ⟨q1, q2, q3⟩ := Reps.dp st.ex ds vs h3 h.1
  subst h1
  exact ⟨.lst h2 q1, shaped_of (by simp [PyData.canLay0, q2]) (by simp [PyData.depth, q3]; omega)⟩
abbrev rInAll (K : PySem.W.Frag) : R2 := fun x y H Q => ((fun x y H Q => ∃ i j, x = .str i ∧ y = .str j ∧ Q (.bl (!(Builtin.Str.occurrences j i 0 j.length 1).isEmpty)) H) : R2) x y H Q ∨ rIn K false x y H Q ∨ rInD K x y H Q
abbrev rNotInAll (K : PySem.W.Frag) : R2 := fun x y H Q => ((fun x y H Q => ∃ i j, x = .str i ∧ y = .str j ∧ Q (.bl (!(!(Builtin.Str.occurrences j i 0 j.length 1).isEmpty))) H) : R2) x y H Q ∨ rIn K true x y H Q ∨ rNotInD K x y H Q
theorem dr_in : Dr2 K (rInAll K) gIn := by
  intro S as M H σ ρ W x y v u Q st rx ry fin
  unfold gIn inD at fin
  split at fin
  · rename_i b he
    split at he
    · rename_i j
      split at he
      · rename_i i
        cases he
        exact .inl ⟨i, j, rx.1, ry.1, fin_ok (d := .v (.bl _)) st ⟨rfl, rfl⟩ fin⟩
      · cases he
    · rename_i ds
      split at he
      · rename_i h
        cases he
        rw [Bool.and_eq_true] at h
        obtain ⟨a, vs, h1, h2, h3, h4⟩ := tup_of st ry
        cases x with
        | v z =>
          obtain ⟨r1, r2⟩ := rx
          subst r1
          have hz : flatV v = true := h.1
          obtain ⟨q1, q2⟩ := flat_in hz h3 h.2
          refine .inr (.inl ⟨a, vs, h1, .inr h2, hz, q1, ?_⟩)
          rw [if_neg Bool.false_ne_true, q2]
          exact fin_ok (d := .v (.bl _)) st ⟨rfl, rfl⟩ fin
        | _ => exact absurd h.1 (by simp [flatD])
      · cases he
    · split at he
      · rename_i ds hl
        split at he
        · rename_i h
          cases he
          rw [Bool.and_eq_true] at h
          obtain ⟨a1, a2⟩ := okEq_of st rx h.1
          obtain ⟨b1, b2⟩ := okEq_lst st ry hl h.2
          refine .inr (.inr ⟨_, _, a1, b1, a2, b2, ?_⟩)
          rw [dp_any]
          exact fin_ok (d := .v (.bl _)) st ⟨rfl, rfl⟩ fin
        · cases he
      · cases he
  · exact fin.elim
theorem dr_notIn : Dr2 K (rNotInAll K) gNotIn := by
  intro S as M H σ ρ W x y v u Q st rx ry fin
  unfold gNotIn inD at fin
  split at fin
  · rename_i b he
    split at he
    · rename_i j
      split at he
      · rename_i i
        cases he
        exact .inl ⟨i, j, rx.1, ry.1, fin_ok (d := .v (.bl _)) st ⟨rfl, rfl⟩ fin⟩
      · cases he
    · rename_i ds
      split at he
      · rename_i h
        cases he
        rw [Bool.and_eq_true] at h
        obtain ⟨a, vs, h1, h2, h3, h4⟩ := tup_of st ry
        cases x with
        | v z =>
          obtain ⟨r1, r2⟩ := rx
          subst r1
          have hz : flatV v = true := h.1
          obtain ⟨q1, q2⟩ := flat_in hz h3 h.2
          refine .inr (.inl ⟨a, vs, h1, .inr h2, hz, q1, ?_⟩)
          rw [if_pos rfl, q2]
          exact fin_ok (d := .v (.bl _)) st ⟨rfl, rfl⟩ fin
        | _ => exact absurd h.1 (by simp [flatD])
      · cases he
    · split at he
      · rename_i ds hl
        split at he
        · rename_i h
          cases he
          rw [Bool.and_eq_true] at h
          obtain ⟨a1, a2⟩ := okEq_of st rx h.1
          obtain ⟨b1, b2⟩ := okEq_lst st ry hl h.2
          refine .inr (.inr ⟨_, _, a1, b1, a2, b2, ?_⟩)
          rw [dp_any]
          exact fin_ok (d := .v (.bl _)) st ⟨rfl, rfl⟩ fin
        · cases he
      · cases he
  · exact fin.elim
end
section
variable {X : Cx} {W : WX} {pos : Pos} {a b : Expr} {fa fb : Env → C D}
theorem op_inAll (hu : X.A.units + 65 < cLine) : OpR X (compareOp .In) (rInAll X.K) := op_in_str.or (op_in_seq.or (op_inD hu))
theorem op_notInAll (hu : X.A.units + 65 < cLine) : OpR X (compareOp .NotIn) (rNotInAll X.K) := op_notin_str.or (op_notIn_seq.or (op_notInD hu))
theorem pd_in (hu : X.A.units + 65 < cLine) (ha : PD X W a fa) (hb : PD X W b fb) (hm : behindInMarks .In b = false := by rfl) : PD X W (.Compare a [.In] [b] pos) (e2 gIn fa fb) := pd_cmp (op_inAll hu) dr_in ha hb hm
theorem pd_notIn (hu : X.A.units + 65 < cLine) (ha : PD X W a fa) (hb : PD X W b fb) (hm : behindInMarks .NotIn b = false := by rfl) : PD X W (.Compare a [.NotIn] [b] pos) (e2 gNotIn fa fb) := pd_cmp (op_notInAll hu) dr_notIn ha hb hm
end
end DL
set_option Elab.async false
set_option maxRecDepth 100000
set_option maxHeartbeats 2000000
namespace DL
open PySem PySem.Spec PyProof.Rows L2

/-! ### subscripts -/
def gIx : D → D → C D := fun x y M => match y with
  | .v (.int i) => match x with
    | .v (.str z) => match atI z.cps.toList i with
      | some c => .ok (.v (.str ⟨#[c]⟩)) M
      | none => .stuck
    | x => match seqOf M x with
      | some ds => match atI ds i with
        | some d => .ok d M
        | none => .stuck
      | none => .stuck
  | _ => .stuck
section
variable {K : PySem.W.Frag} {W : WX} {S : Hp} {as : List Addr} {M : Mem} {H : Hp} {σ : L2.St} {ρ : Env} {Q : VK} {p : Addr}
theorem Reps.at {ds : List D} {vs : List V} {i : Int} {d : D} (r : Reps K S as ds vs) (h : atI ds i = some d) : ∃ v, atI vs i = some v ∧ Rep K S as d v := by
  unfold atI at *
  rw [← r.length]
  cases e : ixN ds.length i with
  | none => rw [e] at h; cases h
  | some j =>
    rw [e] at h
    exact r.get h
theorem strOk_at {z : Str} {i : Int} {c : Nat} (h : PyData.strOk z = true) (e : atI z.cps.toList i = some c) : okV (.str ⟨#[c]⟩) = true := by
  obtain ⟨j, _, h2, _⟩ := atI_get e
  unfold PyData.strOk at h
  rw [Array.all_eq_true_iff_forall_mem] at h
  have := h c (by simpa using List.mem_of_getElem? h2)
  exact okV_mk (by unfold PyData.strOk; simpa using this) (by show (#[c] : Array Nat).size ≤ 16777216; simp)
theorem dr_ix : Dr2 K (rIx K) gIx := by
  intro S as M H σ ρ W x y v u Q st rx ry fin
  have lq := line_eq
  unfold gIx at fin
  split at fin
  · rename_i i
    split at fin
    · rename_i z
      split at fin
      · rename_i c hc
        have hz := okV_str rx.2
        exact .inr (.inr ⟨z, i, c, rx.1, ry.1, by omega, hc, fin_ok (d := .v (.str ⟨#[c]⟩)) st ⟨rfl, strOk_at hz.1 hc⟩ fin⟩)
      · exact fin.elim
    · split at fin
      · rename_i ds hd
        split at fin
        · rename_i d hi
          obtain ⟨a, vs, h1, h2, h3, h4⟩ := seq_of st rx hd
          obtain ⟨w', k1, k2⟩ := h3.at hi
          rcases h2 with h2 | h2
          · exact .inl ⟨a, vs, i, w', h1, ry.1, h2, k1, fin_ok st k2 fin⟩
          · exact .inr (.inl ⟨a, vs, i, w', h1, ry.1, h2, k1, fin_ok st k2 fin⟩)
        · exact fin.elim
      · exact fin.elim
  · exact fin.elim
end
/-! ### slices -/
def cutG {α : Type} (xs : List α) (lo hi : Option Int) : List α := (xs.drop (HT.sIx xs.length 0 lo)).take (HT.sIx xs.length xs.length hi - HT.sIx xs.length 0 lo)
abbrev tDo (K : PySem.W.Frag) (W : WX) (f : Env → C (Option Int)) : TO := tG EqR K W f
abbrev PDo (X : Cx) (W : WX) (e : Option Expr) (f : Env → C (Option Int)) : Prop := PO X e (tDo X.K W f)
def oNo : Env → C (Option Int) := fun _ => C.ret none
def oYes (fa : Env → C D) : Env → C (Option Int) := fun ρ => (fa ρ).bind fun x M => match x with
  | .v (.int i) => .ok (some i) M
  | _ => .stuck
theorem _root_.L2.PO.up {X : Cx} {e : Option Expr} {t t' : TO} (h : PO X e t) (i : ∀ σ H Q, t' σ H Q → t σ H Q) : PO X e t' := ⟨fun pins s σ H Q I q => h.run pins s σ H Q I (i σ H Q q)⟩
section
variable {X : Cx} {W : WX} {pos : Pos} {a b e : Expr} {fa fb : Env → C D}
theorem pdo_no : PDo X W none oNo := po_none.up fun σ H Q h => by
  obtain ⟨S, as, M, ρ, st, env, fin⟩ := h
  exact fin S as none H (Ext.refl _ _ _) st rfl
theorem pdo_some (ha : PD X W e fa) : PDo X W (some e) (oYes fa) := (po_some ha).up fun σ H Q h => by
  obtain ⟨S, as, M, ρ, st, env, fin⟩ := h
  refine ⟨S, as, M, ρ, st, env, Fin.bind (R' := EqR) (g := fun x M => match x with
    | .v (.int i) => Out.ok (some i) M
    | _ => .stuck) fin env fun S1 as1 M1 x v H1 e1 st1 env1 rx fin1 => ?_⟩
  split at fin1
  · rename_i i
    exact ⟨i, rx.1, fin1 S1 as1 (some i) H1 (Ext.refl _ _ _) st1 rfl⟩
  · exact fin1.elim
/-- a slice: of a list a new value; of a tuple not the whole; of a text -/
def gSl (x : D) (lo hi : Option Int) : C D := fun M => match x with
  | .v (.str z) => .ok (.v (.str (cutS z lo hi))) M
  | .tup ds => if HT.sIx ds.length 0 lo = 0 ∧ HT.sIx ds.length ds.length hi = ds.length then .stuck else .ok (.tup (cutG ds lo hi)) M
  | x => match lstOf M x with
    | some ds => .ok (.lst (cutG ds lo hi)) M
    | none => .stuck
theorem cutG_len {α : Type} (xs : List α) (lo hi : Option Int) : (cutG xs lo hi).length ≤ xs.length := by
  unfold cutG
  rw [List.length_take, List.length_drop]
  omega
theorem Reps.cut {K : PySem.W.Frag} {S : Hp} {as : List Addr} {ds : List D} {vs : List V} (r : Reps K S as ds vs) (lo hi : Option Int) : Reps K S as (cutG ds lo hi) (cutV vs lo hi) := by
  unfold cutG cutV
  rw [← r.length]
  exact (r.drop _).take _
theorem okV_cut {z : Str} (h : okV (.str z) = true) (lo hi : Option Int) : okV (.str (cutS z lo hi)) = true := by
  obtain ⟨h1, h2⟩ := okV_str h
  refine okV_mk ?_ (Nat.le_trans (cutS_length z lo hi) h2)
  unfold PyData.strOk at *
  rw [Array.all_eq_true_iff_forall_mem] at *
  intro c hc
  refine h1 c ?_
  unfold cutS at hc
  have := List.mem_of_mem_drop (List.mem_of_mem_take (by simpa using hc))
  simpa using this
def eSl (fe : Env → C D) (fl fh : Env → C (Option Int)) : Env → C D := fun ρ => (fe ρ).bind fun x => (fl ρ).bind fun lo => (fh ρ).bind fun hi => gSl x lo hi
theorem pd_slice {fl fh : Env → C (Option Int)} {lo hi : Option Expr} {p2 : Pos} (he : PD X W e fa) (hl : PDo X W lo fl) (hh : PDo X W hi fh) : PD X W (.Subscript e (.Slice lo hi none p2) pos) (eSl fa fl fh) :=
  (pe_slice (sl_list.or (sl_tup.or sl_str)) he hl hh).up fun σ H Q h => by
    have lq := line_eq
    obtain ⟨S, as, M, ρ, st, env, fin⟩ := h
    refine ⟨S, as, M, ρ, st, env, Fin.bind (g := fun x => (fl ρ).bind fun lo => (fh ρ).bind fun hi => gSl x lo hi) fin env fun S1 as1 M1 x v H1 e1 st1 env1 rx fin1 => ?_⟩
    refine ⟨S1, as1, M1, ρ, st1, env1, Fin.bind (g := fun lo => (fh ρ).bind fun hi => gSl x lo hi) fin1 env1 fun S2 as2 M2 l l' H2 e2 st2 env2 rl fin2 => ?_⟩
    refine ⟨S2, as2, M2, ρ, st2, env2, Fin.bind (g := fun hi => gSl x l hi) fin2 env2 fun S3 as3 M3 u u' H3 e3 st3 env3 ru fin3 => ?_⟩
    have rl : l = l' := rl
    have ru : u = u' := ru
    subst rl ru
    have rx3 := Rep.mono (e2.trans e3).same (e2.trans e3).pre x v rx
    unfold gSl at fin3
    split at fin3
    · rename_i z
      exact .inr (.inr ⟨z, rx3.1, by have := (okV_str rx3.2).2; omega, fin_ok (d := .v (.str _)) st3 ⟨rfl, okV_cut rx3.2 l u⟩ fin3⟩)
    · rename_i ds
      split at fin3
      · exact fin3.elim
      · rename_i hn
        obtain ⟨a, vs, h1, h2, h3, h4⟩ := tup_of st3 rx3
        refine .inr (.inl ⟨a, vs, h1, h2, by rw [← h3.length]; exact hn, fun p n => fin_tup st3 fin3 (h3.cut l u) (Nat.le_trans (cutG_len _ _ _) h4) n⟩)
    · split at fin3
      · rename_i ds hd
        obtain ⟨a, vs, h1, h2, h3, h4⟩ := lst_of st3 rx3 hd
        exact .inl ⟨a, vs, h1, h2, fun p n => fin_lst st3 fin3 (h3.cut l u) (Nat.le_trans (cutG_len _ _ _) h4) n⟩
      · exact fin3.elim
/-! ### truth, tests -/
def truD (M : Mem) : D → Option Bool
  | .v .non => some false
  | .v (.bl b) => some b
  | .v (.int i) => some (i != 0)
  | .v (.str y) => some ((y.length : Int) != 0)
  | .tup ds => some (!ds.isEmpty)
  | .lst ds => some (!ds.isEmpty)
  | .ro ds => some (!ds.isEmpty)
  | .dK ks _ => some (!ks.isEmpty)
  | .h k => match M[k]? with
    | some (.lst ds) => some (!ds.isEmpty)
    | some (.dK ks _) => some (!ks.isEmpty)
    | _ => none
  | _ => none
def gTru : D → C Bool := fun x M => match truD M x with
  | some b => .ok b M
  | none => .stuck
def eT (fa : Env → C D) : Env → C Bool := fun ρ => (fa ρ).bind gTru
def asB : D → C Bool := fun x M => match x with
  | .v (.bl b) => .ok b M
  | _ => .stuck
def eB (fa : Env → C D) : Env → C Bool := fun ρ => (fa ρ).bind asB
theorem Reps.empty {K : PySem.W.Frag} {S : Hp} {as : List Addr} {ds : List D} {vs : List V} (r : Reps K S as ds vs) : (!ds.isEmpty) = !vs.isEmpty := by
  have := r.length
  cases ds <;> cases vs <;> first | rfl | (simp at this)
theorem tru_of {K : PySem.W.Frag} {S : Hp} {as : List Addr} {M : Mem} {H : Hp} {d : D} {v : V} {b : Bool} (st : St K S as M H) (r : Rep K S as d v) (h : truD M d = some b) : TruV K v H b := by
  have lq := line_eq
  cases d with
  | v x =>
    obtain ⟨r1, r2⟩ := r
    subst r1
    cases v with
    | non => cases h; rfl
    | bl b => cases h; rfl
    | int i => cases h; rfl
    | str s => cases h; exact ⟨by have := (okV_str r2).2; omega, rfl⟩
    | _ => cases h
  | tup ds =>
    cases h
    obtain ⟨a, vs, h1, h2, h3, h4⟩ := tup_of st r
    subst h1
    exact .inr (.inl ⟨vs, h2, h3.empty⟩)
  | lst ds =>
    cases h
    obtain ⟨a, vs, h1, h2, h3, h4⟩ := lst_of st r rfl
    subst h1
    exact .inl ⟨vs, h2, h3.empty⟩
  | ro ds =>
    cases h
    obtain ⟨a, vs, h1, h2, h3, h4⟩ := lst_of st r rfl
    subst h1
    exact .inl ⟨vs, h2, h3.empty⟩
  | h k =>
    obtain ⟨a, h1, h2⟩ := r
    subst h2
    unfold truD at h
    cases e : M[k]? with
    | none => simp [e] at h
    | some c =>
      obtain ⟨_, ho, eh, ro⟩ := st.cell k c a e h1
      cases c with
      | lst ds =>
        simp only [e] at h
        have h := (Option.some.inj h).symm
        subst h
        cases ho with
        | lst vs => exact .inl ⟨vs, SqL.of eh, by rw [ro.1.empty]⟩
        | _ => exact ro.elim
      | dK ks ds =>
        simp only [e] at h
        have h := (Option.some.inj h).symm
        subst h
        cases ho with
        | dK kvs =>
          refine .inr (.inr ⟨kvs, eh, ?_⟩)
          rw [← ro.1]
          cases kvs <;> rfl
        | _ => exact ro.elim
      | _ => simp [e] at h
  | dK ks ds =>
    cases h
    obtain ⟨a, kvs, h1, h2, h3, _⟩ := r
    subst h1
    refine .inr (.inr ⟨kvs, st.ex _ _ h2, ?_⟩)
    rw [← h3]
    cases kvs <;> rfl
  | _ => cases h
theorem pdb_tru (ha : PD X W a fa) (he : ∀ whole, isTrue a X.env whole = (do let v ← whole; standAt a.pos; holding [v] (truthy v)) := by exact fun _ => rfl) : PDb X W a (eT fa) := (pt_truth ha he).up fun σ H Q h => by
  obtain ⟨S, as, M, ρ, st, env, fin⟩ := h
  refine ⟨S, as, M, ρ, st, env, Fin.bind (g := gTru) fin env fun S1 as1 M1 x v H1 e1 st1 env1 rx fin1 => ?_⟩
  unfold gTru at fin1
  split at fin1
  · rename_i b hb
    exact ⟨b, tru_of st1 rx hb, fin_okb st1 fin1⟩
  · exact fin1.elim
theorem asB_k {S : Hp} {as : List Addr} {M : Mem} {H : Hp} {σ : L2.St} {ρ : Env} {x : D} {v : V} {Q : Bool → Hp → Prop} (st : St X.K S as M H) (rx : Rep X.K S as x v) (fin : Fin EqR X.K S as H W σ ρ (asB x M) Q) : ∃ k, v = .bl k ∧ Q k H := by
  unfold asB at fin
  split at fin
  · rename_i b
    exact ⟨b, rx.1, fin_okb st fin⟩
  · exact fin.elim
/-- a comparison as a test -/
theorem pdb_cmp {op : CmpOp} {r : R2} {g : D → D → C D} (ho : OpR X (compareOp op) r) (hr : Dr2 X.K r g) (ha : PD X W a fa) (hb : PD X W b fb) (hm : behindInMarks op b = false := by first | exact nomark _ | rfl) : PDb X W (.Compare a [op] [b] pos) (eB (e2 g fa fb)) :=
  (pt_cmpR ho ha hb hm).up fun σ H Q h => by
    obtain ⟨S, as, M, ρ, st, env, fin⟩ := h
    refine t2_of hr ⟨S, as, M, ρ, st, env, ?_⟩
    exact Fin.bind (g := asB) fin env fun S1 as1 M1 x v H1 e1 st1 env1 rx fin1 => asB_k st1 rx fin1
theorem pdb_eq (hu : X.A.units + 65 < cLine) (ha : PD X W a fa) (hb : PD X W b fb) : PDb X W (.Compare a [.Eq] [b] pos) (eB (e2 gEq fa fb)) := pdb_cmp (op_eqD (by omega)) dr_eq ha hb
theorem pdb_ne (hu : X.A.units + 65 < cLine) (ha : PD X W a fa) (hb : PD X W b fb) : PDb X W (.Compare a [.NotEq] [b] pos) (eB (e2 gNe fa fb)) := pdb_cmp (op_neD (by omega)) dr_ne ha hb
theorem pdb_lt (ha : PD X W a fa) (hb : PD X W b fb) : PDb X W (.Compare a [.Lt] [b] pos) (eB (e2 gLt fa fb)) := pdb_cmp op_ltAll dr_lt ha hb
theorem pdb_le (ha : PD X W a fa) (hb : PD X W b fb) : PDb X W (.Compare a [.LtE] [b] pos) (eB (e2 gLe fa fb)) := pdb_cmp op_leAll dr_le ha hb
theorem pdb_gt (ha : PD X W a fa) (hb : PD X W b fb) : PDb X W (.Compare a [.Gt] [b] pos) (eB (e2 gGt fa fb)) := pdb_cmp op_gtAll dr_gt ha hb
theorem pdb_ge (ha : PD X W a fa) (hb : PD X W b fb) : PDb X W (.Compare a [.GtE] [b] pos) (eB (e2 gGe fa fb)) := pdb_cmp op_geAll dr_ge ha hb
theorem pdb_in (hu : X.A.units + 65 < cLine) (ha : PD X W a fa) (hb : PD X W b fb) (hm : behindInMarks .In b = false := by rfl) : PDb X W (.Compare a [.In] [b] pos) (eB (e2 gIn fa fb)) := pdb_cmp (op_inAll hu) dr_in ha hb hm
theorem pdb_notIn (hu : X.A.units + 65 < cLine) (ha : PD X W a fa) (hb : PD X W b fb) (hm : behindInMarks .NotIn b = false := by rfl) : PDb X W (.Compare a [.NotIn] [b] pos) (eB (e2 gNotIn fa fb)) := pdb_cmp (op_notInAll hu) dr_notIn ha hb hm
def bIsN (fa : Env → C D) : Env → C Bool := fun ρ => (fa ρ).bind fun x => C.ret (isNon x)
def bNotN (fa : Env → C D) : Env → C Bool := fun ρ => (fa ρ).bind fun x => C.ret (!isNon x)
theorem pdb_isN {j pos'} (ha : PD X W a fa) : PDb X W (.Compare a [.Is] [.Constant .none j pos'] pos) (bIsN fa) := (pt_cmp (pc_isN ha) (by first | rfl | exact nobehind _ (by decide) (by decide))).up fun σ H Q h => by
  obtain ⟨S, as, M, ρ, st, env, fin⟩ := h
  refine ⟨S, as, M, ρ, st, env, Fin.bind (g := fun x => C.ret (isNon x)) fin env fun S1 as1 M1 x v H1 e1 st1 env1 rx fin1 => ?_⟩
  rw [rep_non rx]
  exact ⟨_, rfl, fin_okb st1 fin1⟩
theorem pdb_notN {j pos'} (ha : PD X W a fa) : PDb X W (.Compare a [.IsNot] [.Constant .none j pos'] pos) (bNotN fa) := (pt_cmp (pc_notN ha) (by first | rfl | exact nobehind _ (by decide) (by decide))).up fun σ H Q h => by
  obtain ⟨S, as, M, ρ, st, env, fin⟩ := h
  refine ⟨S, as, M, ρ, st, env, Fin.bind (g := fun x => C.ret (!isNon x)) fin env fun S1 as1 M1 x v H1 e1 st1 env1 rx fin1 => ?_⟩
  rw [rep_non rx]
  exact ⟨_, rfl, fin_okb st1 fin1⟩
/-! and, or, not as tests -/
variable {ba bb bc : Env → C Bool} {rest : List Expr}
def bAnd (fa fb : Env → C Bool) : Env → C Bool := fun ρ => (fa ρ).bind fun c => if c = true then fb ρ else C.ret false
def bOr (fa fb : Env → C Bool) : Env → C Bool := fun ρ => (fa ρ).bind fun c => if c = true then C.ret true else fb ρ
def bNot (fa : Env → C Bool) : Env → C Bool := fun ρ => (fa ρ).bind fun c => C.ret (!c)
theorem pdw_and1 (ha : PDb X W a ba) : PDw X W (.BoolOp .And [a] pos) ba := pw_and1 ha
theorem pdw_or1 (ha : PDb X W a ba) : PDw X W (.BoolOp .Or [a] pos) ba := pw_or1 ha
theorem pdw_and (ha : PDb X W a ba) (hb : PDw X W (.BoolOp .And (b :: rest) pos) bb) : PDw X W (.BoolOp .And (a :: b :: rest) pos) (bAnd ba bb) := (pw_and ha hb).up fun σ H Q h => by
  obtain ⟨S, as, M, ρ, st, env, fin⟩ := h
  refine ⟨S, as, M, ρ, st, env, Fin.bind (R := EqR) (g := fun c => if c = true then bb ρ else C.ret false) fin env fun S1 as1 M1 x v H1 e1 st1 env1 rx fin1 => ?_⟩
  have rx : x = v := rx
  subst rx
  cases x with
  | true => rw [if_pos rfl] at fin1 ⊢; exact ⟨S1, as1, M1, ρ, st1, env1, fin1⟩
  | false => rw [if_neg Bool.false_ne_true] at fin1 ⊢; exact fin_okb st1 fin1
theorem pdw_or (ha : PDb X W a ba) (hb : PDw X W (.BoolOp .Or (b :: rest) pos) bb) : PDw X W (.BoolOp .Or (a :: b :: rest) pos) (bOr ba bb) := (pw_or ha hb).up fun σ H Q h => by
  obtain ⟨S, as, M, ρ, st, env, fin⟩ := h
  refine ⟨S, as, M, ρ, st, env, Fin.bind (R := EqR) (g := fun c => if c = true then C.ret true else bb ρ) fin env fun S1 as1 M1 x v H1 e1 st1 env1 rx fin1 => ?_⟩
  have rx : x = v := rx
  subst rx
  cases x with
  | true => rw [if_pos rfl] at fin1 ⊢; exact fin_okb st1 fin1
  | false => rw [if_neg Bool.false_ne_true] at fin1 ⊢; exact ⟨S1, as1, M1, ρ, st1, env1, fin1⟩
theorem pdb_w (h : PDw X W e ba) : PDb X W e ba := h.pt
theorem pdb_not (ha : PDb X W a ba) : PDb X W (.UnaryOp .Not a pos) (bNot ba) := (pt_not ha).up fun σ H Q h => by
  obtain ⟨S, as, M, ρ, st, env, fin⟩ := h
  refine ⟨S, as, M, ρ, st, env, Fin.bind (R := EqR) (g := fun c => C.ret (!c)) fin env fun S1 as1 M1 x v H1 e1 st1 env1 rx fin1 => ?_⟩
  have rx : x = v := rx
  subst rx
  exact fin_okb st1 fin1
/-! .. as values, by truth -/
def eAndV (fa fb : Env → C D) : Env → C D := fun ρ => (fa ρ).bind fun x => (gTru x).bind fun c => if c = true then fb ρ else C.ret x
def eOrV (fa fb : Env → C D) : Env → C D := fun ρ => (fa ρ).bind fun x => (gTru x).bind fun c => if c = true then C.ret x else fb ρ
def eNotV (fa : Env → C D) : Env → C D := fun ρ => (fa ρ).bind fun x => (gTru x).bind fun c => C.ret (.v (.bl (!c)))
theorem tru_bind {α : Type} {S : Hp} {as : List Addr} {M : Mem} {H : Hp} {σ : L2.St} {ρ : Env} {x : D} {v : V} {β : Type} {R : Hp → List Addr → α → β → Prop} {Q : β → Hp → Prop} {g : Bool → C α} (st : St X.K S as M H) (rx : Rep X.K S as x v) (fin : Fin R X.K S as H W σ ρ (((gTru x).bind g) M) Q) :
    ∃ k, TruV X.K v H k ∧ Fin R X.K S as H W σ ρ (g k M) Q := by
  unfold C.bind gTru at fin
  cases e : truD M x with
  | none => simp only [e] at fin; exact fin.elim
  | some k => simp only [e] at fin; exact ⟨k, tru_of st rx e, fin⟩
theorem pd_and1 {op} {fa : Env → C D} (ha : PD X W a fa) : PD X W (.BoolOp op [a] pos) fa := pe_one ha
theorem pd_andV (ha : PD X W a fa) (hb : PD X W (.BoolOp .And (b :: rest) pos) fb) : PD X W (.BoolOp .And (a :: b :: rest) pos) (eAndV fa fb) := (pe_andT ha hb).up fun σ H Q h => by
  obtain ⟨S, as, M, ρ, st, env, fin⟩ := h
  refine ⟨S, as, M, ρ, st, env, Fin.bind (g := fun x => (gTru x).bind fun c => if c = true then fb ρ else C.ret x) fin env fun S1 as1 M1 x v H1 e1 st1 env1 rx fin1 => ?_⟩
  obtain ⟨k, h1, h2⟩ := tru_bind st1 rx fin1
  refine ⟨k, h1, ?_⟩
  cases k with
  | true => rw [if_pos rfl] at h2 ⊢; exact ⟨S1, as1, M1, ρ, st1, env1, h2⟩
  | false => rw [if_neg Bool.false_ne_true] at h2 ⊢; exact fin_ok st1 rx h2
theorem pd_orV (ha : PD X W a fa) (hb : PD X W (.BoolOp .Or (b :: rest) pos) fb) : PD X W (.BoolOp .Or (a :: b :: rest) pos) (eOrV fa fb) := (pe_orT ha hb).up fun σ H Q h => by
  obtain ⟨S, as, M, ρ, st, env, fin⟩ := h
  refine ⟨S, as, M, ρ, st, env, Fin.bind (g := fun x => (gTru x).bind fun c => if c = true then C.ret x else fb ρ) fin env fun S1 as1 M1 x v H1 e1 st1 env1 rx fin1 => ?_⟩
  obtain ⟨k, h1, h2⟩ := tru_bind st1 rx fin1
  refine ⟨k, h1, ?_⟩
  cases k with
  | true => rw [if_pos rfl] at h2 ⊢; exact fin_ok st1 rx h2
  | false => rw [if_neg Bool.false_ne_true] at h2 ⊢; exact ⟨S1, as1, M1, ρ, st1, env1, h2⟩
theorem pd_notV (ha : PD X W a fa) : PD X W (.UnaryOp .Not a pos) (eNotV fa) := (pe_notT ha).up fun σ H Q h => by
  obtain ⟨S, as, M, ρ, st, env, fin⟩ := h
  refine ⟨S, as, M, ρ, st, env, Fin.bind (g := fun x => (gTru x).bind fun c => C.ret (D.v (.bl (!c)))) fin env fun S1 as1 M1 x v H1 e1 st1 env1 rx fin1 => ?_⟩
  obtain ⟨k, h1, h2⟩ := tru_bind st1 rx fin1
  exact ⟨k, h1, fin_ok (d := .v (.bl _)) st1 ⟨rfl, rfl⟩ h2⟩
def eIf (fc : Env → C Bool) (fa fb : Env → C D) : Env → C D := fun ρ => (fc ρ).bind fun c => if c = true then fa ρ else fb ρ
theorem pd_ifExp {c : Expr} (hc : PDb X W c bc) (ha : PD X W a fa) (hb : PD X W b fb) : PD X W (.IfExp c a b pos) (eIf bc fa fb) := (pe_ifExp hc ha hb).up fun σ H Q h => by
  obtain ⟨S, as, M, ρ, st, env, fin⟩ := h
  refine ⟨S, as, M, ρ, st, env, Fin.bind (R := EqR) (g := fun c => if c = true then fa ρ else fb ρ) fin env fun S1 as1 M1 x v H1 e1 st1 env1 rx fin1 => ?_⟩
  have rx : x = v := rx
  subst rx
  cases x with
  | true => rw [if_pos rfl] at fin1 ⊢; exact ⟨S1, as1, M1, ρ, st1, env1, fin1⟩
  | false => rw [if_neg Bool.false_ne_true] at fin1 ⊢; exact ⟨S1, as1, M1, ρ, st1, env1, fin1⟩
theorem asB_bind {α : Type} {S : Hp} {as : List Addr} {M : Mem} {H : Hp} {σ : L2.St} {ρ : Env} {x : D} {v : V} {β : Type} {R : Hp → List Addr → α → β → Prop} {Q : β → Hp → Prop} {g : Bool → C α} (rx : Rep X.K S as x v) (fin : Fin R X.K S as H W σ ρ (((asB x).bind g) M) Q) :
    ∃ k, v = .bl k ∧ Fin R X.K S as H W σ ρ (g k M) Q := by
  cases x with
  | v z =>
    cases z with
    | bl k => exact ⟨k, rx.1, fin⟩
    | _ => exact fin.elim
  | _ => exact fin.elim
/-- a op b op' c -/
def eChain (g g' : D → D → C D) (fa fb fc : Env → C D) : Env → C D := fun ρ => (fa ρ).bind fun x => (fb ρ).bind fun y => (g x y).bind fun z => (asB z).bind fun k => if k = true then (fc ρ).bind fun w => g' y w else C.ret (.v (.bl false))
theorem chain_of {r r' : R2} {g g' : D → D → C D} {fc : Env → C D} {σ : L2.St} {H : Hp} {Q : VK} (hr : Dr2 X.K r g) (hr' : Dr2 X.K r' g') (h : tD X.K W (eChain g g' fa fb fc) σ H Q) : tChain r r' (tD X.K W fa) (tD X.K W fb) (tD X.K W fc) σ H Q := by
  obtain ⟨S, as, M, ρ, st, env, fin⟩ := h
  refine ⟨S, as, M, ρ, st, env, Fin.bind (g := fun x => (fb ρ).bind fun y => (g x y).bind fun z => (asB z).bind fun k => if k = true then (fc ρ).bind fun w => g' y w else C.ret (.v (.bl false))) fin env fun S1 as1 M1 x v H1 e1 st1 env1 rx fin1 => ?_⟩
  refine ⟨S1, as1, M1, ρ, st1, env1, Fin.bind (g := fun y => (g x y).bind fun z => (asB z).bind fun k => if k = true then (fc ρ).bind fun w => g' y w else C.ret (.v (.bl false))) fin1 env1 fun S2 as2 M2 y u H2 e2 st2 env2 ry fin2 => ?_⟩
  refine hr S2 as2 M2 H2 σ ρ W x y v u _ st2 (Rep.mono e2.same e2.pre x v rx) ry ?_
  refine Fin.bind (g := fun z => (asB z).bind fun k => if k = true then (fc ρ).bind fun w => g' y w else C.ret (.v (.bl false))) fin2 env2 fun S3 as3 M3 z z' H3 e3 st3 env3 rz fin3 => ?_
  obtain ⟨k, h1, h2⟩ := asB_bind rz fin3
  refine ⟨k, h1, ?_⟩
  cases k with
  | true =>
    rw [if_pos rfl] at h2 ⊢
    refine ⟨S3, as3, M3, ρ, st3, env3, Fin.bind (g := fun w => g' y w) h2 env3 fun S4 as4 M4 w w' H4 e4 st4 env4 rw4 fin4 => ?_⟩
    exact hr' S4 as4 M4 H4 σ ρ W y w u w' Q st4 (Rep.mono (e3.trans e4).same (e3.trans e4).pre y u ry) rw4 fin4
  | false =>
    rw [if_neg Bool.false_ne_true] at h2 ⊢
    exact fin_ok (d := .v (.bl false)) st3 ⟨rfl, rfl⟩ h2
theorem pd_chain {op op' : CmpOp} {r r' : R2} {g g' : D → D → C D} {c : Expr} {fc : Env → C D} (ho : OpR X (compareOp op) r) (hr : Dr2 X.K r g) (ho' : OpR X (compareOp op') r') (hr' : Dr2 X.K r' g') (ha : PD X W a fa) (hb : PD X W b fb) (hc : PD X W c fc)
    (hm : lastMarks [op, op'] [b, c] = false := by with_unfolding_all rfl) : PD X W (.Compare a [op, op'] [b, c] pos) (eChain g g' fa fb fc) := (pe_chain ho ho' ha hb hc hm).up fun _ _ _ h => chain_of hr hr' h
theorem pdb_chain {op op' : CmpOp} {r r' : R2} {g g' : D → D → C D} {c : Expr} {fc : Env → C D} (ho : OpR X (compareOp op) r) (hr : Dr2 X.K r g) (ho' : OpR X (compareOp op') r') (hr' : Dr2 X.K r' g') (ha : PD X W a fa) (hb : PD X W b fb) (hc : PD X W c fc)
    (hm : lastMarks [op, op'] [b, c] = false := by with_unfolding_all rfl) : PDb X W (.Compare a [op, op'] [b, c] pos) (eB (eChain g g' fa fb fc)) := (pt_chain ho ho' ha hb hc hm).up fun σ H Q h => by
  obtain ⟨S, as, M, ρ, st, env, fin⟩ := h
  refine chain_of (W := W) hr hr' ⟨S, as, M, ρ, st, env, ?_⟩
  exact Fin.bind (g := asB) fin env fun S1 as1 M1 x v H1 e1 st1 env1 rx fin1 => asB_k st1 rx fin1
end
end DL
set_option Elab.async false
set_option maxRecDepth 100000
set_option maxHeartbeats 2000000
namespace DL
open PySem PySem.Spec PyProof.Rows L2

/-! ### statements -/
inductive SOut where
  | nx (ρ : Env) (M : Mem)
  | rt (d : D) (M : Mem)
  | bk (ρ : Env) (M : Mem)
  | ct (ρ : Env) (M : Mem)
  | er (x : Exn) (ρ : Env) (M : Mem)
  | stuck
abbrev Cs := Env → Mem → SOut
def FinS (K : PySem.W.Frag) (S : Hp) (as : List Addr) (H : Hp) (W : WX) (o : SOut) (De : Ends) : Prop := match o with
  | .nx ρ' M' => ∀ S' as' σ' H', Ext S as H S' as' H' → St K S' as' M' H' → EnvOk K S' as' σ' ρ' → De.nx σ' H'
  | .bk ρ' M' => ∀ S' as' σ' H', Ext S as H S' as' H' → St K S' as' M' H' → EnvOk K S' as' σ' ρ' → De.bk σ' H'
  | .ct ρ' M' => ∀ S' as' σ' H', Ext S as H S' as' H' → St K S' as' M' H' → EnvOk K S' as' σ' ρ' → De.ct σ' H'
  | .rt d M' => ∀ S' as' v H', Ext S as H S' as' H' → St K S' as' M' H' → Rep K S' as' d v → De.rt v H'
  | .er x ρ' M' => ∀ S' as' σ' H' dd, Ext S as H S' as' H' → St K S' as' M' H' → EnvOk K S' as' σ' ρ' → ErOk K S' as' H' x dd → W x.cls dd σ' H'
  | .stuck => False
def tS (K : PySem.W.Frag) (W : WX) (f : Cs) : TS := fun De σ H => ∃ S as M ρ, St K S as M H ∧ EnvOk K S as σ ρ ∧ FinS K S as H W (f ρ M) De
abbrev SD (X : Cx) (W : WX) (st : Stmt) (f : Cs) : Prop := PS X st (tS X.K W f)
abbrev SDs (X : Cx) (W : WX) (sts : List Stmt) (f : Cs) : Prop := PSs X sts (tS X.K W f)
def sE {α : Type} (c : C α) (ρ : Env) (g : α → Mem → SOut) : Mem → SOut := fun M => match c M with
  | .ok a M1 => g a M1
  | .er x M1 => .er x ρ M1
  | .stuck => .stuck
section
variable {K : PySem.W.Frag} {W : WX} {S S0 : Hp} {as as0 : List Addr} {M : Mem} {H H0 : Hp} {σ : L2.St} {ρ : Env} {De : Ends} {α β : Type} {R : Hp → List Addr → α → β → Prop}
theorem FinS.pre {o : SOut} (e : Ext S0 as0 H0 S as H) (h : FinS K S0 as0 H0 W o De) : FinS K S as H W o De := by
  cases o with
  | nx ρ' M' => exact fun S' as' σ' H' e' => h S' as' σ' H' (e.trans e')
  | bk ρ' M' => exact fun S' as' σ' H' e' => h S' as' σ' H' (e.trans e')
  | ct ρ' M' => exact fun S' as' σ' H' e' => h S' as' σ' H' (e.trans e')
  | rt d M' => exact fun S' as' v H' e' => h S' as' v H' (e.trans e')
  | er x ρ' M' => exact fun S' as' σ' H' dd e' => h S' as' σ' H' dd (e.trans e')
  | stuck => exact h
theorem FinS.bindE {c : C α} {g : α → Mem → SOut} {Q1 : β → Hp → Prop} (fin : FinS K S as H W (sE c ρ g M) De) (env : EnvOk K S as σ ρ)
    (k : ∀ S' as' M' a b H', Ext S as H S' as' H' → St K S' as' M' H' → EnvOk K S' as' σ ρ → R S' as' a b → FinS K S' as' H' W (g a M') De → Q1 b H') : Fin R K S as H W σ ρ (c M) Q1 := by
  unfold sE at fin
  cases e : c M with
  | ok a M' =>
    simp only [e] at fin
    intro S' as' b H' e' s' r
    exact k S' as' M' a b H' e' s' (env.mono e'.same e'.pre) r (fin.pre e')
  | er x M' =>
    simp only [e] at fin
    intro S' as' H' dd e' s' env' eo
    exact fin S' as' σ H' dd e' s' env' eo
  | stuck =>
    simp only [e] at fin
    exact fin.elim
theorem fin_nx (st : St K S as M H) (env : EnvOk K S as σ ρ) (fin : FinS K S as H W (.nx ρ M) De) : De.nx σ H := fin S as σ H (Ext.refl _ _ _) st env
theorem fin_rt {d : D} {v : V} (st : St K S as M H) (r : Rep K S as d v) (fin : FinS K S as H W (.rt d M) De) : De.rt v H := fin S as v H (Ext.refl _ _ _) st r
end
def sSet (i : Nat) (fe : Env → C D) : Cs := fun ρ => sE (fe ρ) ρ fun d M => .nx (ρ.set i (some d)) M
def sRet (fe : Env → C D) : Cs := fun ρ => sE (fe ρ) ρ fun d M => .rt d M
def sRetN : Cs := fun ρ M => .rt (.v .non) M
def sExpr (fe : Env → C D) : Cs := fun ρ => sE (fe ρ) ρ fun _ M => .nx ρ M
def sIf (fc : Env → C Bool) (f g : Cs) : Cs := fun ρ => sE (fc ρ) ρ fun b M => if b = true then f ρ M else g ρ M
def sSeq (f g : Cs) : Cs := fun ρ M => match f ρ M with
  | .nx ρ1 M1 => g ρ1 M1
  | o => o
def sPass : Cs := fun ρ M => .nx ρ M
def sBreak : Cs := fun ρ M => .bk ρ M
def sCont : Cs := fun ρ M => .ct ρ M
section
variable {X : Cx} {W : WX} {pos : Pos} {a b e : Expr} {es : List Expr} {fa fb : Env → C D} {fs : Env → C (List D)} {f g : Cs} {bc : Env → C Bool} {st : Stmt} {rest A B : List Stmt}
theorem sd_set {i : Nat} {x : Str} {pos' : Pos} (hN : X.N.Nodup) (he : PD X W e fa) (hi : X.N[i]? = some x := by rfl) (hx : Loc X.env.scope x := by first | exact Or.inl rfl | exact Or.inr rfl) (hs : swapsWith e (some (.Name x pos')) pos.line X.env = pure false := by rfl)
    (hf : X.fn x = true ∨ X.env.scope.names.lookup x = some .local := by first | exact .inl rfl | exact .inr rfl) : SD X W (.Assign [.Name x pos'] e pos) (sSet i fa) := (ps_set hN hi hx he hs hf).up fun De σ H h => by
  obtain ⟨S, as, M, ρ, st, env, fin⟩ := h
  exact ⟨S, as, M, ρ, st, env, FinS.bindE (g := fun d M => .nx (ρ.set i (some d)) M) fin env fun S1 as1 M1 d v H1 e1 st1 env1 rx fin1 => fin_nx st1 (env1.set rx) fin1⟩
theorem sd_ret (he : PD X W e fa) : SD X W (.Return (some e) pos) (sRet fa) := (ps_ret he).up fun De σ H h => by
  obtain ⟨S, as, M, ρ, st, env, fin⟩ := h
  exact ⟨S, as, M, ρ, st, env, FinS.bindE (g := fun d M => .rt d M) fin env fun S1 as1 M1 d v H1 e1 st1 env1 rx fin1 => fin_rt st1 rx fin1⟩
theorem sd_retN : SD X W (.Return none pos) sRetN := ps_retN.up fun De σ H h => by
  obtain ⟨S, as, M, ρ, st, env, fin⟩ := h
  exact fin_rt (d := .v .non) st ⟨rfl, rfl⟩ fin
theorem sd_expr (he : PD X W e fa) (hs : swapsWith e none pos.line X.env = pure false := by rfl) : SD X W (.Expr e pos) (sExpr fa) := (ps_expr he hs).up fun De σ H h => by
  obtain ⟨S, as, M, ρ, st, env, fin⟩ := h
  exact ⟨S, as, M, ρ, st, env, FinS.bindE (g := fun d M => .nx ρ M) fin env fun S1 as1 M1 d v H1 e1 st1 env1 rx fin1 => fin_nx st1 env1 fin1⟩
theorem sd_if {c : Expr} (hc : PDb X W c bc) (ha : SDs X W A f) (hb : SDs X W B g) : SD X W (.If c A B pos) (sIf bc f g) := (ps_if hc ha hb).up fun De σ H h => by
  obtain ⟨S, as, M, ρ, st, env, fin⟩ := h
  refine ⟨S, as, M, ρ, st, env, FinS.bindE (R := EqR) (g := fun b M => if b = true then f ρ M else g ρ M) fin env fun S1 as1 M1 x v H1 e1 st1 env1 rx fin1 => ?_⟩
  have rx : x = v := rx
  subst rx
  cases x with
  | true => rw [if_pos rfl] at fin1 ⊢; exact ⟨S1, as1, M1, ρ, st1, env1, fin1⟩
  | false => rw [if_neg Bool.false_ne_true] at fin1 ⊢; exact ⟨S1, as1, M1, ρ, st1, env1, fin1⟩
theorem sds_nil : SDs X W [] sPass := pss_nil.up fun De σ H h => by
  obtain ⟨S, as, M, ρ, st, env, fin⟩ := h
  exact fin_nx st env fin
theorem sds_one (h : SD X W st f) : SDs X W [st] f := pss_one h
theorem sds_cons (h1 : SD X W st f) (h2 : SDs X W rest g) : SDs X W (st :: rest) (sSeq f g) := (pss_cons h1 h2).up fun De σ H h => by
  obtain ⟨S, as, M, ρ, st, env, fin⟩ := h
  refine ⟨S, as, M, ρ, st, env, ?_⟩
  unfold sSeq at fin
  cases e : f ρ M with
  | nx ρ1 M1 =>
    simp only [e] at fin
    intro S' as' σ' H' e' st' env'
    exact ⟨S', as', M1, ρ1, st', env', fin.pre e'⟩
  | bk ρ1 M1 => simp only [e] at fin; exact fin
  | ct ρ1 M1 => simp only [e] at fin; exact fin
  | rt d M1 => simp only [e] at fin; exact fin
  | er x ρ1 M1 => simp only [e] at fin; exact fin
  | stuck => simp only [e] at fin; exact fin.elim
theorem sd_pass : SD X W (.Pass pos) sPass := ps_pass.up fun De σ H h => by
  obtain ⟨S, as, M, ρ, st, env, fin⟩ := h
  exact fin_nx st env fin
theorem sd_break : SD X W (.Break pos) sBreak := ps_break.up fun De σ H h => by
  obtain ⟨S, as, M, ρ, st, env, fin⟩ := h
  exact fin S as σ H (Ext.refl _ _ _) st env
theorem sd_cont : SD X W (.Continue pos) sCont := ps_continue.up fun De σ H h => by
  obtain ⟨S, as, M, ρ, st, env, fin⟩ := h
  exact fin S as σ H (Ext.refl _ _ _) st env
end

/-! ### targets -/
inductive Tg where
  | nm (i : Nat)
  | tp (ts : List Tg)
mutual
def Tg.run : Tg → D → Env → Option Env
  | .nm i, d, ρ => some (ρ.set i (some d))
  | .tp ts, .tup ds, ρ => Tg.runs ts ds ρ
  | .tp _, _, _ => none
def Tg.runs : List Tg → List D → Env → Option Env
  | [], [], ρ => some ρ
  | t :: ts, d :: ds, ρ => (t.run d ρ).bind fun ρ1 => Tg.runs ts ds ρ1
  | _, _, _ => none
end
mutual
def Tg.slots : Tg → List Nat
  | .nm i => [i]
  | .tp ts => Tg.slotss ts
def Tg.slotss : List Tg → List Nat
  | [] => []
  | t :: ts => t.slots ++ Tg.slotss ts
end
mutual
def Tg.tg (K : PySem.W.Frag) : Tg → TG
  | .nm i => gName i
  | .tp ts => gTup K ts.length (Tg.tgs K ts)
def Tg.tgs (K : PySem.W.Frag) : List Tg → TGs
  | [] => gNil
  | t :: ts => gCons (t.tg K) (Tg.tgs K ts)
end
theorem wipe_set {σ : L2.St} {i : Nat} {x : Option V} : ∀ {vs : List Nat}, i ∈ vs → wipe (σ.set i x) vs = wipe σ vs
  | [], h => by cases h
  | v :: vs, h => by
    unfold wipe
    by_cases hi : i ∈ vs
    · rw [wipe_set hi]
    · have e : i = v := by
        rcases List.mem_cons.mp h with z | z
        · exact z
        · exact absurd z hi
      subst e
      rw [wipe_setN hi, List.set_set]
where wipe_setN {σ : L2.St} {i : Nat} {x : Option V} : ∀ {vs : List Nat}, i ∉ vs → wipe (σ.set i x) vs = (wipe σ vs).set i x
  | [], h => rfl
  | v :: vs, h => by
    unfold wipe
    have h1 : i ≠ v := fun z => h (z ▸ List.mem_cons_self)
    rw [wipe_setN fun z => h (List.mem_cons_of_mem _ z), List.set_comm _ _ h1]
section
variable {K : PySem.W.Frag} {S : Hp} {as : List Addr} {M : Mem} {H : Hp}
mutual
theorem Tg.ok (vs : List Nat) (e : Same S H) : ∀ (t : Tg) (d : D) (v : V) (σ : L2.St) (ρ ρ' : Env) (Q : L2.St → Hp → Prop), Rep K S as d v → EnvOk K S as σ ρ → t.run d ρ = some ρ' → (∀ i ∈ t.slots, i ∈ vs) →
    (∀ σ', EnvOk K S as σ' ρ' → wipe σ' vs = wipe σ vs → Q σ' H) → t.tg K v σ H Q
  | .nm i, d, v, σ, ρ, ρ', Q, r, env, h, hs, k => by
    unfold Tg.run at h
    cases h
    unfold Tg.tg
    exact k _ (env.set r) (wipe_set (hs i (by simp [Tg.slots])))
  | .tp ts, .tup ds, v, σ, ρ, ρ', Q, r, env, h, hs, k => by
    obtain ⟨a, us, h1, h2, h3, h4⟩ := r
    unfold Tg.run at h
    unfold Tg.tg
    have hl : us.length = ts.length := by rw [← h3.length]; exact (Tg.runs_len h).symm
    exact ⟨a, us, h1, Evl.ex_t e h2, hl, Tg.oks vs e ts ds us σ ρ ρ' Q h3 env h (by unfold Tg.slots at hs; exact hs) k⟩
  | .tp _, .v _, v, σ, ρ, ρ', Q, r, env, h, hs, k => by simp [Tg.run] at h
  | .tp _, .h _, v, σ, ρ, ρ', Q, r, env, h, hs, k => by simp [Tg.run] at h
  | .tp _, .lst _, v, σ, ρ, ρ', Q, r, env, h, hs, k => by simp [Tg.run] at h
  | .tp _, .ro _, v, σ, ρ, ρ', Q, r, env, h, hs, k => by simp [Tg.run] at h
  | .tp _, .ins _ _ _, v, σ, ρ, ρ', Q, r, env, h, hs, k => by simp [Tg.run] at h
  | .tp _, .dK _ _, v, σ, ρ, ρ', Q, r, env, h, hs, k => by simp [Tg.run] at h
  | .tp _, .dT _ _, v, σ, ρ, ρ', Q, r, env, h, hs, k => by simp [Tg.run] at h
theorem Tg.oks (vs : List Nat) (e : Same S H) : ∀ (ts : List Tg) (ds : List D) (us : List V) (σ : L2.St) (ρ ρ' : Env) (Q : L2.St → Hp → Prop), Reps K S as ds us → EnvOk K S as σ ρ → Tg.runs ts ds ρ = some ρ' → (∀ i ∈ Tg.slotss ts, i ∈ vs) →
    (∀ σ', EnvOk K S as σ' ρ' → wipe σ' vs = wipe σ vs → Q σ' H) → Tg.tgs K ts us σ H Q
  | [], [], us, σ, ρ, ρ', Q, r, env, h, hs, k => by
    have r : us = [] := r
    subst r
    unfold Tg.runs at h
    cases h
    unfold Tg.tgs
    exact ⟨rfl, k σ env rfl⟩
  | t :: ts, d :: ds, us, σ, ρ, ρ', Q, r, env, h, hs, k => by
    obtain ⟨v, r', h1, h2, h3⟩ := r
    subst h1
    unfold Tg.runs at h
    cases e1 : t.run d ρ with
    | none => simp [e1] at h
    | some ρ1 =>
      simp only [e1, Option.bind_some] at h
      unfold Tg.slotss at hs
      unfold Tg.tgs
      refine ⟨v, r', rfl, Tg.ok vs e t d v σ ρ ρ1 _ h2 env e1 (fun i hi => hs i (List.mem_append_left _ hi)) fun σ1 env1 w1 => ?_⟩
      exact Tg.oks vs e ts ds r' σ1 ρ1 ρ' Q h3 env1 h (fun i hi => hs i (List.mem_append_right _ hi)) fun σ' env' w' => k σ' env' (w'.trans w1)
  | [], _ :: _, us, σ, ρ, ρ', Q, r, env, h, hs, k => by simp [Tg.runs] at h
  | _ :: _, [], us, σ, ρ, ρ', Q, r, env, h, hs, k => by simp [Tg.runs] at h
theorem Tg.runs_len : ∀ {ts : List Tg} {ds : List D} {ρ ρ' : Env}, Tg.runs ts ds ρ = some ρ' → ts.length = ds.length
  | [], [], _, _, _ => rfl
  | t :: ts, d :: ds, ρ, ρ', h => by
    unfold Tg.runs at h
    cases e1 : t.run d ρ with
    | none => simp [e1] at h
    | some ρ1 =>
      simp only [e1, Option.bind_some] at h
      simp [Tg.runs_len h]
  | [], _ :: _, _, _, h => by simp [Tg.runs] at h
  | _ :: _, [], _, _, h => by simp [Tg.runs] at h
end
end
abbrev PGd (X : Cx) (target : Expr) (t : Tg) : Prop := PG X target (t.tg X.K)
abbrev PGds (X : Cx) (ts : List Expr) (t : List Tg) : Prop := PGs X ts (Tg.tgs X.K t)
section
variable {X : Cx} {W : WX} {pos : Pos}
theorem pgd_nm {i : Nat} {x : Str} (hN : X.N.Nodup) (hi : X.N[i]? = some x := by rfl) (hx : Loc X.env.scope x := by first | exact Or.inl rfl | exact Or.inr rfl) (hf : X.fn x = true ∨ X.env.scope.names.lookup x = some .local := by first | exact .inl rfl | exact .inr rfl) : PGd X (.Name x pos) (.nm i) := by
  unfold PGd Tg.tg; exact pg_name hN hi hx hf
theorem pgds_nil : PGds X [] [] := by unfold PGds Tg.tgs; exact pgs_nil
theorem pgds_cons {e : Expr} {es : List Expr} {t : Tg} {ts : List Tg} (h1 : PGd X e t) (h2 : PGds X es ts) (hs : (assignEach (e :: es) X.env).map (·.2) = assign e X.env :: (assignEach es X.env).map (·.2) := by rfl) : PGds X (e :: es) (t :: ts) := by
  unfold PGds Tg.tgs; exact pgs_cons h1 h2 hs
theorem pgd_tp {es : List Expr} {k : Nat} {ts : List Tg} (hc : X.calm = true) (h : PGds X es ts) (hn : (assignEach es X.env).length = ts.length := by rfl) (hst : (assignEach es X.env).findIdx? (·.1) = none := by rfl) : PGd X (.Tuple es k pos) (.tp ts) := by
  unfold PGd Tg.tg; exact pg_tup hc h hn hst
/-- target = e -/
def sAsg (t : Tg) (fe : Env → C D) : Cs := fun ρ => sE (fe ρ) ρ fun d M => match t.run d ρ with
  | some ρ1 => .nx ρ1 M
  | none => .stuck
theorem sd_asg {tg e : Expr} {t : Tg} {fe : Env → C D} (he : PD X W e fe) (hg : PGd X tg t) (hs : swapsWithSole [tg] e pos.line X.env = pure false := by rfl) (hw : swappedStores [tg] e X.env = pure none := by rfl)
    (h1 : (assignEach [tg] X.env).map (·.2) = [assign tg X.env] := by rfl) : SD X W (.Assign [tg] e pos) (sAsg t fe) := (ps_asg he hg hs hw h1).up fun De σ H h => by
  obtain ⟨S, as, M, ρ, st, env, fin⟩ := h
  refine ⟨S, as, M, ρ, st, env, FinS.bindE (g := fun d M => match t.run d ρ with
    | some ρ1 => SOut.nx ρ1 M
    | none => .stuck) fin env fun S1 as1 M1 d v H1 e1 st1 env1 rx fin1 => ?_⟩
  cases e : t.run d ρ with
  | none => simp only [e] at fin1; exact fin1.elim
  | some ρ1 =>
    simp only [e] at fin1
    exact Tg.ok t.slots st1.ex t d v σ ρ ρ1 _ rx env1 e (fun _ h => h) fun σ' env' _ => fin_nx st1 env' fin1
end
end DL
set_option Elab.async false
set_option maxRecDepth 100000
set_option maxHeartbeats 2000000
namespace DL
open PySem PySem.Spec PyProof.Rows L2

/-! ### what is walked -/
structure ItS where
  ds : List D
  g : Option (Nat × List D)
def gOk : Option (Nat × List D) → Mem → Prop
  | none, _ => True
  | some (k, c), M => M[k]? = some (.lst c)
structure ItOk (K : PySem.W.Frag) (S : Hp) (as : List Addr) (I : ItS) (J : It) : Prop where
  go : ∀ S' as' M H i, Same S S' → Pre as as' → St K S' as' M H → gOk I.g M → i < I.ds.length → J.go i H
  stop : ∀ S' as' M H i, Same S S' → Pre as as' → St K S' as' M H → gOk I.g M → I.ds.length ≤ i → J.stop i H
  yld : ∀ S' as' M H i d x H', Same S S' → Pre as as' → St K S' as' M H → gOk I.g M → I.ds[i]? = some d → J.yld i H x H' → ∃ S'', Ext S' as' H S'' as' H' ∧ St K S'' as' M H' ∧ Rep K S'' as' d x
def ItR (K : PySem.W.Frag) : Hp → List Addr → ItS → It → Prop := ItOk K
abbrev tI (K : PySem.W.Frag) (W : WX) (f : Env → C ItS) : TI := tG (ItR K) K W f
abbrev PId (X : Cx) (W : WX) (tg iter : Expr) (f : Env → C ItS) : Prop := PI X tg iter (tI X.K W f)
theorem _root_.L2.PI.up {X : Cx} {tg e : Expr} {t t' : TI} (h : PI X tg e t) (i : ∀ σ H Q, t' σ H Q → t σ H Q) : PI X tg e t' := ⟨fun pins s σ H Q I q => h.run pins s σ H Q I (i σ H Q q)⟩
theorem _root_.L2.PI.orr {X : Cx} {tg e : Expr} {t t' : TI} (h : PI X tg e t) (h' : PI X tg e t') : PI X tg e (fun σ H Q => t σ H Q ∨ t' σ H Q) := ⟨fun pins s σ H Q I q => q.elim (h.run pins s σ H Q I) (h'.run pins s σ H Q I)⟩
theorem fin_it {K : PySem.W.Frag} {W : WX} {S : Hp} {as : List Addr} {M : Mem} {H : Hp} {σ : L2.St} {ρ : Env} {I : ItS} {J : It} {Q : It → Hp → Prop} (st : St K S as M H) (r : ItOk K S as I J) (fin : Fin (ItR K) K S as H W σ ρ (.ok I M) Q) : Q J H := fin S as J H (Ext.refl _ _ _) st r
def charsD (z : Str) : List D := z.cps.toList.map fun c => .v (.str ⟨#[c]⟩)
def itOf (M : Mem) : D → Option ItS
  | .v (.str z) => some ⟨charsD z, none⟩
  | .tup ds => some ⟨ds, none⟩
  | .lst ds => some ⟨ds, none⟩
  | .ro ds => some ⟨ds, none⟩
  | .h k => match M[k]? with
    | some (.lst ds) => some ⟨ds, some (k, ds)⟩
    | _ => none
  | _ => none
def gIt : D → C ItS := fun x M => match itOf M x with
  | some I => .ok I M
  | none => .stuck
def eIt (fa : Env → C D) : Env → C ItS := fun ρ => (fa ρ).bind gIt
section
variable {K : PySem.W.Frag} {S : Hp} {as : List Addr} {M : Mem} {H : Hp}
theorem it_str {z : Str} (h : okV (.str z) = true) : ItOk K S as ⟨charsD z, none⟩ (Its z) := by
  have hl : (charsD z).length = z.cps.size := by unfold charsD; simp
  refine ⟨fun S' as' M H i e p st g hi => ?_, fun S' as' M H i e p st g hi => ?_, fun S' as' M H i d x H' e p st g hd y => ?_⟩
  · show i < z.cps.size; simp only at hi; omega
  · show z.cps.size ≤ i; simp only at hi; omega
  · obtain ⟨e1, c, hc, e2⟩ := y
    subst e1 e2
    refine ⟨S', Ext.refl _ _ _, st, ?_⟩
    unfold charsD at hd
    simp only [List.getElem?_map, Array.getElem?_toList, hc] at hd
    cases hd
    exact ⟨rfl, strOk_at (okV_str h).1 (atI_nat (xs := z.cps.toList) (j := i) (by simpa using hc))⟩
theorem it_lst {ds : List D} {a : Addr} {vs : List V} (h : ∀ S' H, Same S S' → Same S' H → SqL K H a vs) (r : Reps K S as ds vs) : ItOk K S as ⟨ds, none⟩ (Itl K a) := by
  refine ⟨fun S' as' M H i e p st g hi => ?_, fun S' as' M H i e p st g hi => ?_, fun S' as' M H i d x H' e p st g hd y => ?_⟩
  · have hi' : i < vs.length := by rw [← r.length]; exact hi
    exact ⟨vs, vs[i], h S' H e st.ex, List.getElem?_eq_getElem hi'⟩
  · exact ⟨vs, h S' H e st.ex, by rw [← r.length]; exact hi⟩
  · obtain ⟨e1, e2⟩ := y
    subst e1
    refine ⟨S', Ext.refl _ _ _, st, ?_⟩
    obtain ⟨v, h1, h2⟩ := r.get hd
    have h3 := e2 vs (h S' _ e st.ex)
    rw [h1] at h3; cases h3
    exact Rep.mono e p _ _ h2
theorem it_tup {ds : List D} {a : Addr} {vs : List V} (h : ∀ S' H, Same S S' → Same S' H → SqT K H a vs) (r : Reps K S as ds vs) : ItOk K S as ⟨ds, none⟩ (Itt K a) := by
  refine ⟨fun S' as' M H i e p st g hi => ?_, fun S' as' M H i e p st g hi => ?_, fun S' as' M H i d x H' e p st g hd y => ?_⟩
  · have hi' : i < vs.length := by rw [← r.length]; exact hi
    exact ⟨vs, vs[i], h S' H e st.ex, List.getElem?_eq_getElem hi'⟩
  · exact ⟨vs, h S' H e st.ex, by rw [← r.length]; exact hi⟩
  · obtain ⟨e1, e2⟩ := y
    subst e1
    refine ⟨S', Ext.refl _ _ _, st, ?_⟩
    obtain ⟨v, h1, h2⟩ := r.get hd
    have h3 := e2 vs (h S' _ e st.ex)
    rw [h1] at h3; cases h3
    exact Rep.mono e p _ _ h2
theorem it_cell {ds : List D} {k : Nat} {a : Addr} (ha : as[k]? = some a) : ItOk K S as ⟨ds, some (k, ds)⟩ (Itl K a) := by
  refine ⟨fun S' as' M H i e p st g hi => ?_, fun S' as' M H i e p st g hi => ?_, fun S' as' M H i d x H' e p st g hd y => ?_⟩
  · obtain ⟨vs, h1, h2, _⟩ := cell_lst st g (p _ _ ha)
    have hi' : i < vs.length := by rw [← h2.length]; exact hi
    exact ⟨vs, vs[i], SqL.of h1, List.getElem?_eq_getElem hi'⟩
  · obtain ⟨vs, h1, h2, _⟩ := cell_lst st g (p _ _ ha)
    exact ⟨vs, SqL.of h1, by rw [← h2.length]; exact hi⟩
  · obtain ⟨e1, e2⟩ := y
    subst e1
    refine ⟨S', Ext.refl _ _ _, st, ?_⟩
    obtain ⟨vs, h1, h2, _⟩ := cell_lst st g (p _ _ ha)
    obtain ⟨v, h4, h5⟩ := h2.get hd
    have h3 := e2 vs (SqL.of h1)
    rw [h4] at h3; cases h3
    exact h5
end
section
variable {X : Cx} {W : WX} {pos : Pos} {tg a b e : Expr} {es : List Expr} {fa fb : Env → C D} {fs : Env → C (List D)}
/-- a list, a tuple, a text -/
theorem pid_seq (ha : PD X W e fa) : PId X W tg e (eIt fa) := ((pi_list ha).orr ((pi_tup ha).orr (pi_str ha))).up fun σ H Q h => by
  obtain ⟨S, as, M, ρ, st, env, fin⟩ := h
  cases e0 : fa ρ M with
  | er x M' =>
    refine .inl ⟨S, as, M, ρ, st, env, ?_⟩
    unfold eIt C.bind at fin
    simp only [e0] at fin
    rw [e0]
    exact fin
  | stuck =>
    unfold eIt C.bind at fin
    simp only [e0] at fin
    exact fin.elim
  | ok d M' =>
    unfold eIt C.bind gIt at fin
    simp only [e0] at fin
    have go : ∀ {R1 : VK}, (∀ S' as' v H', Ext S as H S' as' H' → St X.K S' as' M' H' → Rep X.K S' as' d v → R1 v H') → tD X.K W fa σ H R1 := fun {R1} k => ⟨S, as, M, ρ, st, env, by
      rw [e0]
      exact fun S' as' v H' e' s' r => k S' as' v H' e' s' r⟩
    cases d with
    | v z =>
      cases z with
      | str z =>
        refine .inr (.inr (go fun S' as' v H' e' s' r => ⟨z, r.1, ?_⟩))
        exact fin_it s' (it_str r.2) (fin.pre e')
      | _ => exact fin.elim
    | tup ds =>
      refine .inr (.inl (go fun S' as' v H' e' s' r => ?_))
      obtain ⟨a, vs, h1, h2, h3, h4⟩ := r
      refine ⟨a, h1, ⟨vs, Evl.ex_t s'.ex h2⟩, ?_⟩
      exact fin_it s' (it_tup (fun S2 H2 e e2 => Evl.ex_t e2 (Evl.ex_t e h2)) h3) (fin.pre e')
    | lst ds =>
      refine .inl (go fun S' as' v H' e' s' r => ?_)
      obtain ⟨a, vs, h1, h2, h3, h4⟩ := r
      refine ⟨a, h1, ⟨vs, SqL.of (s'.ex _ _ h2)⟩, ?_⟩
      exact fin_it s' (it_lst (fun S2 H2 e e2 => SqL.of (e2 _ _ (e _ _ h2))) h3) (fin.pre e')
    | ro ds =>
      refine .inl (go fun S' as' v H' e' s' r => ?_)
      obtain ⟨a, vs, h1, h2, h3, h4⟩ := r
      refine ⟨a, h1, ⟨vs, Evl.ex_l s'.ex h2⟩, ?_⟩
      exact fin_it s' (it_lst (fun S2 H2 e e2 => Evl.ex_l e2 (Evl.ex_l e h2)) h3) (fin.pre e')
    | h k =>
      refine .inl (go fun S' as' v H' e' s' r => ?_)
      obtain ⟨a, h1, h2⟩ := r
      simp only [itOf] at fin
      cases ec : M'[k]? with
      | none => simp only [ec] at fin; exact fin.elim
      | some c =>
        cases c with
        | lst ds =>
          simp only [ec] at fin
          obtain ⟨vs, h3, h4, _⟩ := cell_lst s' ec h1
          exact ⟨a, h2, ⟨vs, SqL.of h3⟩, fin_it s' (it_cell h1) (fin.pre e')⟩
        | _ => simp only [ec] at fin; exact fin.elim
    | ins _ _ _ => exact fin.elim
    | dK _ _ => exact fin.elim
    | dT _ _ => exact fin.elim
/-- range -/
def rangeD (lo : Int) (n : Nat) : List D := (List.range n).map fun (i : Nat) => .v (.int (lo + (i : Int)))
def gRange1 : List D → C ItS := fun xs M => match xs with
  | [.v (.int j)] => if -(2 ^ 62) ≤ j ∧ j < 2 ^ 62 then .ok ⟨rangeD 0 j.toNat, none⟩ M else .stuck
  | _ => .stuck
def gRange2 : List D → C ItS := fun xs M => match xs with
  | [.v (.int i), .v (.int j)] => if -(2 ^ 62) ≤ i ∧ i < 2 ^ 62 ∧ -(2 ^ 62) ≤ j ∧ j < 2 ^ 62 then .ok ⟨rangeD i (j - i).toNat, none⟩ M else .stuck
  | _ => .stuck
def eRange1 (fs : Env → C (List D)) : Env → C ItS := fun ρ => (fs ρ).bind gRange1
def eRange2 (fs : Env → C (List D)) : Env → C ItS := fun ρ => (fs ρ).bind gRange2
theorem it_range {K : PySem.W.Frag} {S : Hp} {as : List Addr} (lo : Int) (n : Nat) : ItOk K S as ⟨rangeD lo n, none⟩ (Itr lo n) := by
  have hl : (rangeD lo n).length = n := by unfold rangeD; simp
  refine ⟨fun S' as' M H i e p st g hi => ?_, fun S' as' M H i e p st g hi => ?_, fun S' as' M H i d x H' e p st g hd y => ?_⟩
  · show i < n; simp only [hl] at hi; exact hi
  · show n ≤ i; simp only [hl] at hi; exact hi
  · obtain ⟨e1, e2⟩ := y
    subst e1 e2
    refine ⟨S', Ext.refl _ _ _, st, ?_⟩
    unfold rangeD at hd
    have hi : i < n := by
      have := (List.getElem?_eq_some_iff.mp hd).1
      simpa using this
    simp only [List.getElem?_map, List.getElem?_range hi] at hd
    cases hd
    exact ⟨rfl, rfl⟩
theorem reps1 {K : PySem.W.Frag} {S : Hp} {as : List Addr} {d : D} {vs : List V} (r : Reps K S as [d] vs) : ∃ v, vs = [v] ∧ Rep K S as d v := by
  obtain ⟨v, r', e, h, h2⟩ := r
  have h2 : r' = [] := h2
  subst h2
  exact ⟨v, e, h⟩
theorem reps2 {K : PySem.W.Frag} {S : Hp} {as : List Addr} {d d' : D} {vs : List V} (r : Reps K S as [d, d'] vs) : ∃ v v', vs = [v, v'] ∧ Rep K S as d v ∧ Rep K S as d' v' := by
  obtain ⟨v, r', e, h, h2⟩ := r
  obtain ⟨v', e', h'⟩ := reps1 h2
  subst e'
  exact ⟨v, v', e, h, h'⟩
theorem pid_range1 {p : Pos} (hm : X.mg "range" = none) (ha : PDs X W [a] fs) (hg : Gl X "range" := by rfl) (hs : starEach [a] X.env = [(false, eval a X.env)] := by rfl) : PId X W tg (.Call (.Name "range" p) [a] [] pos) (eRange1 fs) := (pi_range1 hg hm ha hs).up fun σ H Q h => by
  obtain ⟨S, as, M, ρ, st, env, fin⟩ := h
  refine ⟨S, as, M, ρ, st, env, Fin.bind (g := gRange1) fin env fun S1 as1 M1 xs vs H1 e1 st1 env1 rx fin1 => ?_⟩
  unfold gRange1 at fin1
  split at fin1
  · rename_i j
    split at fin1
    · rename_i hj
      obtain ⟨v, e2, r1⟩ := reps1 rx
      obtain ⟨r1, _⟩ := r1
      subst r1
      exact ⟨j, e2, hj.1, hj.2, fin_it st1 (it_range 0 _) fin1⟩
    · exact fin1.elim
  · exact fin1.elim
theorem pid_range2 {p : Pos} (hm : X.mg "range" = none) (ha : PDs X W [a, b] fs) (hg : Gl X "range" := by rfl) (hs : starEach [a, b] X.env = [(false, eval a X.env), (false, eval b X.env)] := by rfl) (hs2 : starEach [b] X.env = [(false, eval b X.env)] := by rfl) : PId X W tg (.Call (.Name "range" p) [a, b] [] pos) (eRange2 fs) := (pi_range2 hg hm ha hs hs2).up fun σ H Q h => by
  obtain ⟨S, as, M, ρ, st, env, fin⟩ := h
  refine ⟨S, as, M, ρ, st, env, Fin.bind (g := gRange2) fin env fun S1 as1 M1 xs vs H1 e1 st1 env1 rx fin1 => ?_⟩
  unfold gRange2 at fin1
  split at fin1
  · rename_i i j
    split at fin1
    · rename_i hj
      obtain ⟨v, v', e2, r1, r2⟩ := reps2 rx
      obtain ⟨r1, _⟩ := r1
      obtain ⟨r2, _⟩ := r2
      subst r1 r2
      exact ⟨i, j, e2, hj, fin_it st1 (it_range i _) fin1⟩
    · exact fin1.elim
  · exact fin1.elim
def grd (x : D) (ds : List D) : Option (Nat × List D) := match x with
  | .h k => some (k, ds)
  | _ => none
/-- enumerate of a list -/
def enumD (ds : List D) : List D := ds.zipIdx.map fun p => .tup [.v (.int (p.2 : Int)), p.1]
def gEnum : List D → C ItS := fun xs M => match xs with
  | [x] => match lstOf M x with
    | some ds => .ok ⟨enumD ds, grd x ds⟩ M
    | none => .stuck
  | _ => .stuck
def eEnum (fs : Env → C (List D)) : Env → C ItS := fun ρ => (fs ρ).bind gEnum
/-- the list that stands at a, through all later states -/
def Stands (K : PySem.W.Frag) (S : Hp) (as : List Addr) (g : Option (Nat × List D)) (ds : List D) (a : Addr) : Prop :=
  ∀ S' as' M H, Same S S' → Pre as as' → St K S' as' M H → gOk g M → ∃ vs, SqL K H a vs ∧ Reps K S' as' ds vs
theorem it_enum {K : PySem.W.Frag} {S : Hp} {as : List Addr} {ds : List D} {a : Addr} {g : Option (Nat × List D)} (h : Stands K S as g ds a) : ItOk K S as ⟨enumD ds, g⟩ (Ite K a) := by
  have hl : (enumD ds).length = ds.length := by unfold enumD; simp
  refine ⟨fun S' as' M H i e p st g hi => ?_, fun S' as' M H i e p st g hi => ?_, fun S' as' M H i d x H' e p st g hd y => ?_⟩
  · obtain ⟨vs, h1, h2⟩ := h S' as' M H e p st g
    simp only [hl] at hi
    have hi' : i < vs.length := by rw [← h2.length]; exact hi
    exact ⟨vs, vs[i], h1, List.getElem?_eq_getElem hi'⟩
  · obtain ⟨vs, h1, h2⟩ := h S' as' M H e p st g
    simp only [hl] at hi
    exact ⟨vs, h1, by rw [← h2.length]; exact hi⟩
  · obtain ⟨vs, h1, h2⟩ := h S' as' M H e p st g
    obtain ⟨T, z, e1, n, e2, k⟩ := y
    subst e1 e2
    have hi : i < ds.length := by
      have := (List.getElem?_eq_some_iff.mp hd).1
      simpa [hl] using this
    unfold enumD at hd
    simp only [List.getElem?_map, List.getElem?_zipIdx, List.getElem?_eq_getElem hi] at hd
    have hd := Option.some.inj hd
    subst hd
    obtain ⟨v, h4, h5⟩ := h2.get (List.getElem?_eq_getElem hi)
    have h3 := k vs h1
    rw [h4] at h3; cases h3
    refine ⟨upd S' T _, Ext.frozen st n, st.frozen n, T, [.int (i : Nat), z], rfl, SqT.of upd_same, ?_, by show 2 ≤ sizeLine; rw [sizeLine_eq]; decide⟩
    exact Reps.cons ⟨by simp, rfl⟩ (Reps.cons (Rep.mono (Evl.Ex.new (st.sfree n)) (Pre.refl _) _ _ h5) Reps.nil)
theorem stands_of {K : PySem.W.Frag} {S : Hp} {as : List Addr} {M : Mem} {H : Hp} {x : D} {v : V} {ds : List D} (st : St K S as M H) (r : Rep K S as x v) (h : lstOf M x = some ds) : ∃ a vs, v = .ref a ∧ SqL K H a vs ∧ Reps K S as ds vs ∧ Stands K S as (grd x ds) ds a := by
  cases x with
  | lst es =>
    cases h
    obtain ⟨a, vs, h1, h2, h3, h4⟩ := r
    exact ⟨a, vs, h1, SqL.of (st.ex _ _ h2), h3, fun S' as' M H e p st' _ => ⟨vs, SqL.of (st'.ex _ _ (e _ _ h2)), Reps.mono e p _ _ h3⟩⟩
  | ro es =>
    cases h
    obtain ⟨a, vs, h1, h2, h3, h4⟩ := r
    exact ⟨a, vs, h1, Evl.ex_l st.ex h2, h3, fun S' as' M H e p st' _ => ⟨vs, Evl.ex_l st'.ex (Evl.ex_l e h2), Reps.mono e p _ _ h3⟩⟩
  | h k =>
    obtain ⟨a, h1, h2⟩ := r
    unfold lstOf at h
    cases ec : M[k]? with
    | none => simp [ec] at h
    | some c =>
      cases c with
      | lst es =>
        simp only [ec] at h
        cases h
        obtain ⟨vs, h3, h4, _⟩ := cell_lst st ec h1
        exact ⟨a, vs, h2, SqL.of h3, h4, fun S' as' M' H' e p st' g => by
          obtain ⟨vs', h5, h6, _⟩ := cell_lst st' g (p _ _ h1)
          exact ⟨vs', SqL.of h5, h6⟩⟩
      | _ => simp [ec] at h
  | _ => cases h
theorem pid_enum {p tpos : Pos} {elts : List Expr} {kk : Nat} (hm : X.mg "enumerate" = none) (ha : PDs X W [a] fs) (hg : Gl X "enumerate" := by rfl) (hs : starEach [a] X.env = [(false, eval a X.env)] := by rfl) : PId X W (.Tuple elts kk tpos) (.Call (.Name "enumerate" p) [a] [] pos) (eEnum fs) := (pi_enum hg hm ha hs).up fun σ H Q h => by
  obtain ⟨S, as, M, ρ, st, env, fin⟩ := h
  refine ⟨S, as, M, ρ, st, env, Fin.bind (g := gEnum) fin env fun S1 as1 M1 xs vs H1 e1 st1 env1 rx fin1 => ?_⟩
  unfold gEnum at fin1
  split at fin1
  · rename_i x
    obtain ⟨v, e2, r1⟩ := reps1 rx
    split at fin1
    · rename_i ds hd
      obtain ⟨a, us, h1, h2, h3, h4⟩ := stands_of st1 r1 hd
      subst h1
      exact ⟨a, us, e2, h2, fin_it st1 (it_enum h4) fin1⟩
    · exact fin1.elim
  · exact fin1.elim
/-- reversed of a list -/
def gRev : List D → C ItS := fun xs M => match xs with
  | [x] => match lstOf M x with
    | some ds => .ok ⟨ds.reverse, grd x ds⟩ M
    | none => .stuck
  | _ => .stuck
def eRev (fs : Env → C (List D)) : Env → C ItS := fun ρ => (fs ρ).bind gRev
theorem it_rev {K : PySem.W.Frag} {S : Hp} {as : List Addr} {ds : List D} {a : Addr} {g : Option (Nat × List D)} (h : Stands K S as g ds a) : ItOk K S as ⟨ds.reverse, g⟩ (Itv K a ds.length) := by
  refine ⟨fun S' as' M H i e p st g hi => ?_, fun S' as' M H i e p st g hi => ?_, fun S' as' M H i d x H' e p st g hd y => ?_⟩
  · obtain ⟨vs, h1, h2⟩ := h S' as' M H e p st g
    simp only [List.length_reverse] at hi
    have hl := h2.length
    have hi' : ds.length - 1 - i < vs.length := by omega
    exact ⟨hi, vs, vs[ds.length - 1 - i], h1, List.getElem?_eq_getElem hi'⟩
  · simp only [List.length_reverse] at hi
    exact hi
  · obtain ⟨vs, h1, h2⟩ := h S' as' M H e p st g
    obtain ⟨e1, k⟩ := y
    subst e1
    refine ⟨S', Ext.refl _ _ _, st, ?_⟩
    have hi : i < ds.length := by
      have := (List.getElem?_eq_some_iff.mp hd).1
      simpa using this
    have hd2 : ds[ds.length - 1 - i]? = some d := by
      rw [List.getElem?_reverse (by simpa using hi)] at hd
      exact hd
    obtain ⟨v, h4, h5⟩ := h2.get hd2
    have h3 := k vs h1
    rw [h4] at h3; cases h3
    exact h5
theorem pid_rev {p : Pos} (hm : X.mg "reversed" = none) (ha : PDs X W [a] fs) (hg : Gl X "reversed" := by rfl) (hs : starEach [a] X.env = [(false, eval a X.env)] := by rfl) : PId X W tg (.Call (.Name "reversed" p) [a] [] pos) (eRev fs) := (pi_reversed hg hm ha hs).up fun σ H Q h => by
  obtain ⟨S, as, M, ρ, st, env, fin⟩ := h
  refine ⟨S, as, M, ρ, st, env, Fin.bind (g := gRev) fin env fun S1 as1 M1 xs vs H1 e1 st1 env1 rx fin1 => ?_⟩
  unfold gRev at fin1
  split at fin1
  · rename_i x
    obtain ⟨v, e2, r1⟩ := reps1 rx
    split at fin1
    · rename_i ds hd
      obtain ⟨a, us, h1, h2, h3, h4⟩ := stands_of st1 r1 hd
      subst h1
      refine ⟨a, us, e2, h2, ?_⟩
      rw [← h3.length]
      exact fin_it st1 (it_rev h4) fin1
    · exact fin1.elim
  · exact fin1.elim
end

/-! ### for -/
open Classical in
noncomputable def forL (g : Option (Nat × List D)) (t : Tg) (body : Cs) : List D → Env → Mem → SOut
  | [], ρ, M => if gOk g M then .nx ρ M else .stuck
  | d :: ds, ρ, M => if gOk g M then (match t.run d ρ with
    | none => .stuck
    | some ρ1 => match body ρ1 M with
      | .nx ρ2 M2 => forL g t body ds ρ2 M2
      | .ct ρ2 M2 => forL g t body ds ρ2 M2
      | .bk ρ2 M2 => .nx ρ2 M2
      | o => o) else .stuck
noncomputable def sFor (fi : Env → C ItS) (t : Tg) (body : Cs) : Cs := fun ρ => sE (fi ρ) ρ fun I M => forL I.g t body I.ds ρ M
section
variable {X : Cx} {W : WX} {pos : Pos} {tg iter e : Expr} {body : List Stmt} {f : Cs} {fi : Env → C ItS} {t : Tg}
theorem sd_for (hp : PassesOwn (model X.prog X.w) X.A X.env X.xe) (hc : X.calm = true) (hi : PId X W tg iter fi) (hg : PGd X tg t) (hb : SDs X W body f) (hs : ∀ x, foldedSetIterable iter X.env x = pure x := by intro _; rfl) : SD X W (.For tg iter body [] pos) (sFor fi t f) :=
  (ps_for hp hc hi hg hb hs).up fun De σ H h => by
    obtain ⟨S, as, M, ρ, st, env, fin⟩ := h
    refine ⟨S, as, M, ρ, st, env, FinS.bindE (g := fun (I : ItS) M => forL I.g t f I.ds ρ M) fin env fun S1 as1 M1 I J H1 e1 st1 env1 ok fin1 => ?_⟩
    refine ⟨fun i m σ' H' => m + i = I.ds.length ∧ ∃ S' as' M' ρ', Same S1 S' ∧ Pre as1 as' ∧ St X.K S' as' M' H' ∧ EnvOk X.K S' as' σ' ρ' ∧ FinS X.K S' as' H' W (forL I.g t f (I.ds.drop i) ρ' M') De,
      ⟨I.ds.length, by simp, S1, as1, M1, ρ, Same.refl _, Pre.refl _, st1, env1, fin1⟩, ?_⟩
    rintro i m σ' H' ⟨hm, S', as', M', ρ', e', p', st', env', fin'⟩
    by_cases hi : i < I.ds.length
    · have hd : I.ds.drop i = I.ds[i] :: I.ds.drop (i + 1) := List.drop_eq_getElem_cons hi
      rw [hd] at fin'
      unfold forL at fin'
      split at fin'
      · rename_i hgk
        refine .inr ⟨ok.go S' as' M' H' i e' p' st' hgk hi, fun σ2 H2 => ∃ S2 as2 M2 ρ2, Same S1 S2 ∧ Pre as1 as2 ∧ St X.K S2 as2 M2 H2 ∧ EnvOk X.K S2 as2 σ2 ρ2 ∧ FinS X.K S2 as2 H2 W (forL I.g t f (I.ds.drop (i + 1)) ρ2 M2) De, fun σ2 H2 q => ⟨m - 1, by omega, by omega, q⟩, fun x H2 hy => ?_⟩
        obtain ⟨S2, x2, st2, rx⟩ := ok.yld S' as' M' H' i I.ds[i] x H2 e' p' st' hgk (List.getElem?_eq_getElem hi) hy
        split at fin'
        · exact fin'.elim
        · rename_i ρ1 hr
          refine Tg.ok t.slots st2.ex t _ x σ' ρ' ρ1 _ rx (env'.mono x2.same x2.pre) hr (fun _ h => h) fun σ3 env3 _ => ?_
          refine ⟨S2, as', M', ρ1, st2, env3, ?_⟩
          have fin2 := fin'.pre x2
          cases eb : f ρ1 M' with
          | nx ρ2 M2 =>
            simp only [eb] at fin2
            intro S3 as3 σ4 H4 e4 st4 env4
            exact ⟨S3, as3, M2, ρ2, e'.trans (x2.same.trans e4.same), p'.trans (x2.pre.trans e4.pre), st4, env4, fin2.pre e4⟩
          | ct ρ2 M2 =>
            simp only [eb] at fin2
            intro S3 as3 σ4 H4 e4 st4 env4
            exact ⟨S3, as3, M2, ρ2, e'.trans (x2.same.trans e4.same), p'.trans (x2.pre.trans e4.pre), st4, env4, fin2.pre e4⟩
          | bk ρ2 M2 => simp only [eb] at fin2; exact fin2
          | rt d M2 => simp only [eb] at fin2; exact fin2
          | er y ρ2 M2 => simp only [eb] at fin2; exact fin2
          | stuck => simp only [eb] at fin2; exact fin2.elim
      · exact fin'.elim
    · have hd : I.ds.drop i = [] := List.drop_eq_nil_of_le (by omega)
      rw [hd] at fin'
      unfold forL at fin'
      split at fin'
      · rename_i hgk
        exact .inl ⟨ok.stop S' as' M' H' i e' p' st' hgk (by omega), fin_nx st' env' fin'⟩
      · exact fin'.elim
end
/-! ### while -/
def whileN (c : Env → C Bool) (body : Cs) : Nat → Env → Mem → SOut
  | 0, _, _ => .stuck
  | n + 1, ρ, M => sE (c ρ) ρ (fun b M1 => if b = true then (match body ρ M1 with
      | .nx ρ2 M2 => whileN c body n ρ2 M2
      | .ct ρ2 M2 => whileN c body n ρ2 M2
      | .bk ρ2 M2 => .nx ρ2 M2
      | o => o) else .nx ρ M1) M
/-- the loop, given enough turns -/
def sWhile (n : Env → Mem → Nat) (c : Env → C Bool) (body : Cs) : Cs := fun ρ M => whileN c body (n ρ M) ρ M
section
variable {X : Cx} {W : WX} {pos : Pos} {e : Expr} {body : List Stmt} {f : Cs} {bc : Env → C Bool}
theorem sd_while (n : Env → Mem → Nat) (hp : PassesOwn (model X.prog X.w) X.A X.env X.xe) (hc : PDb X W e bc) (hb : SDs X W body f) : SD X W (.While e body [] pos) (sWhile n bc f) := (ps_while hp hc hb).up fun De σ H h => by
  obtain ⟨S, as, M, ρ, st, env, fin⟩ := h
  refine ⟨fun m σ' H' => ∃ S' as' M' ρ', St X.K S' as' M' H' ∧ EnvOk X.K S' as' σ' ρ' ∧ FinS X.K S' as' H' W (whileN bc f m ρ' M') De, ⟨n ρ M, S, as, M, ρ, st, env, fin⟩, ?_⟩
  rintro m σ' H' ⟨S', as', M', ρ', st', env', fin'⟩
  cases m with
  | zero => exact fin'.elim
  | succ m =>
    unfold whileN at fin'
    refine ⟨S', as', M', ρ', st', env', FinS.bindE (R := EqR) fin' env' fun S1 as1 M1 b v H1 e1 st1 env1 rx fin1 => ?_⟩
    have rx : b = v := rx
    subst rx
    cases b with
    | false => rw [if_neg Bool.false_ne_true] at fin1 ⊢; exact fin_nx st1 env1 fin1
    | true =>
      rw [if_pos rfl] at fin1 ⊢
      refine ⟨fun σ2 H2 => ∃ S2 as2 M2 ρ2, St X.K S2 as2 M2 H2 ∧ EnvOk X.K S2 as2 σ2 ρ2 ∧ FinS X.K S2 as2 H2 W (whileN bc f m ρ2 M2) De, fun σ2 H2 q => ⟨m, by omega, q⟩, S1, as1, M1, ρ', st1, env1, ?_⟩
      cases eb : f ρ' M1 with
      | nx ρ2 M2 =>
        simp only [eb] at fin1
        exact fun S3 as3 σ4 H4 e4 st4 env4 => ⟨S3, as3, M2, ρ2, st4, env4, fin1.pre e4⟩
      | ct ρ2 M2 =>
        simp only [eb] at fin1
        exact fun S3 as3 σ4 H4 e4 st4 env4 => ⟨S3, as3, M2, ρ2, st4, env4, fin1.pre e4⟩
      | bk ρ2 M2 => simp only [eb] at fin1; exact fin1
      | rt d M2 => simp only [eb] at fin1; exact fin1
      | er y ρ2 M2 => simp only [eb] at fin1; exact fin1
      | stuck => simp only [eb] at fin1; exact fin1.elim
end
end DL
set_option Elab.async false
set_option maxRecDepth 100000
set_option maxHeartbeats 2000000
namespace DL
open PySem PySem.Spec PyProof.Rows L2

/-! ### list comprehensions -/
def W0 : WX := fun _ _ _ _ => False
def wipeD (ρ : Env) : List Nat → Env
  | [] => ρ
  | v :: vs => (wipeD ρ vs).set v none
theorem EnvOk.unset {K : PySem.W.Frag} {S : Hp} {as : List Addr} {σ : L2.St} {ρ : Env} {i : Nat} (h : EnvOk K S as σ ρ) : EnvOk K S as (σ.set i none) (ρ.set i none) := by
  refine ⟨by simp [h.1], fun j d q => ?_⟩
  by_cases hj : j = i
  · subst hj
    have hl : j < ρ.length := by
      have := (List.getElem?_eq_some_iff.mp q).1
      simpa using this
    rw [List.getElem?_set_self hl] at q
    cases q
  · rw [List.getElem?_set_ne (Ne.symm hj)] at q
    obtain ⟨u, h1, h2⟩ := h.2 j d q
    exact ⟨u, by rw [List.getElem?_set_ne (Ne.symm hj)]; exact h1, h2⟩
theorem EnvOk.wipe {K : PySem.W.Frag} {S : Hp} {as : List Addr} {σ : L2.St} {ρ : Env} (h : EnvOk K S as σ ρ) : ∀ vs : List Nat, EnvOk K S as (wipe σ vs) (wipeD ρ vs)
  | [] => h
  | v :: vs => by
    unfold L2.wipe wipeD
    exact (h.wipe vs).unset
open Classical in
noncomputable def lcL (g : Option (Nat × List D)) (t : Tg) (test : Env → C Bool) (elt : Env → C D) : List D → List D → Env → Mem → Out (List D)
  | [], acc, _, M => if gOk g M then .ok acc M else .stuck
  | d :: ds, acc, ρ, M => if gOk g M then (match t.run d ρ with
    | none => .stuck
    | some ρ1 => match test ρ1 M with
      | .ok true M1 => (match elt ρ1 M1 with
        | .ok y M2 => lcL g t test elt ds (acc ++ [y]) ρ M2
        | _ => .stuck)
      | .ok false M1 => lcL g t test elt ds acc ρ M1
      | _ => .stuck) else .stuck
/-- mk: what becomes of the items -/
noncomputable def eLcG (mk : List D → Mem → Out D) (fi : Env → C ItS) (t : Tg) (test : Env → C Bool) (elt : Env → C D) (vs : List Nat) : Env → C D := fun ρ => (fi ρ).bind fun I M => if I.ds.length ≤ 16777216 then (match lcL I.g t test elt I.ds [] (wipeD ρ vs) M with
  | .ok acc M' => mk acc M'
  | _ => .stuck) else .stuck
def mkV : List D → Mem → Out D := fun acc M => .ok (.lst acc) M
def mkH : List D → Mem → Out D := fun acc M => .ok (.h M.length) (M ++ [.lst acc])
def bYes : Env → C Bool := fun _ => C.ret true
abbrev PDbs (X : Cx) (W : WX) (ifs : List Expr) (f : Env → C Bool) : Prop := PTs X ifs (tDb X.K W f)
section
variable {K : PySem.W.Frag} {S : Hp} {as : List Addr} {M : Mem} {H : Hp} {p : Addr}
/-- an object outside is changed -/
theorem St.off {ho : HO} (st : St K S as M H) (n1 : p ∉ as) (n2 : S p = none) : St K S as M (upd H p ho) := by
  refine ⟨fun b o e => ?_, st.len, st.nd, fun k c a h1 h2 => ?_⟩
  · rw [upd_ne (ne_of_none e n2)]; exact st.ex b o e
  · obtain ⟨s0, o, e, r⟩ := st.cell k c a h1 h2
    have ha : a ≠ p := fun z => n1 (z ▸ List.mem_of_getElem? h2)
    exact ⟨s0, o, by rw [upd_ne ha]; exact e, r⟩
theorem Ext.off {S' H' : Hp} {as' : List Addr} {ho : HO} (x : Ext S as H S' as' H') (n : H p = none) : Ext S as H S' as' (upd H' p ho) :=
  ⟨x.same, x.pre, fun a o h na => by
    obtain ⟨h1, h2, h3⟩ := x.fr a o h na
    exact ⟨by rw [upd_ne (ne_of_none h n)]; exact h1, h2, h3⟩⟩
/-- an object outside becomes a value, a cell -/
theorem St.take {ho : HO} (st : St K S as M H) (n1 : p ∉ as) (n2 : S p = none) (h : H p = some ho) : St K (upd S p ho) as M H := by
  refine ⟨fun b o e => ?_, st.len, st.nd, fun k c a h1 h2 => ?_⟩
  · by_cases hb : b = p
    · subst hb; rw [upd_same] at e; cases e; exact h
    · rw [upd_ne hb] at e; exact st.ex b o e
  · obtain ⟨s0, o, e, r⟩ := st.cell k c a h1 h2
    have ha : a ≠ p := fun z => n1 (z ▸ List.mem_of_getElem? h2)
    exact ⟨by rw [upd_ne ha]; exact s0, o, e, r.mono fun ds vs h => Reps.mono (Evl.Ex.new n2) (Pre.refl _) ds vs h⟩
theorem Ext.take {S' H' : Hp} {as' : List Addr} {ho : HO} (x : Ext S as H S' as' H') (n : H p = none) (n2 : S' p = none) : Ext S as H (upd S' p ho) as' H' :=
  ⟨x.same.trans (Evl.Ex.new n2), x.pre, fun a o h na => by
    obtain ⟨h1, h2, h3⟩ := x.fr a o h na
    exact ⟨h1, h2, fun z => by rw [upd_ne (ne_of_none h n)]; exact h3 z⟩⟩
theorem St.adopt {ho : HO} {c : D} (st : St K S as M H) (n1 : p ∉ as) (n2 : S p = none) (h : H p = some ho) (r : ObjR (Reps K S as) c ho) : St K S (as ++ [p]) (M ++ [c]) H := by
  refine ⟨st.ex, by simp [st.len], ?_, fun k c' a h1 h2 => ?_⟩
  · rw [List.nodup_append]
    refine ⟨st.nd, by simp, fun a ha b hb => ?_⟩
    have : b = p := by simpa using hb
    subst this
    rintro rfl
    exact n1 ha
  · by_cases hk : k < M.length
    · rw [List.getElem?_append_left hk] at h1
      rw [List.getElem?_append_left (by rw [st.len]; exact hk)] at h2
      obtain ⟨s0, o, e, r'⟩ := st.cell k c' a h1 h2
      exact ⟨s0, o, e, r'.mono fun ds vs h => Reps.mono (Same.refl _) (Pre.app _ _) ds vs h⟩
    · have hk' : k = M.length := by
        have := (List.getElem?_eq_some_iff.mp h1).1
        simp at this; omega
      subst hk'
      rw [List.getElem?_concat_length] at h1
      rw [← st.len, List.getElem?_concat_length] at h2
      cases h1; cases h2
      exact ⟨n2, ho, h, r.mono fun ds vs h => Reps.mono (Same.refl _) (Pre.app _ _) ds vs h⟩
theorem Ext.adopt {S' H' : Hp} {as' : List Addr} (x : Ext S as H S' as' H') (n : H p = none) : Ext S as H S' (as' ++ [p]) H' :=
  ⟨x.same, x.pre.trans (Pre.app _ _), fun a o h na => by
    obtain ⟨h1, h2, h3⟩ := x.fr a o h na
    exact ⟨h1, by simp [h2, ne_of_none h n], h3⟩⟩
end
/-- mk may be done with the list that stands at p -/
def MkOk (K : PySem.W.Frag) (mk : List D → Mem → Out D) : Prop := ∀ S as H S' as' H' W σ ρ M acc vs p Q, Ext S as H S' as' H' → St K S' as' M H' → H p = none → p ∉ as' → S' p = none → H' p = some (.lst vs) → Reps K S' as' acc vs → acc.length ≤ sizeLine →
  Fin (RepR K) K S as H W σ ρ (mk acc M) Q → Q (.ref p) H'
theorem mkV_ok {K : PySem.W.Frag} : MkOk K mkV := fun S as H S' as' H' W σ ρ M acc vs p Q x st n n1 n2 hp r hl fin =>
  fin (upd S' p (.lst vs)) as' (.ref p) H' (x.take n n2) (st.take n1 n2 hp) ⟨p, vs, rfl, upd_same, Reps.mono (Evl.Ex.new n2) (Pre.refl _) _ _ r, hl⟩
theorem mkH_ok {K : PySem.W.Frag} : MkOk K mkH := fun S as H S' as' H' W σ ρ M acc vs p Q x st n n1 n2 hp r hl fin =>
  fin S' (as' ++ [p]) (.ref p) H' (x.adopt n) (st.adopt n1 n2 hp ⟨r, hl⟩) ⟨p, by rw [← st.len]; simp, rfl⟩
section
variable {X : Cx} {W : WX} {pos : Pos} {tg iter elt : Expr} {ifs : List Expr} {fi : Env → C ItS} {t : Tg} {test : Env → C Bool} {fe : Env → C D}
theorem pdbs_nil : PDbs X W [] bYes := ⟨fun pins s σ H Q I h => pts_nil.run pins s σ H Q I (by
  obtain ⟨S, as, M, ρ, st, env, fin⟩ := h
  exact fin_okb st fin)⟩
theorem pdbs_one {c : Expr} (h : PDb X W c test) : PDbs X W [c] test := pts_one h
theorem lc_of {mk : List D → Mem → Out D} (hmk : MkOk X.K mk) {vs : List Nat} {σ : L2.St} {H : Hp} {Q : VK} (hv : ∀ i ∈ t.slots, i ∈ vs) (h : tD X.K W (eLcG mk fi t test fe vs) σ H Q) : tLc (tI X.K W fi) (t.tg X.K) (tDb X.K W0 test) (tD X.K W0 fe) vs σ H Q := by
  obtain ⟨S, as, M, ρ, st, env, fin⟩ := h
  have lq := line_eq
  refine ⟨S, as, M, ρ, st, env, Fin.bind (g := fun (I : ItS) M => if I.ds.length ≤ 16777216 then (match lcL I.g t test fe I.ds [] (wipeD ρ vs) M with
    | .ok acc M' => mk acc M'
    | _ => .stuck) else .stuck) fin env fun S1 as1 M1 I J H1 e1 st1 env1 ok fin1 => ?_⟩
  intro Dp nD
  split at fin1
  · rename_i hlim
    cases el : lcL I.g t test fe I.ds [] (wipeD ρ vs) M1 with
    | er x M' => simp only [el] at fin1; exact fin1.elim
    | stuck => simp only [el] at fin1; exact fin1.elim
    | ok accF MF =>
      simp only [el] at fin1
      refine ⟨fun i m H' => m + i = I.ds.length ∧ ∃ S' as' M' acc us, Ext S1 as1 H1 S' as' H' ∧ St X.K S' as' M' H' ∧ H' Dp = some (.lst us) ∧ Dp ∉ as' ∧ S' Dp = none ∧ Reps X.K S' as' acc us ∧ acc.length ≤ i ∧ lcL I.g t test fe (I.ds.drop i) acc (wipeD ρ vs) M' = .ok accF MF,
        ⟨I.ds.length, by simp, S1, as1, M1, [], [], (Ext.refl _ _ _).off nD, st1.off (st1.notin nD) (st1.sfree nD), upd_same, st1.notin nD, st1.sfree nD, Reps.nil, by simp, el⟩, ?_⟩
      rintro i m H' ⟨hm, S', as', M', acc, us, x', st', hD, nD1, nD2, r', hacc, heq⟩
      by_cases hi : i < I.ds.length
      · have hd : I.ds.drop i = I.ds[i] :: I.ds.drop (i + 1) := List.drop_eq_getElem_cons hi
        rw [hd] at heq
        unfold lcL at heq
        split at heq
        · rename_i hgk
          refine .inr ⟨ok.go S' as' M' H' i x'.same x'.pre st' hgk hi, fun H2 => ∃ S2 as2 M2 acc2 us2, Ext S1 as1 H1 S2 as2 H2 ∧ St X.K S2 as2 M2 H2 ∧ H2 Dp = some (.lst us2) ∧ Dp ∉ as2 ∧ S2 Dp = none ∧ Reps X.K S2 as2 acc2 us2 ∧ acc2.length ≤ i + 1 ∧ lcL I.g t test fe (I.ds.drop (i + 1)) acc2 (wipeD ρ vs) M2 = .ok accF MF, fun H2 q => ⟨m - 1, by omega, by omega, q⟩, fun x H2 hy => ?_⟩
          obtain ⟨S2, x2, st2, rx⟩ := ok.yld S' as' M' H' i I.ds[i] x H2 x'.same x'.pre st' hgk (List.getElem?_eq_getElem hi) hy
          split at heq
          · cases heq
          · rename_i ρ1 hr
            have env2 : EnvOk X.K S2 as' (wipe σ vs) (wipeD ρ vs) := (env1.wipe vs).mono (x'.same.trans x2.same) x'.pre
            refine Tg.ok vs st2.ex t _ x _ _ ρ1 _ rx env2 hr hv fun σ3 env3 w3 => ?_
            refine ⟨by
              have : wipe (wipe σ vs) vs = wipe σ vs := wipe_wipe σ vs
              rw [w3, this], ?_⟩
            have hD2 := x2.fr Dp _ hD nD1
            cases et : test ρ1 M' with
            | er y M3 => simp only [et] at heq; cases heq
            | stuck => simp only [et] at heq; cases heq
            | ok b M3 =>
              refine ⟨S2, as', M', ρ1, st2, env3, ?_⟩
              rw [et]
              intro S4 as4 b4 H4 e4 st4 eb
              have eb : b = b4 := eb
              subst eb
              have hD4 := e4.fr Dp _ hD2.1 hD2.2.1
              cases b with
              | false =>
                simp only [et] at heq
                rw [if_neg Bool.false_ne_true]
                exact ⟨S4, as4, M3, acc, us, x'.trans (x2.trans e4), st4, hD4.1, hD4.2.1, hD4.2.2 (hD2.2.2 nD2), Reps.mono (x2.same.trans e4.same) e4.pre _ _ r', by omega, heq⟩
              | true =>
                simp only [et] at heq
                rw [if_pos rfl]
                refine ⟨S4, as4, M3, ρ1, st4, env3.mono e4.same e4.pre, ?_⟩
                cases ee : fe ρ1 M3 with
                | er y M5 => simp only [ee] at heq; cases heq
                | stuck => simp only [ee] at heq; cases heq
                | ok y M5 =>
                  simp only [ee] at heq
                  intro S5 as5 yv H5 e5 st5 ry
                  have hD5 := e5.fr Dp _ hD4.1 hD4.2.1
                  have nS5 := hD5.2.2 (hD4.2.2 (hD2.2.2 nD2))
                  have rr := Reps.mono (x2.same.trans (e4.same.trans e5.same)) (e4.pre.trans e5.pre) _ _ r'
                  have hul := rr.length
                  refine ⟨us, hD5.1, by omega, S5, as5, M5, acc ++ [y], us ++ [yv], (x'.trans (x2.trans (e4.trans e5))).off nD, st5.off hD5.2.1 nS5, upd_same, hD5.2.1, nS5, rr.append (Reps.cons ry Reps.nil), by simp; omega, heq⟩
        · cases heq
      · have hd : I.ds.drop i = [] := List.drop_eq_nil_of_le (by omega)
        rw [hd] at heq
        unfold lcL at heq
        split at heq
        · rename_i hgk
          cases heq
          exact .inl ⟨ok.stop S' as' MF H' i x'.same x'.pre st' hgk (by omega), hmk S1 as1 H1 S' as' H' W σ ρ MF accF us Dp Q x' st' nD nD1 nD2 hD r' (by omega) fin1⟩
        · cases heq
  · exact fin1.elim
where wipe_wipe (σ : L2.St) : ∀ vs : List Nat, wipe (wipe σ vs) vs = wipe σ vs
  | [] => rfl
  | v :: vs => by
    have h : ∀ us : List Nat, ∀ τ : L2.St, wipe (τ.set v none) us = (wipe τ us).set v none := by
      intro us
      induction us with
      | nil => intro τ; rfl
      | cons u us ih =>
        intro τ
        unfold wipe
        rw [ih]
        by_cases hu : v = u
        · subst hu; rfl
        · rw [List.set_comm _ _ hu]
    show (wipe ((wipe σ vs).set v none) vs).set v none = (wipe σ vs).set v none
    rw [h vs, wipe_wipe σ vs, List.set_set]
theorem pd_lc {mk : List D → Mem → Out D} {vs : List Nat} (hmk : MkOk X.K mk) {scope : Scope} (own : List (Str × Nat)) (hc : X.calm = true) (hN : X.N.Nodup) (hi : PId X W tg iter fi) (ok : BlkOk X.N X.env.scope scope own)
    (hg : ∀ (s : Shared) (H : Hp) (C : Addr) (cl : List (Str × Addr)) (fp : List Addr), PGd (X.blk s H scope (compEnvC scope cl C X.env) fp) tg t) (ht : ∀ (s : Shared) (H : Hp) (C : Addr) (cl : List (Str × Addr)) (fp : List Addr), PDbs (X.blk s H scope (compEnvC scope cl C X.env) fp) W0 ifs test)
    (he : ∀ (s : Shared) (H : Hp) (C : Addr) (cl : List (Str × Addr)) (fp : List Addr), PD (X.blk s H scope (compEnvC scope cl C X.env) fp) W0 elt fe) (hvs : own.map (·.2) = vs := by rfl) (hv : ∀ i ∈ t.slots, i ∈ vs := by decide) (hs : ∀ x, foldedSetIterable iter X.env x = pure x := by intro _; rfl) :
    PD X W (.ListComp elt [⟨tg, iter, ifs, 0⟩] scope pos) (eLcG mk fi t test fe vs) := by
  subst hvs
  exact (pe_lc hc hN hi ok hg ht he hs).up fun _ _ _ h => lc_of hmk hv h
theorem sd_setLc {mk : List D → Mem → Out D} {vs : List Nat} (hmk : MkOk X.K mk) {i : Nat} {y : Str} {py spos : Pos} {scope : Scope} (own : List (Str × Nat)) (hc : X.calm = true) (hN : X.N.Nodup) (hi : PId X W tg iter fi) (ok : BlkOk X.N X.env.scope scope own)
    (hg : ∀ (s : Shared) (H : Hp) (C : Addr) (cl : List (Str × Addr)) (fp : List Addr), PGd (X.blk s H scope (compEnvC scope cl C X.env) fp) tg t) (ht : ∀ (s : Shared) (H : Hp) (C : Addr) (cl : List (Str × Addr)) (fp : List Addr), PDbs (X.blk s H scope (compEnvC scope cl C X.env) fp) W0 ifs test)
    (he : ∀ (s : Shared) (H : Hp) (C : Addr) (cl : List (Str × Addr)) (fp : List Addr), PD (X.blk s H scope (compEnvC scope cl C X.env) fp) W0 elt fe) (hvs : own.map (·.2) = vs := by rfl) (hv : ∀ i ∈ t.slots, i ∈ vs := by decide)
    (hy : X.N[i]? = some y := by rfl) (hyl : X.env.scope.names.lookup y = some .local := by rfl) (hsw : swapsWith (.ListComp elt [⟨tg, iter, ifs, 0⟩] scope pos) (some (.Name y py)) spos.line X.env = pure true := by exact sw_true rfl rfl rfl (by decide +kernel)) (hs : ∀ x, foldedSetIterable iter X.env x = pure x := by intro _; rfl) :
    SD X W (.Assign [.Name y py] (.ListComp elt [⟨tg, iter, ifs, 0⟩] scope pos) spos) (sSet i (eLcG mk fi t test fe vs)) := by
  subst hvs
  exact (ps_setLc hc hN hy hyl hsw hi ok hg ht he hs).up fun De σ H h => by
    obtain ⟨S, as, M, ρ, st, env, fin⟩ := h
    refine lc_of (W := W) (fi := fi) (test := test) (fe := fe) hmk hv ⟨S, as, M, ρ, st, env, ?_⟩
    exact FinS.bindE (g := fun d M => .nx (ρ.set i (some d)) M) fin env fun S1 as1 M1 d v H1 e1 st1 env1 rx fin1 => fin_nx st1 (env1.set rx) fin1
end
end DL
set_option Elab.async false
set_option maxRecDepth 100000
set_option maxHeartbeats 2000000
namespace DL
open PySem PySem.Spec PyProof.Rows L2

/-! ### calls of built-ins -/
theorem _root_.L2.CallR.orr {X : Cx} {f : Value} {r r' : List V → Hp → VK → Prop} (h : CallR X f r) (h' : CallR X f r') : CallR X f (fun xs H Q => r xs H Q ∨ r' xs H Q) := by
  intro pins s σ H xs us Q I rv q
  rcases q with q | q
  · exact h pins s σ H xs us Q I rv q
  · exact h' pins s σ H xs us Q I rv q
section
variable {X : Cx} {W : WX} {pos : Pos} {tg a b e : Expr} {es : List Expr} {fa fb fe : Env → C D} {fs : Env → C (List D)} {p : Pos} {x : Str}
theorem pd_callTy {T : String} {r : List V → Hp → VK → Prop} {g : List D → C D} (hr : CallR X (.type T) r) (hd : DrN X.K r g) (hm : X.mg x = none) (ha : PDs X W (e :: es) fs) (hv : bootBuiltins x = some (.type T) := by decide +kernel)
    (hg : Gl X x := by rfl) (hn : x ≠ "__name__" := by decide) (hdb : (x == ("__debug__" : Str)) = false := by decide) (hs : starEach (e :: es) X.env = (false, eval e X.env) :: starEach es X.env := by rfl) (hpl : (backTo pos (starEach es X.env)).any (·.1) = false := by rfl) : PD X W (.Call (.Name x p) (e :: es) [] pos) (eN g fs) :=
  (pe_callTy hr hg hm hv ha hn hdb hs hpl).up fun σ H Q h => by
    obtain ⟨S, as, M, ρ, st, env, fin⟩ := h
    exact ⟨S, as, M, ρ, st, env, Fin.bind (g := g) fin env fun S1 as1 M1 xs vs H1 e1 st1 env1 rx fin1 => hd S1 as1 M1 H1 σ ρ W xs vs Q st1 rx fin1⟩
/-- len -/
def lenD (M : Mem) : D → Option Nat
  | .v (.str z) => some z.length
  | .dK ks _ => some ks.length
  | .dT ks _ => some ks.length
  | .h k => match M[k]? with
    | some (.lst ds) => some ds.length
    | some (.dK ks _) => some ks.length
    | some (.dT ks _) => some ks.length
    | _ => none
  | .tup ds => some ds.length
  | .lst ds => some ds.length
  | .ro ds => some ds.length
  | _ => none
def gLen : List D → C D := fun xs M => match xs with
  | [x] => match lenD M x with
    | some n => .ok (.v (.int (n : Int))) M
    | none => .stuck
  | _ => .stuck
abbrev rLenAll (K : PySem.W.Frag) : List V → Hp → VK → Prop := fun xs H Q => (∃ x n, xs = [x] ∧ LenV K x H n ∧ Q (.int n) H) ∨ (∃ a kvs, xs = [V.ref a] ∧ H a = some (.dK kvs) ∧ Q (.int kvs.length) H) ∨ rLenT xs H Q
theorem dr_len {K : PySem.W.Frag} : DrN K (rLenAll K) gLen := by
  intro S as M H σ ρ W xs vs Q st rx fin
  have lq := line_eq
  unfold gLen at fin
  split at fin
  · rename_i x
    obtain ⟨v, e2, r1⟩ := reps1 rx
    subst e2
    split at fin
    · rename_i n hn
      have hQ : Q (.int (n : Int)) H := fin_ok (d := .v (.int (n : Int))) st ⟨rfl, rfl⟩ fin
      cases x with
      | v z =>
        cases z with
        | str z =>
          cases hn
          obtain ⟨r1, r2⟩ := r1
          subst r1
          exact .inl ⟨_, _, rfl, ⟨by have := (okV_str r2).2; omega, rfl⟩, hQ⟩
        | _ => cases hn
      | tup ds =>
        cases hn
        obtain ⟨a, vs, h1, h2, h3, h4⟩ := tup_of st r1
        subst h1
        exact .inl ⟨_, _, rfl, .inr ⟨vs, h2, h3.length⟩, hQ⟩
      | lst ds =>
        cases hn
        obtain ⟨a, vs, h1, h2, h3, h4⟩ := lst_of st r1 rfl
        subst h1
        exact .inl ⟨_, _, rfl, .inl ⟨vs, h2, h3.length⟩, hQ⟩
      | ro ds =>
        cases hn
        obtain ⟨a, vs, h1, h2, h3, h4⟩ := lst_of st r1 rfl
        subst h1
        exact .inl ⟨_, _, rfl, .inl ⟨vs, h2, h3.length⟩, hQ⟩
      | dK ks ds =>
        cases hn
        obtain ⟨a, kvs, h1, h2, h3, h4⟩ := r1
        subst h1 h3
        refine .inr (.inl ⟨a, kvs, rfl, st.ex _ _ h2, ?_⟩)
        simpa using hQ
      | dT ks ds =>
        cases hn
        obtain ⟨a, kvs, h1, h2, h3, h4⟩ := r1
        subst h1 h3
        refine .inr (.inr ⟨a, kvs, rfl, st.ex _ _ h2, ?_⟩)
        simpa using hQ
      | h k =>
        obtain ⟨a, h1, h2⟩ := r1
        subst h2
        unfold lenD at hn
        cases ec : M[k]? with
        | none => simp [ec] at hn
        | some c =>
          obtain ⟨_, ho, eh, ro⟩ := st.cell k c a ec h1
          cases c with
          | lst ds =>
            simp only [ec] at hn
            cases hn
            cases ho with
            | lst vs => exact .inl ⟨_, _, rfl, .inl ⟨vs, SqL.of eh, ro.1.length⟩, hQ⟩
            | _ => exact ro.elim
          | dK ks ds =>
            simp only [ec] at hn
            cases hn
            cases ho with
            | dK kvs =>
              obtain ⟨q1, q2⟩ := ro
              subst q1
              refine .inr (.inl ⟨a, kvs, rfl, eh, ?_⟩)
              simpa using hQ
            | _ => exact ro.elim
          | dT ks ds =>
            simp only [ec] at hn
            cases hn
            cases ho with
            | dT kvs =>
              obtain ⟨q1, q2⟩ := ro
              subst q1
              refine .inr (.inr ⟨a, kvs, rfl, eh, ?_⟩)
              simpa using hQ
            | _ => exact ro.elim
          | _ => simp [ec] at hn
      | ins _ _ _ => cases hn
    · exact fin.elim
  · exact fin.elim
theorem pd_len (hm : X.mg "len" = none) (ha : PDs X W [a] fs) (hg : Gl X "len" := by rfl) (hs : starEach [a] X.env = (false, eval a X.env) :: starEach [] X.env := by rfl) (hpl : (backTo pos (starEach [] X.env)).any (·.1) = false := by rfl) : PD X W (.Call (.Name "len" p) [a] [] pos) (eN gLen fs) :=
  pd_callB (call_len.orr (call_lenD.orr call_len_dT)) dr_len hm boot_len ha hg (by decide) (by decide) hs hpl
/-- abs -/
def gAbs : List D → C D := fun xs M => match xs with
  | [.v (.int i)] => .ok (.v (.int (if i < 0 then -i else i))) M
  | _ => .stuck
theorem pd_abs (hm : X.mg "abs" = none) (ha : PDs X W [a] fs) (hg : Gl X "abs" := by rfl) (hs : starEach [a] X.env = (false, eval a X.env) :: starEach [] X.env := by rfl) (hpl : (backTo pos (starEach [] X.env)).any (·.1) = false := by rfl) : PD X W (.Call (.Name "abs" p) [a] [] pos) (eN gAbs fs) :=
  pd_callB call_abs (fun S as M H σ ρ W xs vs Q st rx fin => by
    unfold gAbs at fin
    split at fin
    · rename_i i
      obtain ⟨v, e2, r1⟩ := reps1 rx
      obtain ⟨r1, _⟩ := r1
      subst r1
      exact ⟨i, e2, fin_ok (d := .v (.int _)) st ⟨rfl, rfl⟩ fin⟩
    · exact fin.elim) hm (by decide +kernel) ha hg (by decide) (by decide) hs hpl
/-- int of an int, of a bool -/
def gInt : List D → C D := fun xs M => match xs with
  | [.v (.int i)] => .ok (.v (.int i)) M
  | [.v (.bl k)] => .ok (.v (.int (if k = true then 1 else 0))) M
  | _ => .stuck
theorem pd_intOf (hm : X.mg "int" = none) (ha : PDs X W [a] fs) (hg : Gl X "int" := by rfl) (hs : starEach [a] X.env = (false, eval a X.env) :: starEach [] X.env := by rfl) (hpl : (backTo pos (starEach [] X.env)).any (·.1) = false := by rfl) : PD X W (.Call (.Name "int" p) [a] [] pos) (eN gInt fs) :=
  pd_callTy call_int1 (fun S as M H σ ρ W xs vs Q st rx fin => by
    unfold gInt at fin
    split at fin
    · rename_i i
      obtain ⟨v, e2, r1⟩ := reps1 rx
      obtain ⟨r1, _⟩ := r1
      subst r1
      exact .inl ⟨i, e2, fin_ok (d := .v (.int _)) st ⟨rfl, rfl⟩ fin⟩
    · rename_i k
      obtain ⟨v, e2, r1⟩ := reps1 rx
      obtain ⟨r1, _⟩ := r1
      subst r1
      exact .inr ⟨k, e2, fin_ok (d := .v (.int _)) st ⟨rfl, rfl⟩ fin⟩
    · exact fin.elim) hm ha (by decide +kernel) hg (by decide) (by decide) hs hpl
/-- min, max of two ints -/
def gMax2 : List D → C D := fun xs M => match xs with
  | [.v (.int i), .v (.int j)] => .ok (.v (.int (if j > i then j else i))) M
  | _ => .stuck
def gMin2 : List D → C D := fun xs M => match xs with
  | [.v (.int i), .v (.int j)] => .ok (.v (.int (if j < i then j else i))) M
  | _ => .stuck
theorem pd_max2 (hc : X.calm = true) (hm : X.mg "max" = none) (ha : PDs X W [a, b] fs) (hg : Gl X "max" := by rfl) (hs : starEach [a, b] X.env = (false, eval a X.env) :: starEach [b] X.env := by rfl) (hpl : (backTo pos (starEach [b] X.env)).any (·.1) = false := by rfl) : PD X W (.Call (.Name "max" p) [a, b] [] pos) (eN gMax2 fs) :=
  pd_callB (call_max2 hc) (fun S as M H σ ρ W xs vs Q st rx fin => by
    unfold gMax2 at fin
    split at fin
    · rename_i i j
      obtain ⟨v, v', e2, r1, r2⟩ := reps2 rx
      obtain ⟨r1, _⟩ := r1
      obtain ⟨r2, _⟩ := r2
      subst r1 r2
      exact ⟨i, j, e2, fin_ok (d := .v (.int _)) st ⟨rfl, rfl⟩ fin⟩
    · exact fin.elim) hm (by decide +kernel) ha hg (by decide) (by decide) hs hpl
theorem pd_min2 (hc : X.calm = true) (hm : X.mg "min" = none) (ha : PDs X W [a, b] fs) (hg : Gl X "min" := by rfl) (hs : starEach [a, b] X.env = (false, eval a X.env) :: starEach [b] X.env := by rfl) (hpl : (backTo pos (starEach [b] X.env)).any (·.1) = false := by rfl) : PD X W (.Call (.Name "min" p) [a, b] [] pos) (eN gMin2 fs) :=
  pd_callB (call_min2 hc) (fun S as M H σ ρ W xs vs Q st rx fin => by
    unfold gMin2 at fin
    split at fin
    · rename_i i j
      obtain ⟨v, v', e2, r1, r2⟩ := reps2 rx
      obtain ⟨r1, _⟩ := r1
      obtain ⟨r2, _⟩ := r2
      subst r1 r2
      exact ⟨i, j, e2, fin_ok (d := .v (.int _)) st ⟨rfl, rfl⟩ fin⟩
    · exact fin.elim) hm (by decide +kernel) ha hg (by decide) (by decide) hs hpl
/-- sum of a list of ints -/
def intOf : D → Option Int
  | .v (.int i) => some i
  | _ => none
def intsOf (ds : List D) : Option (List Int) := ds.mapM intOf
theorem Reps.ints {K : PySem.W.Frag} {S : Hp} {as : List Addr} : ∀ {ds : List D} {vs : List V} {ns : List Int}, Reps K S as ds vs → intsOf ds = some ns → vs = ns.map V.int
  | [], vs, ns, h, e => by
    have h : vs = [] := h
    subst h
    simp [intsOf] at e; subst e; rfl
  | d :: ds, vs, ns, h, e => by
    obtain ⟨v, r, h1, h2, h3⟩ := h
    subst h1
    unfold intsOf at e
    rw [List.mapM_cons] at e
    cases d with
    | v z =>
      cases z with
      | int i =>
        cases e2 : ds.mapM intOf with
        | none => simp [intOf, e2] at e
        | some ys =>
          simp [intOf, e2] at e
          subst e
          obtain ⟨h2, _⟩ := h2
          subst h2
          rw [Reps.ints h3 e2]; rfl
      | _ => simp [intOf] at e
    | _ => simp [intOf] at e
def gSum : List D → C D := fun xs M => match xs with
  | [x] => match lstOf M x with
    | some ds => match intsOf ds with
      | some ns => .ok (.v (.int ns.sum)) M
      | none => .stuck
    | none => .stuck
  | _ => .stuck
theorem pd_sum (hc : X.calm = true) (hm : X.mg "sum" = none) (ha : PDs X W [a] fs) (hg : Gl X "sum" := by rfl) (hs : starEach [a] X.env = (false, eval a X.env) :: starEach [] X.env := by rfl) (hpl : (backTo pos (starEach [] X.env)).any (·.1) = false := by rfl) : PD X W (.Call (.Name "sum" p) [a] [] pos) (eN gSum fs) :=
  pd_callB (cr_sum hc) (fun S as M H σ ρ W xs vs Q st rx fin => by
    unfold gSum at fin
    split at fin
    · obtain ⟨v, e2, r1⟩ := reps1 rx
      subst e2
      split at fin
      · rename_i ds hd
        split at fin
        · rename_i ns hn
          obtain ⟨a, us, h1, h2, h3, h4⟩ := lst_of st r1 hd
          subst h1
          have := h3.ints hn
          subst this
          exact ⟨a, ns, rfl, h2, fin_ok (d := .v (.int _)) st ⟨rfl, rfl⟩ fin⟩
        · exact fin.elim
      · exact fin.elim
    · exact fin.elim) hm (by decide +kernel) ha hg (by decide) (by decide) hs hpl
/-- list of a list, of a tuple: mk says whether a value or a cell -/
def gListOf (mk : List D → Mem → Out D) : List D → C D := fun xs M => match xs with
  | [x] => match seqOf M x with
    | some ds => mk ds M
    | none => .stuck
  | _ => .stuck
/-- mk may be done with a new list -/
def MkN (K : PySem.W.Frag) (mk : List D → Mem → Out D) : Prop := ∀ S as H W σ ρ M ds vs p Q, St K S as M H → H p = none → Reps K S as ds vs → ds.length ≤ sizeLine → Fin (RepR K) K S as H W σ ρ (mk ds M) Q → Q (.ref p) (upd H p (.lst vs))
theorem mkV_n {K : PySem.W.Frag} : MkN K mkV := fun S as H W σ ρ M ds vs p Q st n r hl fin => fin_lst st fin r hl n
theorem mkH_n {K : PySem.W.Frag} : MkN K mkH := fun S as H W σ ρ M ds vs p Q st n r hl fin => fin_cell st fin ⟨r, hl⟩ n
theorem pd_listOf {mk : List D → Mem → Out D} (hmk : MkN X.K mk) (hm : X.mg "list" = none) (ha : PDs X W [a] fs) (hg : Gl X "list" := by rfl) (hs : starEach [a] X.env = (false, eval a X.env) :: starEach [] X.env := by rfl) (hpl : (backTo pos (starEach [] X.env)).any (·.1) = false := by rfl) : PD X W (.Call (.Name "list" p) [a] [] pos) (eN (gListOf mk) fs) :=
  pd_callTy call_list_of (fun S as M H σ ρ W xs vs Q st rx fin => by
    unfold gListOf at fin
    split at fin
    · obtain ⟨v, e2, r1⟩ := reps1 rx
      subst e2
      split at fin
      · rename_i ds hd
        obtain ⟨a, us, h1, h2, h3, h4⟩ := seq_of st r1 hd
        subst h1
        exact ⟨a, us, rfl, h2, fun l n => hmk S as H W σ ρ M ds us l Q st n h3 h4 fin⟩
      · exact fin.elim
    · exact fin.elim) hm ha (by decide +kernel) hg (by decide) (by decide) hs hpl
/-- displays -/
def gLst (mk : List D → Mem → Out D) : List D → C D := fun xs M => if xs.length ≤ 16777216 then mk xs M else .stuck
def gTup : List D → C D := fun xs M => if xs.length ≤ 16777216 then .ok (.tup xs) M else .stuck
theorem pd_lst {mk : List D → Mem → Out D} (hmk : MkN X.K mk) (ha : PDs X W es fs) : PD X W (.List es pos) (eN (gLst mk) fs) := (pe_lst ha).up fun σ H Q h => by
  obtain ⟨S, as, M, ρ, st, env, fin⟩ := h
  have lq := line_eq
  refine ⟨S, as, M, ρ, st, env, Fin.bind (g := gLst mk) fin env fun S1 as1 M1 xs vs H1 e1 st1 env1 rx fin1 => ?_⟩
  unfold gLst at fin1
  split at fin1
  · rename_i hl
    exact ⟨by rw [← Reps.length rx]; omega, fun p n => hmk S1 as1 H1 W σ ρ M1 xs vs p Q st1 n rx (by omega) fin1⟩
  · exact fin1.elim
theorem pd_tup {k} (ha : PDs X W es fs) : PD X W (.Tuple es k pos) (eN gTup fs) := (pe_tup ha).up fun σ H Q h => by
  obtain ⟨S, as, M, ρ, st, env, fin⟩ := h
  have lq := line_eq
  refine ⟨S, as, M, ρ, st, env, Fin.bind (g := gTup) fin env fun S1 as1 M1 xs vs H1 e1 st1 env1 rx fin1 => ?_⟩
  unfold gTup at fin1
  split at fin1
  · rename_i hl
    exact ⟨by rw [← Reps.length rx]; omega, fun p n => fin_tup st1 fin1 rx (by omega) n⟩
  · exact fin1.elim
/-! isinstance of data, built-in classes -/
def tyN (M : Mem) : D → Option String
  | .v .non => some "NoneType"
  | .v (.bl _) => some "bool"
  | .v (.int _) => some "int"
  | .v (.str _) => some "str"
  | .tup _ => some "tuple"
  | .lst _ => some "list"
  | .dK _ _ => some "dict"
  | .dT _ _ => some "dict"
  | .h k => match M[k]? with
    | some (.lst _) => some "list"
    | some (.dK _ _) => some "dict"
    | some (.dT _ _) => some "dict"
    | _ => none
  | _ => none
def gIsi : List D → C D := fun xs M => match xs with
  | [x, .v (.ty c)] => match tyN M x with
    | some t => match kitB t c with
      | some b => .ok (.v (.bl b)) M
      | none => .stuck
    | none => .stuck
  | _ => .stuck
theorem ty_of {K : PySem.W.Frag} {S : Hp} {as : List Addr} {M : Mem} {H : Hp} {d : D} {v : V} {t : String} (st : St K S as M H) (r : Rep K S as d v) (h : tyN M d = some t) : TyX K H v (.type t) := by
  cases d with
  | v z =>
    obtain ⟨r1, _⟩ := r
    subst r1
    cases v with
    | non => cases h; exact .base .non
    | bl b => cases h; exact .base (.bl b)
    | int i => cases h; exact .base (.int i)
    | str s => cases h; exact .base (.str s)
    | _ => cases h
  | tup ds =>
    cases h
    obtain ⟨a, vs, h1, h2, h3, h4⟩ := tup_of st r
    subst h1
    rcases h2 with (h2 | ⟨o, h2⟩) | ⟨o, its, n, h2, h5, _⟩
    · exact .base (.tup h2)
    · exact .fTuple h2
    · exact .kTuple h2 h5
  | lst ds =>
    cases h
    obtain ⟨a, vs, h1, h2, h3, h4⟩ := ml_of st r rfl
    subst h1
    exact .base (.lst h2)
  | dK ks ds =>
    cases h
    obtain ⟨a, kvs, h1, h2, _⟩ := r
    subst h1
    exact .base (.dK (st.ex _ _ h2))
  | dT ks ds =>
    cases h
    obtain ⟨a, kvs, h1, h2, _⟩ := r
    subst h1
    exact .base (.dT (st.ex _ _ h2))
  | h k =>
    obtain ⟨a, h1, h2⟩ := r
    subst h2
    unfold tyN at h
    cases ec : M[k]? with
    | none => simp [ec] at h
    | some c =>
      obtain ⟨_, ho, eh, ro⟩ := st.cell k c a ec h1
      cases c with
      | lst ds =>
        simp only [ec] at h
        cases h
        cases ho with
        | lst vs => exact .base (.lst eh)
        | _ => exact ro.elim
      | dK ks ds =>
        simp only [ec] at h
        cases h
        cases ho with
        | dK kvs => exact .base (.dK eh)
        | _ => exact ro.elim
      | dT ks ds =>
        simp only [ec] at h
        cases h
        cases ho with
        | dT kvs => exact .base (.dT eh)
        | _ => exact ro.elim
      | _ => simp [ec] at h
  | _ => cases h
theorem pd_isi (hm : X.mg "isinstance" = none) (ha : PDs X W [a, b] fs) (hg : Gl X "isinstance" := by rfl) (hs : starEach [a, b] X.env = (false, eval a X.env) :: starEach [b] X.env := by rfl) (hpl : (backTo pos (starEach [b] X.env)).any (·.1) = false := by rfl) : PD X W (.Call (.Name "isinstance" p) [a, b] [] pos) (eN gIsi fs) :=
  pd_callB call_isi (fun S as M H σ ρ W xs vs Q st rx fin => by
    unfold gIsi at fin
    split at fin
    · rename_i x c
      obtain ⟨v, v', e2, r1, r2⟩ := reps2 rx
      obtain ⟨r2, _⟩ := r2
      subst r2
      split at fin
      · rename_i t ht
        split at fin
        · rename_i bb hb
          exact ⟨v, .ty c, .type t, .type c, bb, e2, .ty c, ty_of st r1 ht, kit_ty hb, fin_ok (d := .v (.bl _)) st ⟨rfl, rfl⟩ fin⟩
        · exact fin.elim
      · exact fin.elim
    · exact fin.elim) hm (by decide +kernel) ha hg (by decide) (by decide) hs hpl
/-- the name of a built-in class as a value -/
theorem pd_tyName {T : String} (hm : X.mg x = none) (hv : bootBuiltins x = some (.type T) := by decide +kernel) (hg : Gl X x := by rfl) (hn : x ≠ "__name__" := by decide) (hdb : (x == ("__debug__" : Str)) = false := by decide) : PD X W (.Name x pos) (eC (.v (.ty T))) := pd_c (pe_bltn hg hm hv rfl hn hdb) rfl
/-- a module's int -/
theorem pd_gInt {i : Int} {t : Tok} (hm : X.mg x = some (.int i t)) (hg : Gl X x := by rfl) (hdb : (x == ("__debug__" : Str)) = false := by decide) : PD X W (.Name x pos) (eC (.v (.int i))) := pd_c (pe_glob hg hm ⟨t, rfl⟩ hdb) rfl
theorem pd_gStr {i : Str} {t : Tok} (hm : X.mg x = some (.str i t)) (ok : okV (.str i) = true := by decide +kernel) (hg : Gl X x := by rfl) (hdb : (x == ("__debug__" : Str)) = false := by decide) : PD X W (.Name x pos) (eC (.v (.str i))) := pd_c (pe_glob hg hm ⟨t, rfl⟩ hdb) ok

/-! ### stores, methods that change a list -/
def storeD (M : Mem) (o i d : D) : Option Mem := match o with
  | .h k => match i with
    | .v (.int z) => match M[k]? with
      | some (.lst ds) => match ixN ds.length z with
        | some j => some (M.set k (.lst (ds.set j d)))
        | none => none
      | _ => none
    | _ => none
  | _ => none
def sStore (fo fi fe : Env → C D) : Cs := fun ρ => sE (fe ρ) ρ fun d => sE (fo ρ) ρ fun o => sE (fi ρ) ρ fun i M => match storeD M o i d with
  | some M' => .nx ρ M'
  | none => .stuck
theorem sd_store {o i : Expr} {fo fi : Env → C D} {tp : Pos} (ho : PD X W o fo) (hi : PD X W i fi) (he : PD X W e fe)
    (ha : ∀ v, assign (.Subscript o i tp) X.env v = (do
      let ov ← holding [v] (eval o X.env)
      let iv ← holding [v, ov] (eval i X.env)
      standAt tp
      holding [v, ov, iv] (setItem ov iv v)
      release [v, ov, iv] []) := by intro _; rfl)
    (hs : swapsWithSole [.Subscript o i tp] e pos.line X.env = pure false := by rfl) (hw : swappedStores [.Subscript o i tp] e X.env = pure none := by rfl)
    (h1 : (assignEach [.Subscript o i tp] X.env).map (·.2) = [assign (.Subscript o i tp) X.env] := by rfl) : SD X W (.Assign [.Subscript o i tp] e pos) (sStore fo fi fe) :=
  (ps_asg he (pg_sub ho hi set_list ha) hs hw h1).up fun De σ H h => by
    obtain ⟨S, as, M, ρ, st, env, fin⟩ := h
    refine ⟨S, as, M, ρ, st, env, FinS.bindE (g := fun d => sE (fo ρ) ρ fun o => sE (fi ρ) ρ fun i M => match storeD M o i d with
      | some M' => .nx ρ M'
      | none => .stuck) fin env fun S1 as1 M1 d v H1 e1 st1 env1 rd fin1 => ?_⟩
    refine ⟨S1, as1, M1, ρ, st1, env1, FinS.bindE (g := fun o => sE (fi ρ) ρ fun i M => match storeD M o i d with
      | some M' => .nx ρ M'
      | none => .stuck) fin1 env1 fun S2 as2 M2 o' ov H2 e2 st2 env2 ro fin2 => ?_⟩
    refine ⟨S2, as2, M2, ρ, st2, env2, FinS.bindE (g := fun i M => match storeD M o' i d with
      | some M' => .nx ρ M'
      | none => .stuck) fin2 env2 fun S3 as3 M3 i' iv H3 e3 st3 env3 ri fin3 => ?_⟩
    have ro3 := Rep.mono e3.same e3.pre _ _ ro
    have rd3 := Rep.mono (e2.trans e3).same (e2.trans e3).pre _ _ rd
    split at fin3
    · rename_i M' hM
      unfold storeD at hM
      split at hM
      · rename_i k
        split at hM
        · rename_i z
          split at hM
          · rename_i ds hk
            split at hM
            · rename_i j hj
              cases hM
              obtain ⟨a, h1, h2⟩ := ro3
              subst h2
              obtain ⟨us, h3, h4, h5⟩ := cell_lst st3 hk h1
              refine ⟨a, us, z, j, rfl, ri.1, h3, by rw [← h4.length]; exact hj, ?_⟩
              have stw := st3.write (c := .lst (ds.set j d)) (ho := .lst (us.set j v)) hk h1 ⟨h4.set j rd3, by simpa using h5⟩
              exact fin3 S3 as3 σ _ (Ext.write h1) stw env3
            · cases hM
          · cases hM
        · cases hM
      · cases hM
    · exact fin3.elim
/-- a method of a built-in type -/
def tyOk (T : String) (M : Mem) : D → Bool
  | .v (.str _) => T == "str"
  | .lst _ => T == "list"
  | .ro _ => T == "list"
  | .h k => match M[k]? with
    | some (.lst _) => T == "list"
    | some (.dK _ _) => T == "dict"
    | some (.dT _ _) => T == "dict"
    | _ => false
  | _ => false
def eM (T : String) (g : D → List D → C D) (fo : Env → C D) (fs : Env → C (List D)) : Env → C D := fun ρ => (fo ρ).bind fun x M => if tyOk T M x = true then (fs ρ).bind (g x) M else .stuck
def DrM (K : PySem.W.Frag) (r : V → List V → Hp → VK → Prop) (g : D → List D → C D) : Prop := ∀ S as M H σ ρ W x v xs vs Q, St K S as M H → Rep K S as x v → Reps K S as xs vs → Fin (RepR K) K S as H W σ ρ (g x xs M) Q → r v vs H Q
theorem tyOk_of {K : PySem.W.Frag} {S : Hp} {as : List Addr} {M : Mem} {H : Hp} {T : String} {d : D} {v : V} (st : St K S as M H) (r : Rep K S as d v) (h : tyOk T M d = true) : tyV K T v H := by
  cases d with
  | v z =>
    obtain ⟨r1, _⟩ := r
    subst r1
    cases v with
    | str s =>
      have h' : T = "str" := by simpa [tyOk] using h
      exact h'
    | _ => simp [tyOk] at h
  | lst ds =>
    obtain ⟨a, vs, h1, h2, h3, h4⟩ := lst_of st r rfl
    subst h1
    exact .inl ⟨by simpa [tyOk] using h, vs, h2⟩
  | ro ds =>
    obtain ⟨a, vs, h1, h2, h3, h4⟩ := lst_of st r rfl
    subst h1
    exact .inl ⟨by simpa [tyOk] using h, vs, h2⟩
  | h k =>
    obtain ⟨a, h1, h2⟩ := r
    subst h2
    unfold tyOk at h
    cases ec : M[k]? with
    | none => simp [ec] at h
    | some c =>
      obtain ⟨_, ho, eh, ro⟩ := st.cell k c a ec h1
      cases c with
      | lst ds =>
        simp only [ec] at h
        cases ho with
        | lst vs => exact .inl ⟨by simpa using h, vs, SqL.of eh⟩
        | _ => exact ro.elim
      | dK ks ds =>
        simp only [ec] at h
        cases ho with
        | dK kvs => exact .inr (.inr (.inl ⟨by simpa using h, .inl ⟨kvs, eh⟩⟩))
        | _ => exact ro.elim
      | dT ks ds =>
        simp only [ec] at h
        cases ho with
        | dT kvs => exact .inr (.inr (.inl ⟨by simpa using h, .inr ⟨kvs, eh⟩⟩))
        | _ => exact ro.elim
      | _ => simp [ec] at h
  | _ => simp [tyOk] at h
theorem pd_bm {o : Expr} {fo : Env → C D} {name : Str} {apos cpos : Pos} {T id : String} {r : V → List V → Hp → VK → Prop} {g : D → List D → C D} (pa : PlainAttrs T) (slot : Slot T name id) (hty : typeOf (.builtin id) = pure (.type "method_descriptor")) (hm : MtR X id r) (hd : DrM X.K r g) (ho : PD X W o fo) (ha : PDs X W (e :: es) fs)
    (hbase : attributeBase o name X.env (eval o X.env) = eval o X.env := by rfl)
    (hfew : ((backTo cpos (starEach (e :: es) X.env)).all (fun x => !x.1) && (backToKw cpos (keywordEach [] X.env)).all (fun x => x.1.isSome)
      && decide ((e :: es).length + ([] : List Keyword).length + (if ([] : List Keyword).isEmpty then 0 else 1) < 30)) = true := by rfl)
    (hline : (apos.endLine == cpos.line) = true := by rfl) (hs : starEach (e :: es) X.env = (false, eval e X.env) :: starEach es X.env := by rfl) (hplain : (backTo cpos (starEach es X.env)).any (·.1) = false := by rfl) : PD X W (.Call (.Attribute o name apos) (e :: es) [] cpos) (eM T g fo fs) :=
  (pe_bm pa slot hty hm ho ha hbase hfew hline hs hplain).up fun σ H Q h => by
    obtain ⟨S, as, M, ρ, st, env, fin⟩ := h
    refine ⟨S, as, M, ρ, st, env, Fin.bind (g := fun x M => if tyOk T M x = true then (fs ρ).bind (g x) M else .stuck) fin env fun S1 as1 M1 x v H1 e1 st1 env1 rx fin1 => ?_⟩
    split at fin1
    · rename_i ht
      refine ⟨tyOk_of st1 rx ht, S1, as1, M1, ρ, st1, env1, Fin.bind (g := g x) fin1 env1 fun S2 as2 M2 xs vs H2 e2 st2 env2 rs fin2 => ?_⟩
      exact hd S2 as2 M2 H2 σ ρ W x v xs vs Q st2 (Rep.mono e2.same e2.pre _ _ rx) rs fin2
    · exact fin1.elim
theorem pd_bm0 {o : Expr} {fo : Env → C D} {name : Str} {apos cpos : Pos} {T id : String} {r : V → List V → Hp → VK → Prop} {g : D → List D → C D} (pa : PlainAttrs T) (slot : Slot T name id) (hty : typeOf (.builtin id) = pure (.type "method_descriptor")) (hm : MtR X id r) (hd : DrM X.K r g) (ho : PD X W o fo)
    (hbase : attributeBase o name X.env (eval o X.env) = eval o X.env := by rfl) (hline : (apos.endLine == cpos.line) = true := by rfl) : PD X W (.Call (.Attribute o name apos) [] [] cpos) (eM T g fo eNil) :=
  (pe_bm0 pa slot hty hm ho hbase hline).up fun σ H Q h => by
    obtain ⟨S, as, M, ρ, st, env, fin⟩ := h
    refine ⟨S, as, M, ρ, st, env, Fin.bind (g := fun x M => if tyOk T M x = true then (eNil ρ).bind (g x) M else .stuck) fin env fun S1 as1 M1 x v H1 e1 st1 env1 rx fin1 => ?_⟩
    split at fin1
    · rename_i ht
      exact ⟨tyOk_of st1 rx ht, hd S1 as1 M1 H1 σ ρ W x v [] [] Q st1 rx Reps.nil fin1⟩
    · exact fin1.elim
/-- xs.append(d) -/
def gAppend : D → List D → C D := fun x xs M => match x with
  | .h k => match xs with
    | [d] => match M[k]? with
      | some (.lst ds) => if ds.length < 16777216 then .ok (.v .non) (M.set k (.lst (ds ++ [d]))) else .stuck
      | _ => .stuck
    | _ => .stuck
  | _ => .stuck
theorem dr_append {K : PySem.W.Frag} : DrM K rAppend gAppend := by
  intro S as M H σ ρ W x v xs vs Q st rx rs fin
  have lq := line_eq
  unfold gAppend at fin
  split at fin
  · rename_i k
    split at fin
    · rename_i d
      split at fin
      · rename_i ds hk
        split at fin
        · rename_i hl
          obtain ⟨a, h1, h2⟩ := rx
          subst h2
          obtain ⟨u, e2, r1⟩ := reps1 rs
          obtain ⟨us, h3, h4, h5⟩ := cell_lst st hk h1
          refine ⟨a, us, u, rfl, e2, h3, by rw [← h4.length]; omega, ?_⟩
          exact fin S as .non _ (Ext.write h1) (st.write (c := .lst (ds ++ [d])) hk h1 ⟨h4.append (Reps.cons r1 Reps.nil), by simp; omega⟩) ⟨rfl, rfl⟩
        · exact fin.elim
      · exact fin.elim
    · exact fin.elim
  · exact fin.elim
theorem pd_append {o : Expr} {fo : Env → C D} {apos cpos : Pos} (ho : PD X W o fo) (ha : PDs X W [e] fs) (hbase : attributeBase o "append" X.env (eval o X.env) = eval o X.env := by rfl)
    (hfew : ((backTo cpos (starEach [e] X.env)).all (fun x => !x.1) && (backToKw cpos (keywordEach [] X.env)).all (fun x => x.1.isSome)
      && decide (([e] : List Expr).length + ([] : List Keyword).length + (if ([] : List Keyword).isEmpty then 0 else 1) < 30)) = true := by rfl)
    (hline : (apos.endLine == cpos.line) = true := by rfl) (hs : starEach [e] X.env = (false, eval e X.env) :: starEach [] X.env := by rfl) (hplain : (backTo cpos (starEach [] X.env)).any (·.1) = false := by rfl) : PD X W (.Call (.Attribute o "append" apos) [e] [] cpos) (eM "list" gAppend fo fs) :=
  pd_bm PySem.F.plainAttrs_list PySem.F.slot_list_append PySem.F.type_list_append mt_append dr_append ho ha hbase hfew hline hs hplain
/-! name op= e -/
def sAug (i : Nat) (g : D → D → C D) (fe : Env → C D) : Cs := fun ρ => match ρ[i]? with
  | some (some x) => sE (fe ρ) ρ fun y => sE (g x y) ρ fun z M => .nx (ρ.set i (some z)) M
  | _ => fun _ => .stuck
theorem sd_aug {i : Nat} {op : Operator} {r : R2} {g : D → D → C D} {pos' : Pos} (hN : X.N.Nodup) (ho : OpR X (inplaceOp op) r) (hr : Dr2 X.K r g) (he : PD X W e fe) (hi : X.N[i]? = some x := by rfl) (hx : Loc X.env.scope x := by first | exact Or.inl rfl | exact Or.inr rfl)
    (hf : X.fn x = true ∨ X.env.scope.names.lookup x = some .local := by first | exact .inl rfl | exact .inr rfl) : SD X W (.AugAssign (.Name x pos') op e pos) (sAug i g fe) :=
  (ps_aug hN hi hx he ho hf).up fun De σ H h => by
    obtain ⟨S, as, M, ρ, st, env, fin⟩ := h
    unfold sAug at fin
    cases er : ρ[i]? with
    | none => simp only [er] at fin; exact fin.elim
    | some o =>
      cases o with
      | none => simp only [er] at fin; exact fin.elim
      | some d =>
        simp only [er] at fin
        obtain ⟨v, h1, h2⟩ := env.2 i d er
        refine ⟨v, h1, ?_⟩
        refine ⟨S, as, M, ρ, st, env, FinS.bindE (g := fun y => sE (g d y) ρ fun z M => .nx (ρ.set i (some z)) M) fin env fun S1 as1 M1 y u H1 e1 st1 env1 ry fin1 => ?_⟩
        refine hr S1 as1 M1 H1 σ ρ W d y v u _ st1 (Rep.mono e1.same e1.pre _ _ h2) ry ?_
        exact FinS.bindE (g := fun z M => .nx (ρ.set i (some z)) M) fin1 env1 fun S2 as2 M2 z w' H2 e2 st2 env2 rz fin2 => fin_nx st2 (env2.set rz) fin2
end
def iAdd : D → D → C D := fun x y M => match x with
  | .v (.int i) => match y with
    | .v (.int j) => .ok (.v (.int (i + j))) M
    | _ => .stuck
  | .v (.str a) => match y with
    | .v (.str b) => if a.length + b.length ≤ 16777216 then .ok (.v (.str (a ++ b))) M else .stuck
    | _ => .stuck
  | _ => .stuck
theorem iop_addAll {X : Cx} : OpR X (inplaceOp .Add) (fun x y H Q => (rI0 fun i j => .int (i + j)) x y H Q ∨ ((fun x y H Q => ∃ i j, x = .str i ∧ y = .str j ∧ i.length + j.length ≤ sizeLine ∧ Q (.str (i ++ j)) H) : R2) x y H Q) := iop_add.or iop_add_str
theorem dr_iadd {K : PySem.W.Frag} : Dr2 K (fun x y H Q => (rI0 fun i j => .int (i + j)) x y H Q ∨ ((fun x y H Q => ∃ i j, x = .str i ∧ y = .str j ∧ i.length + j.length ≤ sizeLine ∧ Q (.str (i ++ j)) H) : R2) x y H Q) iAdd := by
  intro S as M H σ ρ W x y v u Q st rx ry fin
  have lq := line_eq
  unfold iAdd at fin
  split at fin
  · rename_i i
    split at fin
    · rename_i j
      exact .inl ⟨i, j, rx.1, ry.1, fin_ok (d := .v (.int (i + j))) st ⟨rfl, rfl⟩ fin⟩
    · exact fin.elim
  · rename_i a
    split at fin
    · rename_i b
      split at fin
      · rename_i hl
        exact .inr ⟨a, b, rx.1, ry.1, by omega, fin_ok (d := .v (.str (a ++ b))) st ⟨rfl, okV_mk (strOk_app (okV_str rx.2).1 (okV_str ry.2).1) (by rw [len_app]; exact hl)⟩ fin⟩
      · exact fin.elim
    · exact fin.elim
  · exact fin.elim
end DL
set_option Elab.async false
set_option maxRecDepth 100000
set_option maxHeartbeats 2000000
namespace DL
open PySem PySem.Spec PyProof.Rows L2

/-! ### what leaves a def -/
mutual
def hb (n : Nat) : D → Bool
  | .v _ => true
  | .h k => decide (k < n)
  | .tup ds => hbs n ds
  | .lst ds => hbs n ds
  | .ro ds => hbs n ds
  | .ins _ _ ds => hbs n ds
  | .dK _ ds => hbs n ds
  | .dT _ ds => hbs n ds
def hbs (n : Nat) : List D → Bool
  | [] => true
  | d :: ds => hb n d && hbs n ds
end
section
variable {K : PySem.W.Frag} {S S1 : Hp} {as as' : List Addr} {M M1 : Mem} {H H1 : Hp}
mutual
theorem Rep.hb_of : ∀ (d : D) (v : V), Rep K S as d v → hb as.length d = true
  | .v _, _, _ => rfl
  | .h k, v, r => by
    obtain ⟨a, h1, _⟩ := r
    unfold hb
    exact decide_eq_true (List.getElem?_eq_some_iff.mp h1).1
  | .tup ds, v, r => by obtain ⟨a, vs, _, _, h, _⟩ := r; unfold hb; exact Reps.hb_of ds vs h
  | .lst ds, v, r => by obtain ⟨a, vs, _, _, h, _⟩ := r; unfold hb; exact Reps.hb_of ds vs h
  | .ro ds, v, r => by obtain ⟨a, vs, _, _, h, _⟩ := r; unfold hb; exact Reps.hb_of ds vs h
  | .ins _ _ ds, v, r => by obtain ⟨a, dx, fs, _, _, _, h⟩ := r; unfold hb; exact Reps.hb_of ds _ h
  | .dK _ ds, v, r => by obtain ⟨a, kvs, _, _, _, h, _⟩ := r; unfold hb; exact Reps.hb_of ds _ h
  | .dT _ ds, v, r => by obtain ⟨a, kvs, _, _, _, h, _⟩ := r; unfold hb; exact Reps.hb_of ds _ h
theorem Reps.hb_of : ∀ (ds : List D) (vs : List V), Reps K S as ds vs → hbs as.length ds = true
  | [], _, _ => rfl
  | d :: ds, vs, r => by
    obtain ⟨v, r', _, h1, h2⟩ := r
    unfold hbs
    rw [Rep.hb_of d v h1, Reps.hb_of ds r' h2]; rfl
end
mutual
theorem Rep.cutA {n : Nat} (e : ∀ k : Nat, k < n → as[k]? = as'[k]?) : ∀ (d : D) (v : V), Rep K S as' d v → hb n d = true → Rep K S as d v
  | .v _, _, r, _ => r
  | .h k, v, r, q => by
    obtain ⟨a, h1, h2⟩ := r
    unfold hb at q
    exact ⟨a, by rw [e k (of_decide_eq_true q)]; exact h1, h2⟩
  | .tup ds, v, r, q => by obtain ⟨a, vs, h1, h2, h3, h4⟩ := r; unfold hb at q; exact ⟨a, vs, h1, h2, Reps.cutA e ds vs h3 q, h4⟩
  | .lst ds, v, r, q => by obtain ⟨a, vs, h1, h2, h3, h4⟩ := r; unfold hb at q; exact ⟨a, vs, h1, h2, Reps.cutA e ds vs h3 q, h4⟩
  | .ro ds, v, r, q => by obtain ⟨a, vs, h1, h2, h3, h4⟩ := r; unfold hb at q; exact ⟨a, vs, h1, h2, Reps.cutA e ds vs h3 q, h4⟩
  | .ins _ _ ds, v, r, q => by obtain ⟨a, dx, fs, h1, h2, h3, h4⟩ := r; unfold hb at q; exact ⟨a, dx, fs, h1, h2, h3, Reps.cutA e ds _ h4 q⟩
  | .dK _ ds, v, r, q => by obtain ⟨a, kvs, h1, h2, h3, h4, h5⟩ := r; unfold hb at q; exact ⟨a, kvs, h1, h2, h3, Reps.cutA e ds _ h4 q, h5⟩
  | .dT _ ds, v, r, q => by obtain ⟨a, kvs, h1, h2, h3, h4, h5⟩ := r; unfold hb at q; exact ⟨a, kvs, h1, h2, h3, Reps.cutA e ds _ h4 q, h5⟩
theorem Reps.cutA {n : Nat} (e : ∀ k : Nat, k < n → as[k]? = as'[k]?) : ∀ (ds : List D) (vs : List V), Reps K S as' ds vs → hbs n ds = true → Reps K S as ds vs
  | [], _, r, _ => r
  | d :: ds, vs, r, q => by
    obtain ⟨v, r', h0, h1, h2⟩ := r
    unfold hbs at q
    rw [Bool.and_eq_true] at q
    exact ⟨v, r', h0, Rep.cutA e d v h1 q.1, Reps.cutA e ds r' h2 q.2⟩
end
theorem ObjR.hbc {c : D} {ho : HO} (r : ObjR (Reps K S as) c ho) : hb as.length c = true := by
  cases c <;> cases ho <;> first | exact r.elim | (unfold hb; exact Reps.hb_of _ _ r.1) | (unfold hb; exact Reps.hb_of _ _ r.2.2) | (unfold hb; exact Reps.hb_of _ _ r.2.1)
theorem ObjR.cutA {n : Nat} (e : ∀ k : Nat, k < n → as[k]? = as'[k]?) {c : D} {ho : HO} (r : ObjR (Reps K S as') c ho) (q : hb n c = true) : ObjR (Reps K S as) c ho := by
  cases c <;> cases ho <;> first | exact r.elim | (unfold hb at q; exact ⟨Reps.cutA e _ _ r.1 q, r.2⟩) | (unfold hb at q; exact ⟨r.1, r.2.1, Reps.cutA e _ _ r.2.2 q⟩) | (unfold hb at q; exact ⟨r.1, Reps.cutA e _ _ r.2.1 q, r.2.2⟩)
/-- the cells that stood ahead hold nothing new -/
def CellsOk (M M1 : Mem) : Prop := ∀ k : Nat, k < M.length → M1[k]? = M[k]? ∨ ∃ c, M1[k]? = some c ∧ hb M.length c = true
inductive Mode where
  | keep
  | own
  | frz
open Classical in
noncomputable def finVal (M M1 : Mem) (d : D) : Out D := if CellsOk M M1 ∧ hb M.length d = true then .ok d (M1.take M.length) else .stuck
open Classical in
noncomputable def finish (md : Mode) (M M1 : Mem) (d : D) : Out D := match md with
  | .keep => .ok d M1
  | .own => match d with
    | .h k => if k < M.length then finVal M M1 (.h k) else match M1[k]? with
      | some c => if CellsOk M M1 ∧ hb M.length c = true then .ok (.h M.length) (M1.take M.length ++ [c]) else .stuck
      | none => .stuck
    | d => finVal M M1 d
  | .frz => match d with
    | .h k => if k < M.length then finVal M M1 (.h k) else match M1[k]? with
      | some c => if CellsOk M M1 ∧ hb M.length c = true then .ok c (M1.take M.length) else .stuck
      | none => .stuck
    | d => finVal M M1 d
theorem Pre.eqA (p : Pre as as') : ∀ k : Nat, k < as.length → as[k]? = as'[k]? := fun k hk => by
  have h := List.getElem?_eq_getElem hk
  rw [h, p k _ h]
theorem St.cutM (st : St K S as M H) (x : Ext S as H S1 as' H1) (st1 : St K S1 as' M1 H1) (ok : CellsOk M M1) : St K S1 as (M1.take M.length) H1 ∧ Ext S as H S1 as H1 := by
  have hl : M.length ≤ M1.length := by
    have h1 := st.len
    have h2 := st1.len
    rw [← h1, ← h2]
    by_cases h : as.length ≤ as'.length
    · exact h
    · have h3 : as'.length < as.length := by omega
      have h4 := x.pre as'.length _ (List.getElem?_eq_getElem h3)
      rw [List.getElem?_eq_none (Nat.le_refl _)] at h4
      cases h4
  refine ⟨⟨st1.ex, by rw [List.length_take, st.len]; omega, st.nd, fun k c a h1 h2 => ?_⟩, x.same, Pre.refl _, fun a o h na => ?_⟩
  · have hk : k < M.length := by
      have := (List.getElem?_eq_some_iff.mp h1).1
      rw [List.length_take] at this
      omega
    rw [List.getElem?_take_of_lt hk] at h1
    obtain ⟨s0, ho, e, r⟩ := st1.cell k c a h1 (x.pre k a h2)
    refine ⟨s0, ho, e, ObjR.cutA (n := as.length) (fun j hj => x.pre.eqA j hj) r ?_⟩
    rw [st.len]
    rcases ok k hk with q | ⟨c', q, hq⟩
    · rw [h1] at q
      obtain ⟨_, ho', e', r'⟩ := st.cell k c a q.symm h2
      have := r'.hbc
      rw [st.len] at this
      exact this
    · rw [h1] at q
      cases q
      exact hq
  · obtain ⟨h1, h2, h3⟩ := x.fr a o h na
    exact ⟨h1, na, h3⟩
theorem finVal_ok {d d' : D} {v : V} {M2 : Mem} (st : St K S as M H) (x : Ext S as H S1 as' H1) (st1 : St K S1 as' M1 H1) (r : Rep K S1 as' d v) (h : finVal M M1 d = .ok d' M2) : ∃ S2 as2, Ext S as H S2 as2 H1 ∧ St K S2 as2 M2 H1 ∧ Rep K S2 as2 d' v := by
  unfold finVal at h
  split at h
  · rename_i hc
    cases h
    obtain ⟨s2, x2⟩ := st.cutM x st1 hc.1
    exact ⟨S1, as, x2, s2, Rep.cutA (n := as.length) (fun j hj => x.pre.eqA j hj) _ _ r (by rw [st.len]; exact hc.2)⟩
  · cases h
theorem ObjR.rep {c : D} {ho : HO} {a : Addr} (r : ObjR (Reps K S as) c ho) (h : S a = some ho) : Rep K S as c (.ref a) := by
  cases c <;> cases ho <;> first | exact r.elim | exact ⟨a, _, rfl, h, r.1, r.2⟩ | exact ⟨a, _, rfl, SqT.of h, r.1, r.2⟩ | (obtain ⟨r1, r2, r3⟩ := r; subst r1; exact ⟨a, _, _, rfl, h, r2, r3⟩) | exact ⟨a, _, rfl, h, r.1, r.2⟩
theorem finish_ok {md : Mode} {d d' : D} {v : V} {M2 : Mem} (st : St K S as M H) (x : Ext S as H S1 as' H1) (st1 : St K S1 as' M1 H1) (r : Rep K S1 as' d v) (h : finish md M M1 d = .ok d' M2) : ∃ S2 as2, Ext S as H S2 as2 H1 ∧ St K S2 as2 M2 H1 ∧ Rep K S2 as2 d' v := by
  have other : ∀ {k : Nat} {c : D}, ¬ k < M.length → M1[k]? = some c → CellsOk M M1 ∧ hb M.length c = true → Rep K S1 as' (.h k) v → ∃ a ho, v = .ref a ∧ a ∉ as ∧ S1 a = none ∧ H1 a = some ho ∧ H a = none ∧ ObjR (Reps K S1 as) c ho := fun {k c} hk hc hok r => by
    obtain ⟨a, h1, h2⟩ := r
    obtain ⟨s0, ho, e, ro⟩ := st1.cell k c a hc h1
    have na : a ∉ as := fun hm => by
      obtain ⟨j, hj⟩ := List.getElem?_of_mem hm
      have hj2 := x.pre j a hj
      have : j = k := nodup_ixA st1.nd hj2 h1
      subst this
      have := (List.getElem?_eq_some_iff.mp hj).1
      rw [st.len] at this
      exact hk this
    refine ⟨a, ho, h2, na, s0, e, ?_, ObjR.cutA (n := as.length) (fun j hj => x.pre.eqA j hj) ro (by rw [st.len]; exact hok.2)⟩
    cases hH : H a with
    | none => rfl
    | some o =>
      exact absurd (List.mem_of_getElem? h1) (x.fr a o hH na).2.1
  cases md with
  | keep => cases h; exact ⟨S1, as', x, st1, r⟩
  | own =>
    unfold finish at h
    cases d with
    | h k =>
      simp only at h
      split at h
      · exact finVal_ok st x st1 r h
      · rename_i hk
        split at h
        · rename_i c hc
          split at h
          · rename_i hok
            cases h
            obtain ⟨a, ho, h1, h2, h3, h4, h5, h6⟩ := other hk hc hok r
            obtain ⟨s2, x2⟩ := st.cutM x st1 hok.1
            refine ⟨S1, as ++ [a], x2.adopt h5, s2.adopt h2 h3 h4 h6, a, ?_, h1⟩
            rw [← st.len]; simp
          · cases h
        · cases h
    | _ => exact finVal_ok st x st1 r h
  | frz =>
    unfold finish at h
    cases d with
    | h k =>
      simp only at h
      split at h
      · exact finVal_ok st x st1 r h
      · rename_i hk
        split at h
        · rename_i c hc
          split at h
          · rename_i hok
            cases h
            obtain ⟨a, ho, h1, h2, h3, h4, h5, h6⟩ := other hk hc hok r
            obtain ⟨s2, x2⟩ := st.cutM x st1 hok.1
            subst h1
            exact ⟨upd S1 a ho, as, x2.take h5 h3, s2.take h2 h3 h4, (h6.mono fun ds vs q => Reps.mono (Evl.Ex.new h3) (Pre.refl _) ds vs q).rep upd_same⟩
          · cases h
        · cases h
    | _ => exact finVal_ok st x st1 r h
end
/-! ### defs -/
def FinF (K : PySem.W.Frag) (S : Hp) (as : List Addr) (H : Hp) (o : Out D) (Q : VK) (E : XK) : Prop := match o with
  | .ok d M' => ∀ S' as' v H', Ext S as H S' as' H' → St K S' as' M' H' → Rep K S' as' d v → Q v H'
  | .er x M' => ∀ S' as' H' dd, Ext S as H S' as' H' → St K S' as' M' H' → ErOk K S' as' H' x dd → E x.cls dd H'
  | .stuck => False
/-- the def of n parameters, N names, body f, as a function of data -/
noncomputable def runF (md : Mode) (n N : Nat) (f : Cs) : List D → C D := fun ds M => if ds.length = n then (match f (ds.map some ++ List.replicate (N - n) none) M with
  | .nx _ M1 => finish md M M1 (.v .non)
  | .rt d M1 => finish md M M1 d
  | .er x _ M1 => .er x M1
  | _ => .stuck) else .stuck
def spOf (K : PySem.W.Frag) (n : Nat) (F : List D → C D) : Sp := fun vs H Q E => ∃ S as M ds, St K S as M H ∧ Reps K S as ds vs ∧ ds.length = n ∧ FinF K S as H (F ds M) Q E
theorem FinF.pre {K : PySem.W.Frag} {S S0 : Hp} {as as0 : List Addr} {H H0 : Hp} {o : Out D} {Q : VK} {E : XK} (e : Ext S0 as0 H0 S as H) (h : FinF K S0 as0 H0 o Q E) : FinF K S as H o Q E := by
  cases o with
  | ok d M' => exact fun S' as' v H' e' => h S' as' v H' (e.trans e')
  | er x M' => exact fun S' as' H' dd e' => h S' as' H' dd (e.trans e')
  | stuck => exact h
theorem reps_env {K : PySem.W.Frag} {S : Hp} {as : List Addr} {ds : List D} {vs : List V} (r : Reps K S as ds vs) (k : Nat) : EnvOk K S as (vs.map some ++ List.replicate k none) (ds.map some ++ List.replicate k none) := by
  have hl := r.length
  refine ⟨by simp [hl], fun i d h => ?_⟩
  by_cases hi : i < ds.length
  · rw [List.getElem?_append_left (by simpa using hi), List.getElem?_map] at h
    cases e : ds[i]? with
    | none => rw [e] at h; cases h
    | some d' =>
      rw [e] at h
      have h : some (some d') = some (some d) := h
      cases h
      obtain ⟨v, h1, h2⟩ := r.get e
      exact ⟨v, by rw [List.getElem?_append_left (by simp; omega), List.getElem?_map, h1]; rfl, h2⟩
  · rw [List.getElem?_append_right (by simpa using hi), List.getElem?_replicate] at h
    split at h <;> cases h
theorem fn_body {P : Program} {w : World} {K : PySem.W.Frag} {mg : Str → Option Value} {base : Heap} {x qual : Str} {st : Stmt} {f : Addr} {fd : FuncData} {N ps : List Str} {k : Nat} (md : Mode) {body : Cs} (F : Fun K x qual st f fd) (sc : FnScope N ps (defScope st))
    (h : ∀ (cdv : Value) (A : Around) (outer : List PySem.Env) (s : Shared) (H : Hp) (E : XK), Room k (A.deeper (envOfC qual (defScope st) s.heap.objs.size f cdv)) → SDs (cxOf (L2.CX P w) P w K mg base N qual (defScope st) f cdv A outer s H E) (fun cls d _ H => E cls d H) (defBody st) body) :
    FnOk P w K mg base (L2.CX P w) (k + 1) f fd ps (spOf K ps.length (runF md ps.length N.length body)) := by
  refine F.okX sc (fun vs H Q E q => ?_) fun cdv A outer s H vs Q E hr q => ⟨_, h cdv A outer s H E hr, ?_⟩
  · obtain ⟨S, as, M, ds, _, r, hl, _⟩ := q
    rw [← r.length, hl]
  · obtain ⟨S, as, M, ds, st0, r, hl, fin⟩ := q
    have hvl := r.length
    refine ⟨S, as, M, ds.map some ++ List.replicate (N.length - ps.length) none, st0, ?_, ?_⟩
    · unfold L2.start
      rw [← hvl, hl]
      exact reps_env r _
    · unfold runF at fin
      rw [if_pos hl] at fin
      cases eb : body (ds.map some ++ List.replicate (N.length - ps.length) none) M with
      | nx ρ1 M1 =>
        simp only [eb] at fin
        intro S1 as1 σ1 H1 x1 st1 env1
        cases ef : finish md M M1 (.v .non) with
        | ok d' M2 =>
          rw [ef] at fin
          obtain ⟨S2, as2, x2, st2, r2⟩ := finish_ok (d := .v .non) (v := .non) st0 x1 st1 ⟨rfl, rfl⟩ ef
          exact fin S2 as2 .non H1 x2 st2 r2
        | er y M2 =>
          exfalso
          cases md <;> simp [finish, finVal] at ef <;> (try split at ef) <;> cases ef
        | stuck => rw [ef] at fin; exact fin.elim
      | rt d M1 =>
        simp only [eb] at fin
        intro S1 as1 v H1 x1 st1 rv
        cases ef : finish md M M1 d with
        | ok d' M2 =>
          rw [ef] at fin
          obtain ⟨S2, as2, x2, st2, r2⟩ := finish_ok st0 x1 st1 rv ef
          exact fin S2 as2 v H1 x2 st2 r2
        | er y M2 =>
          exfalso
          unfold finish finVal at ef
          cases md <;> cases d <;> simp only at ef <;> (repeat' (split at ef)) <;> cases ef
        | stuck => rw [ef] at fin; exact fin.elim
      | er y ρ1 M1 =>
        simp only [eb] at fin
        intro S1 as1 σ1 H1 dd x1 st1 env1 eo
        exact fin S1 as1 H1 dd x1 st1 eo
      | bk ρ1 M1 => simp only [eb] at fin; exact fin.elim
      | ct ρ1 M1 => simp only [eb] at fin; exact fin.elim
      | stuck => simp only [eb] at fin; exact fin.elim
section
variable {X : Cx} {W : WX} {pos : Pos} {e : Expr} {es : List Expr} {fs : Env → C (List D)} {p : Pos} {x : Str} {n : Nat} {md : Mode} {N : Nat} {body : Cs}
/-- a call of a def -/
theorem pd_call {k : Nat} {f : Addr} {fd : FuncData} {ps : List Str} (tk : Takes X W) (G : FnOk X.prog X.w X.K X.mg X.base (L2.CX X.prog X.w) k f fd ps (spOf X.K n (runF md n N body))) (hr : Room k X.A) (hm : X.mg x = some (.ref f)) (hk : PySem.W.keepIn X.K (.ref f) = true) (hb : Binds X.K fd ps []) (ha : PDs X W (e :: es) fs)
    (hg : Gl X x := by rfl) (hdb : (x == ("__debug__" : Str)) = false := by decide) (hs : starEach (e :: es) X.env = (false, eval e X.env) :: starEach es X.env := by rfl) (hpl : (backTo pos (starEach es X.env)).any (·.1) = false := by rfl) : PD X W (.Call (.Name x p) (e :: es) [] pos) (eN (runF md n N body) fs) :=
  (pe_callS G hr hg hm hk hb (fun σ => passAt tk σ) ha hdb hs hpl).up fun σ H Q h => by
    obtain ⟨S, as, M, ρ, st, env, fin⟩ := h
    refine ⟨S, as, M, ρ, st, env, Fin.bind (g := runF md n N body) fin env fun S1 as1 M1 xs vs H1 e1 st1 env1 rx fin1 => ?_⟩
    have hl : xs.length = n := by
      by_cases h : xs.length = n
      · exact h
      · unfold runF at fin1
        rw [if_neg h] at fin1
        exact fin1.elim
    refine ⟨S1, as1, M1, xs, st1, rx, hl, ?_⟩
    cases ef : runF md n N body xs M1 with
    | ok d M2 => rw [ef] at fin1; exact fin1
    | er y M2 =>
      rw [ef] at fin1
      exact fun S' as' H' dd x' s' eo => fin1 S' as' H' dd x' s' (env1.mono x'.same x'.pre) eo
    | stuck => rw [ef] at fin1; exact fin1.elim
end
/-! ### the law's own call -/
theorem sp_law {K : PySem.W.Frag} {H : Hp} {a : Addr} {ns : List Int} {F : List D → C D} (hl : ns.length ≤ 63) (hS : SqL K H a (ns.map V.int)) (h : ∃ M, F [.ro (ns.map fun i => .v (.int i))] [] = .ok (.v (.bl true)) M) : spOf K 1 F [.ref a] H (fun v _ => v = .bl true) (fun _ _ _ => False) := by
  obtain ⟨M, h⟩ := h
  have rs : ∀ ns : List Int, Reps K H [] (ns.map fun i => D.v (.int i)) (ns.map V.int) := by
    intro ns
    induction ns with
    | nil => rfl
    | cons i r ih => exact Reps.cons ⟨rfl, rfl⟩ ih
  refine ⟨H, [], [], [.ro (ns.map fun i => .v (.int i))], ⟨Same.refl _, rfl, List.nodup_nil, fun k c a h _ => by simp at h⟩, Reps.cons ⟨a, _, rfl, hS, rs ns, by rw [List.length_map, sizeLine_eq]; omega⟩ Reps.nil, rfl, ?_⟩
  rw [h]
  intro S' as' v H' _ _ r
  exact r.1
end DL
set_option Elab.async false
set_option maxRecDepth 100000
set_option maxHeartbeats 2000000
namespace DL
open PySem PySem.Spec PyProof.Rows L2
theorem hu65 {A : Around} {k : Nat} (hr : Room k A) : A.units + 65 < cLine := by
  have := hr.un
  omega
theorem tk_of {P : Program} {w : World} {K : PySem.W.Frag} {mg : Str → Option Value} {base : Heap} {N : List Str} {qual : Str} {sc : Scope} {f : Addr} {cdv : Value} {A : Around} {outer : List PySem.Env} {s : Shared} {H : Hp} {E : XK} :
    Takes (cxOf (L2.CX P w) P w K mg base N qual sc f cdv A outer s H E) (fun cls d _ H => E cls d H) := takes_of rfl rfl rfl rfl
theorem cx_false {P : Program} {w : World} {l : List PySem.Env} {H : Hp} {s : Shared} {e : Value} {s' : Shared} (h : L2.CX P w l H s (fun _ _ _ => False) e s') : False := by
  obtain ⟨_, _, _, _, _, _, _, _, _, _, _, _, z⟩ := h
  exact z.elim
end DL
set_option Elab.async false
set_option maxRecDepth 100000
set_option maxHeartbeats 4000000
namespace DL
open PySem PySem.Calls PySem.W PySem.Spec PyProof.Rows PyProof.V L2 RT
section
variable {prog : Program} {w : World} {A : Around} {E : Value → Shared → Prop} {s : Shared}
theorem rv_extend {R : Result → Shared → Prop} {it l S : Addr} {items : Array Value} {c₀ : Nat} (hh : A.handled = none) (hit : s.heap.IsRevIter it l ((items.size : Int) - 1)) (hl : s.heap.IsList l items) (hne : l ≠ it) (hn : items.size ≤ sizeLine)
    (hSi : S ≠ it) (hSl : S ≠ l) (hS : s.heap.get? S = some { cls := .type "list", data := .seq #[] c₀ })
    (hR : ∀ h' tk acc' c', (∀ b o, b ≠ S → b ≠ it → s.heap.get? b = some o → h'.get? b = some o) → h'.get? S = some { cls := .type "list", dict := none, data := .seq acc' c', slots := #[] } → ItemsOf (fun i v => items[items.size - 1 - i]? = some v) acc' items.size → R (.ok (.ret .none)) { s with heap := h', toks := tk }) :
    wpAny (model prog w) A.in1 (Builtin.List.listExtendWith (.ref S) (.ref it) .none)
      (fun fin s' => match fin with | .done f => R (.ok f) s' | .again c' => c'.quiet = true ∧ codeAny (model prog w) A c' R s') (fun e s' => R (.error e) s') s := by
  have W := (Walks.listRev (prog := prog) (w := w) (A := A.in1) hh it l hne items).toS
  have hSf : S ∉ [it, l] := by simp only [List.mem_cons, List.not_mem_nil, or_false, not_or]; exact ⟨hSi, hSl⟩
  have hT : s.TypeIs (.ref it) "list_reverseiterator" := Heap.IsRevIter.typeIs hit
  have h1 : Builtin.List.listSameRef (.ref S) (.ref it) = false := by simp [Builtin.List.listSameRef, hSi]
  unfold Builtin.List.listExtendWith
  refine wpAny_bind (wpAny_typeOf hT ?_)
  rw [if_neg (by rw [h1]; decide)]
  refine wpAny_bind (wpAny_pyIter_revIter hit ?_)
  refine wpAny_bind (wpAny_holding ?_)
  unfold Builtin.List.listLengthHint
  refine wpAny_bind (wpAny_specialOf hT nolen_lri ?_)
  show wpAny _ A.in1 (specialOf (Value.ref it) (Str.ofString "__length_hint__") >>= _) _ _ _
  refine wpAny_bind (wpAny_specialOf hT hint_lri ?_)
  generalize hid : ("list_reverseiterator.__length_hint__" : String) = id0
  wp_delta
  rw [show splitId id0 = some ("list_reverseiterator", "__length_hint__") from by subst hid; decide +kernel]
  subst hid
  refine wpAny_bind (wpAny_isInstance (b := true) hT (by rw [isSubtype_type]; kernel_rfl) ?_)
  refine wpAny_pure ?_
  rw [if_neg (by decide)]
  have e0 : ((items.size : Nat) : Int) - 1 - ((0 : Nat) : Int) = (items.size : Int) - 1 := by omega
  refine wpAny_pure ⟨plainId_quiet F.plain_extend_loop _, codeAny_extend_loopS W hn _ hSf _ items.size 0 _ _ _ rfl (Nat.zero_le _) ⟨Nat.zero_le _, by rw [e0]; exact hit, hl⟩ hS (ItemsOf.nil _) fun s' acc' c' hm hS' hacc => ?_⟩
  rw [Moved.eq_with hm]
  refine hR s'.heap s'.toks acc' c' (fun b o hb hbi e => hm.heap b o (fun hmem => ?_) e) hS' hacc
  rcases List.mem_cons.mp hmem with e' | hmem
  · exact hb e'
  · exact hbi (List.mem_singleton.mp hmem)
theorem call_list_rev {it l : Addr} {items : Array Value} {Q : Value → Shared → Prop} (hh : A.handled = none) (hit : s.heap.IsRevIter it l ((items.size : Int) - 1)) (hl : s.heap.IsList l items) (hne : l ≠ it) (hn : items.size ≤ sizeLine)
    (hQ : ∀ h' tk acc' c', (∀ b o, b ≠ it → s.heap.get? b = some o → h'.get? b = some o) → h'.get? s.heap.objs.size = some { cls := .type "list", dict := none, data := .seq acc' c', slots := #[] } → ItemsOf (fun i v => items[items.size - 1 - i]? = some v) acc' items.size → Q (.ref s.heap.objs.size) { s with heap := h', toks := tk }) :
    wpAny (model prog w) A (call (.type "list") [.ref it]) Q E s := by
  refine callType_codes (Q₁ := fun obj s₁ => obj = .ref s.heap.objs.size ∧ s₁ = { s with heap := s.heap.push { cls := .type "list", data := .seq #[] } }) PySem.F.called_list (PySem.F.typeCall_list_1 _) PySem.F.entry_list_init
    (code_list_new _ ⟨rfl, rfl⟩) fun obj s₁ h₁ => ?_
  obtain ⟨rfl, rfl⟩ := h₁
  obtain ⟨oi, hoi, _⟩ := id hit
  obtain ⟨ol, hol, _⟩ := id hl
  have hSi : s.heap.objs.size ≠ it := Nat.ne_of_gt (Heap.lt_size hoi)
  have hSl : s.heap.objs.size ≠ l := Nat.ne_of_gt (Heap.lt_size hol)
  have hS : (s.heap.push { cls := .type "list", data := .seq #[] }).get? s.heap.objs.size = some { cls := .type "list", data := .seq #[] } := Heap.get?_push_size _ rfl
  refine ⟨⟨_, hS, rfl⟩, PySem.F.args_list_init_2 _ _, ?_⟩
  show wpAny _ _ (do let old ← Builtin.List.listItems (.ref s.heap.objs.size); Builtin.List.listUpdate (.ref s.heap.objs.size) (fun _ => #[]); letGo old.toList.reverse; Builtin.List.listExtendWith (.ref s.heap.objs.size) (.ref it) .none) _ _ _
  refine wpAny_bind ?_
  unfold Builtin.List.listItems
  refine wpAny_bind (wpAny_seqItems hS rfl (wpAny_pure ?_))
  show wpAny _ _ (updateSeq s.heap.objs.size (fun _ => #[]) >>= fun _ => letGo (#[] : Array Value).toList.reverse >>= fun _ => Builtin.List.listExtendWith (.ref s.heap.objs.size) (.ref it) .none) _ _ _
  refine wpAny_bind (wpAny_updateSeq hS rfl ?_)
  have hS₂ := Heap.get?_update_self (Obj.mapSeq (fun _ => (#[] : Array Value))) hS rfl
  have oth : ∀ b o, b ≠ s.heap.objs.size → s.heap.get? b = some o → ((s.heap.push { cls := .type "list", data := .seq #[] }).update s.heap.objs.size (Obj.mapSeq (fun _ => (#[] : Array Value)))).get? b = some o :=
    fun b o hb e => (Heap.get?_update_other _ _ (Ne.symm hb)).trans (Heap.get?_push_of_some _ e)
  refine wpAny_bind (wpAny_letGo ?_)
  refine rv_extend (A := A.in1) hh (hit.at fun o e => oth it o hSi.symm e) ?_ hne hn hSi hSl hS₂ fun h' tk acc' c' hk hS' hacc => ?_
  · obtain ⟨o, ho, r⟩ := hl
    exact ⟨o, oth l o hSl.symm ho, r⟩
  · exact ⟨rfl, hQ h' tk acc' c' (fun b o hb e => hk b o (Nat.ne_of_lt (Heap.lt_size e)) hb (oth b o (Nat.ne_of_lt (Heap.lt_size e)) e)) hS' hacc⟩
end
def tLstRev (K : PySem.W.Frag) (te : TE) : TE := fun σ H Q => te σ H fun v H1 => ∃ (a : Addr) (xs : List V), v = .ref a ∧ SqL K H1 a xs ∧ ∀ q, H1 q = none → Q (.ref q) (upd H1 q (.lst xs.reverse))
theorem pe_lstRev {X : Cx} {e : Expr} {te : TE} {p p2 pos pos2 : Pos} (hc : X.calm = true) (hg : Gl X "list") (hm : X.mg "list" = none) (hg2 : Gl X "reversed") (hm2 : X.mg "reversed" = none) (he : PE X e te)
    (hs : starEach [e] X.env = (false, eval e X.env) :: starEach [] X.env := by rfl)
    (hs2 : starEach [.Call (.Name "reversed" p2) [e] [] pos2] X.env = (false, eval (.Call (.Name "reversed" p2) [e] [] pos2) X.env) :: starEach [] X.env := by rfl) :
    PE X (.Call (.Name "list" p) [.Call (.Name "reversed" p2) [e] [] pos2] [] pos) (tLstRev X.K te) := by
  refine ⟨fun pins s σ H Q I h => ?_⟩
  refine Call_ (ld_blt I hg hm boot_list (PyProof.Rows.callWith_type1 (args_cons (Call_ (ld_blt I hg2 hm2 PyProof.Rows.boot_reversed (PyProof.Rows.callWith_type1 (args_cons (thn (he.run pins s σ H _ I h) fun u s1 ⟨v, H1, I1, r1, q1⟩ => args_nil ?_) hs) hs rfl))) hs2) hs2 rfl))
  obtain ⟨a, xs, ev, hq, q⟩ := q1
  subst ev
  obtain rfl : u = Value.ref a := r1
  obtain ⟨its, rv, p', hz⟩ := I1.list hq
  refine call_reversed_list p'.isList (args_nil ?_)
  have k0 : ∀ b o, s1.heap.get? b = some o → (s1.heap.push (revObj a ((its.toArray.size : Int) - 1))).get? b = some o := fun b o e => Heap.get?_push_of_some _ e
  have I2 : Inv X pins σ H1 { s1 with heap := s1.heap.push (revObj a ((its.toArray.size : Int) - 1)) } := I1.kept (t' := s1.toks) k0
  obtain ⟨f0, f1, f2, f3, f4, f5⟩ := I1.fpOk (H' := H1) (b := s1.heap.objs.size) (Nat.le_refl _) (I1.hok.fresh (Nat.le_refl _))
  have hl := p'.isList
  obtain ⟨ol, hol, _⟩ := id hl
  have hne : a ≠ s1.heap.objs.size := Nat.ne_of_lt (Heap.lt_size hol)
  have hn : its.toArray.size ≤ sizeLine := by rw [List.size_toArray, ← rv.length]; exact hz
  refine call_list_rev (s := { s1 with heap := s1.heap.push (revObj a ((its.toArray.size : Int) - 1)) }) (I1.ok.hd hc) ⟨_, Heap.get?_push_size _ rfl, rfl, rfl⟩ (hl.push _) hne hn fun h' tk acc c' hk hS hi => ?_
  have I3 : Inv X pins σ H1 { s1 with heap := h', toks := tk } := I2.turned (t' := tk) (fun b o hb e => hk b o hb e) f0 f1 f3 f4 f5
  have hfresh : H1 (s1.heap.push (revObj a ((its.toArray.size : Int) - 1))).objs.size = none := I2.hok.fresh (Nat.le_refl _)
  have un : Un (frs X.stack) [s1.heap.objs.size] H1 H1 (s1.heap.push (revObj a ((its.toArray.size : Int) - 1))) h' := by
    refine ⟨fun b o e n _ hx => hk b o (by simpa using hx) e, fun b o e n _ hx => ⟨o.slots, hk b o (by simpa using hx) e⟩, fun b o e n hx => n, fun b o e hx => ⟨o, hk b o (by simpa using hx) e⟩, fun _ _ e => e, fun _ _ _ e => e, fun b ps e => ⟨#[], by rw [e]; simp⟩⟩
  have hvals : Vals xs.reverse acc.toList := vals_rev rv hi
  refine ⟨.ref (s1.heap.push (revObj a ((its.toArray.size : Int) - 1))).objs.size, upd H1 _ (.lst xs.reverse), Inv.drained (s' := { s1 with heap := h', toks := tk }) I2 (Nat.le_refl _) (by rw [List.length_reverse]; exact hz) hS hvals ?_ rfl I3.bare un I3.hok hfresh, rfl, q _ hfresh⟩
  intro b hb
  have e : b = s1.heap.objs.size := by simpa using hb
  subst e
  exact ⟨f3, f1, f4, f5⟩
section
variable {X : Cx} {W : WX} {pos pos2 : Pos} {a : Expr} {fa : Env → C D} {p p2 : Pos}
/-- list(reversed(x)) -/
def gRevL (mk : List D → Mem → Out D) : D → C D := fun x M => match lstOf M x with
  | some ds => mk ds.reverse M
  | none => .stuck
theorem pd_revL {mk : List D → Mem → Out D} (hc : X.calm = true) (hmk : MkN X.K mk) (hm : X.mg "list" = none) (hm2 : X.mg "reversed" = none) (ha : PD X W a fa) (hg : Gl X "list" := by rfl) (hg2 : Gl X "reversed" := by rfl)
    (hs : starEach [a] X.env = (false, eval a X.env) :: starEach [] X.env := by rfl)
    (hs2 : starEach [.Call (.Name "reversed" p2) [a] [] pos2] X.env = (false, eval (.Call (.Name "reversed" p2) [a] [] pos2) X.env) :: starEach [] X.env := by rfl) : PD X W (.Call (.Name "list" p) [.Call (.Name "reversed" p2) [a] [] pos2] [] pos) (e1 (gRevL mk) fa) := (pe_lstRev hc hg hm hg2 hm2 ha hs hs2).up fun σ H Q h => by
  obtain ⟨S, as, M, ρ, st, env, fin⟩ := h
  refine ⟨S, as, M, ρ, st, env, Fin.bind (g := gRevL mk) fin env fun S1 as1 M1 x v H1 e1 st1 env1 rx fin1 => ?_⟩
  unfold gRevL at fin1
  split at fin1
  · rename_i ds hd
    obtain ⟨b, us, h1, h2, h3, h4⟩ := lst_of st1 rx hd
    exact ⟨b, us, h1, h2, fun q n => hmk S1 as1 H1 W σ ρ M1 ds.reverse us.reverse q Q st1 n h3.rev (by rw [List.length_reverse]; exact h4) fin1⟩
  · exact fin1.elim
end
end DL

set_option Elab.async false
set_option maxRecDepth 100000
set_option maxHeartbeats 2000000
namespace DL
open PySem PySem.Spec PyProof.Rows L2
/-! ### the plain law: what a denotation gives, step by step -/
abbrev I (i : Int) : D := .v (.int i)
abbrev Bo (b : Bool) : D := .v (.bl b)
abbrev Tx (s : Str) : D := .v (.str s)
abbrev No : D := .v .non
@[irreducible] def P {α : Type} (o : Out α) (E : Exn → Mem → Prop) (Q : α → Mem → Prop) : Prop := match o with
  | .ok a M => Q a M
  | .er x M => E x M
  | .stuck => False
/-- the outcome of a statement: what follows, what is handed back, break, continue, an error -/
@[irreducible] def SP (o : SOut) (nx : Env → Mem → Prop) (rt : D → Mem → Prop) (bk ct : Env → Mem → Prop) (er : Exn → Env → Mem → Prop) : Prop := match o with
  | .nx ρ M => nx ρ M
  | .rt d M => rt d M
  | .bk ρ M => bk ρ M
  | .ct ρ M => ct ρ M
  | .er x ρ M => er x ρ M
  | .stuck => False
theorem P.k {α : Type} {a : α} {M : Mem} {E : Exn → Mem → Prop} {Q : α → Mem → Prop} (q : Q a M) : P (.ok a M) E Q := by unfold P; exact q
theorem P.g {α : Type} {a : α} {M : Mem} {E : Exn → Mem → Prop} {Q : α → Mem → Prop} (q : P (.ok a M) E Q) : Q a M := by unfold P at q; exact q
theorem P.e {α : Type} {x : Exn} {M : Mem} {E : Exn → Mem → Prop} {Q : α → Mem → Prop} (q : E x M) : P (.er x M) E Q := by unfold P; exact q
theorem P.ge {α : Type} {x : Exn} {M : Mem} {E : Exn → Mem → Prop} {Q : α → Mem → Prop} (q : P (.er x M) E Q) : E x M := by unfold P at q; exact q
theorem P.gs {α : Type} {E : Exn → Mem → Prop} {Q : α → Mem → Prop} (q : P .stuck E Q) : False := by unfold P at q; exact q
section
variable {nx : Env → Mem → Prop} {rt : D → Mem → Prop} {bk ct : Env → Mem → Prop} {er : Exn → Env → Mem → Prop} {ρ : Env} {M : Mem} {d : D} {x : Exn}
theorem SP.kn (q : nx ρ M) : SP (.nx ρ M) nx rt bk ct er := by unfold SP; exact q
theorem SP.gn (q : SP (.nx ρ M) nx rt bk ct er) : nx ρ M := by unfold SP at q; exact q
theorem SP.kr (q : rt d M) : SP (.rt d M) nx rt bk ct er := by unfold SP; exact q
theorem SP.gr (q : SP (.rt d M) nx rt bk ct er) : rt d M := by unfold SP at q; exact q
theorem SP.kb (q : bk ρ M) : SP (.bk ρ M) nx rt bk ct er := by unfold SP; exact q
theorem SP.gb (q : SP (.bk ρ M) nx rt bk ct er) : bk ρ M := by unfold SP at q; exact q
theorem SP.kc (q : ct ρ M) : SP (.ct ρ M) nx rt bk ct er := by unfold SP; exact q
theorem SP.gc (q : SP (.ct ρ M) nx rt bk ct er) : ct ρ M := by unfold SP at q; exact q
theorem SP.ke (q : er x ρ M) : SP (.er x ρ M) nx rt bk ct er := by unfold SP; exact q
theorem SP.ge (q : SP (.er x ρ M) nx rt bk ct er) : er x ρ M := by unfold SP at q; exact q
theorem SP.gs (q : SP .stuck nx rt bk ct er) : False := by unfold SP at q; exact q
end
abbrev NoE : Exn → Mem → Prop := fun _ _ => False
section
variable {α β : Type} {E E' : Exn → Mem → Prop} {M : Mem} {ρ : Env} {Q : D → Mem → Prop}
theorem P.mono {o : Out α} {Q Q' : α → Mem → Prop} (h : P o E Q) (i : ∀ a M, Q a M → Q' a M) : P o E Q' := by
  cases o with
  | ok a M => exact P.k (i a M h.g)
  | er x M => exact P.e h.ge
  | stuck => exact h.gs.elim
theorem P.noE {o : Out α} {Q : α → Mem → Prop} (h : P o NoE Q) : P o E Q := by
  cases o with
  | ok a M => exact P.k h.g
  | er x M => exact h.ge.elim
  | stuck => exact h.gs.elim
theorem P.of {o : Out α} {Q : α → Mem → Prop} {a : α} {M : Mem} (h : o = .ok a M) (q : Q a M) : P o E Q := by rw [h]; exact P.k q
theorem P.ok {o : Out α} {Q : α → Mem → Prop} (h : P o NoE Q) : ∃ a M, o = .ok a M ∧ Q a M := by
  cases o with
  | ok a M => exact ⟨a, M, rfl, h.g⟩
  | er x M => exact h.ge.elim
  | stuck => exact h.gs.elim
theorem SP.mono {o : SOut} {nx nx' : Env → Mem → Prop} {rt rt' : D → Mem → Prop} {bk ct bk' ct' : Env → Mem → Prop} {er er' : Exn → Env → Mem → Prop} (h : SP o nx rt bk ct er) (h1 : ∀ ρ M, nx ρ M → nx' ρ M) (h2 : ∀ d M, rt d M → rt' d M) (h3 : ∀ ρ M, bk ρ M → bk' ρ M) (h4 : ∀ ρ M, ct ρ M → ct' ρ M) (h5 : ∀ x ρ M, er x ρ M → er' x ρ M) : SP o nx' rt' bk' ct' er' := by
  cases o with
  | nx ρ M => exact SP.kn (h1 _ _ h.gn)
  | rt d M => exact SP.kr (h2 _ _ h.gr)
  | bk ρ M => exact SP.kb (h3 _ _ h.gb)
  | ct ρ M => exact SP.kc (h4 _ _ h.gc)
  | er x ρ M => exact SP.ke (h5 _ _ _ h.ge)
  | stuck => exact h.gs.elim
theorem p_bind {c : C α} {g : α → C β} {Q : β → Mem → Prop} (h : P (c M) E fun a M1 => P (g a M1) E Q) : P (C.bind c g M) E Q := by
  unfold C.bind
  cases e : c M with
  | ok a M1 => rw [e] at h; exact h.g
  | er x M1 => rw [e] at h; exact P.e h.ge
  | stuck => rw [e] at h; exact h.gs.elim
theorem p_ret {a : α} {Q : α → Mem → Prop} (q : Q a M) : P (C.ret a M) E Q := P.k q
theorem p_var {i : Nat} {d : D} (h : ρ[i]? = some (some d)) (q : Q d M) : P (eVar i ρ M) E Q := by
  unfold eVar; rw [h]; exact P.k q
theorem p_c {d : D} (q : Q d M) : P (eC d ρ M) E Q := P.k q
theorem p_e2 {g : D → D → C D} {fa fb : Env → C D} (h : P (fa ρ M) E fun x M1 => P (fb ρ M1) E fun y M2 => P (g x y M2) E Q) : P (e2 g fa fb ρ M) E Q := p_bind (h.mono fun _ _ q => p_bind q)
theorem p_e1 {g : D → C D} {fa : Env → C D} (h : P (fa ρ M) E fun x M1 => P (g x M1) E Q) : P (e1 g fa ρ M) E Q := p_bind h
theorem p_nil {Q : List D → Mem → Prop} (q : Q [] M) : P (eNil ρ M) E Q := P.k q
theorem p_cons {fa : Env → C D} {fr : Env → C (List D)} {Q : List D → Mem → Prop} (h : P (fa ρ M) E fun x M1 => P (fr ρ M1) E fun xs M2 => Q (x :: xs) M2) : P (eCons fa fr ρ M) E Q := p_bind (h.mono fun _ _ q => p_bind (q.mono fun _ _ q => P.k q))
theorem p_eN {g : List D → C D} {fs : Env → C (List D)} (h : P (fs ρ M) E fun xs M1 => P (g xs M1) E Q) : P (eN g fs ρ M) E Q := p_bind h
theorem p_eM {T : String} {g : D → List D → C D} {fo : Env → C D} {fs : Env → C (List D)} (h : P (fo ρ M) E fun x M1 => tyOk T M1 x = true ∧ P (fs ρ M1) E fun xs M2 => P (g x xs M2) E Q) : P (eM T g fo fs ρ M) E Q :=
  p_bind (h.mono fun x M1 ⟨h1, h2⟩ => by rw [if_pos h1]; exact p_bind h2)
/-! tests -/
variable {Qb : Bool → Mem → Prop}
theorem p_eB {fa : Env → C D} (h : P (fa ρ M) E fun x M1 => ∃ b, x = Bo b ∧ Qb b M1) : P (eB fa ρ M) E Qb := p_bind (h.mono fun x M1 ⟨b, e, q⟩ => by subst e; exact P.k q)
theorem p_eT {fa : Env → C D} (h : P (fa ρ M) E fun x M1 => ∃ b, truD M1 x = some b ∧ Qb b M1) : P (eT fa ρ M) E Qb := p_bind (h.mono fun x M1 ⟨b, e, q⟩ => by unfold gTru; rw [e]; exact P.k q)
theorem p_bAnd {fa fb : Env → C Bool} (h : P (fa ρ M) E fun c M1 => (c = true → P (fb ρ M1) E Qb) ∧ (c = false → Qb false M1)) : P (bAnd fa fb ρ M) E Qb := p_bind (h.mono fun c M1 ⟨h1, h2⟩ => by
  cases c with
  | true => rw [if_pos rfl]; exact h1 rfl
  | false => rw [if_neg Bool.false_ne_true]; exact P.k (h2 rfl))
theorem p_bOr {fa fb : Env → C Bool} (h : P (fa ρ M) E fun c M1 => (c = true → Qb true M1) ∧ (c = false → P (fb ρ M1) E Qb)) : P (bOr fa fb ρ M) E Qb := p_bind (h.mono fun c M1 ⟨h1, h2⟩ => by
  cases c with
  | true => rw [if_pos rfl]; exact P.k (h1 rfl)
  | false => rw [if_neg Bool.false_ne_true]; exact h2 rfl)
theorem p_bNot {fa : Env → C Bool} (h : P (fa ρ M) E fun c M1 => Qb (!c) M1) : P (bNot fa ρ M) E Qb := p_bind (h.mono fun _ _ q => P.k q)
theorem p_bIsN {fa : Env → C D} (h : P (fa ρ M) E fun x M1 => Qb (isNon x) M1) : P (bIsN fa ρ M) E Qb := p_bind (h.mono fun _ _ q => P.k q)
theorem p_bNotN {fa : Env → C D} (h : P (fa ρ M) E fun x M1 => Qb (!isNon x) M1) : P (bNotN fa ρ M) E Qb := p_bind (h.mono fun _ _ q => P.k q)
theorem p_eIf {fc : Env → C Bool} {fa fb : Env → C D} (h : P (fc ρ M) E fun c M1 => (c = true → P (fa ρ M1) E Q) ∧ (c = false → P (fb ρ M1) E Q)) : P (eIf fc fa fb ρ M) E Q := p_bind (h.mono fun c M1 ⟨h1, h2⟩ => by
  cases c with
  | true => rw [if_pos rfl]; exact h1 rfl
  | false => rw [if_neg Bool.false_ne_true]; exact h2 rfl)
theorem p_gTru {x : D} {b : Bool} (h : truD M x = some b) (q : Qb b M) : P (gTru x M) E Qb := by unfold gTru; rw [h]; exact P.k q
theorem p_eAndV {fa fb : Env → C D} (h : P (fa ρ M) E fun x M1 => ∃ b, truD M1 x = some b ∧ (b = true → P (fb ρ M1) E Q) ∧ (b = false → Q x M1)) : P (eAndV fa fb ρ M) E Q := p_bind (h.mono fun x M1 ⟨b, h0, h1, h2⟩ => p_bind (p_gTru h0 (by
  cases b with
  | true => rw [if_pos rfl]; exact h1 rfl
  | false => rw [if_neg Bool.false_ne_true]; exact P.k (h2 rfl))))
theorem p_eOrV {fa fb : Env → C D} (h : P (fa ρ M) E fun x M1 => ∃ b, truD M1 x = some b ∧ (b = true → Q x M1) ∧ (b = false → P (fb ρ M1) E Q)) : P (eOrV fa fb ρ M) E Q := p_bind (h.mono fun x M1 ⟨b, h0, h1, h2⟩ => p_bind (p_gTru h0 (by
  cases b with
  | true => rw [if_pos rfl]; exact P.k (h1 rfl)
  | false => rw [if_neg Bool.false_ne_true]; exact h2 rfl)))
theorem p_eNotV {fa : Env → C D} (h : P (fa ρ M) E fun x M1 => ∃ b, truD M1 x = some b ∧ Q (Bo (!b)) M1) : P (eNotV fa ρ M) E Q := p_bind (h.mono fun x M1 ⟨b, h0, h1⟩ => p_bind (p_gTru h0 (P.k h1)))
theorem p_chain {g g' : D → D → C D} {fa fb fc : Env → C D} (h : P (fa ρ M) E fun x M1 => P (fb ρ M1) E fun y M2 => P (g x y M2) E fun z M3 => ∃ k, z = Bo k ∧ (k = true → P (fc ρ M3) E fun w M4 => P (g' y w M4) E Q) ∧ (k = false → Q (Bo false) M3)) : P (eChain g g' fa fb fc ρ M) E Q :=
  p_bind (h.mono fun _ _ h => p_bind (h.mono fun _ _ h => p_bind (h.mono fun z M3 ⟨k, e, h1, h2⟩ => by
    subst e
    refine p_bind (show P (C.ret k M3) E _ from p_ret ?_)
    cases k with
    | true => rw [if_pos rfl]; exact p_bind (h1 rfl)
    | false => rw [if_neg Bool.false_ne_true]; exact P.k (h2 rfl))))
/-! operators on ints and texts -/
theorem p_gI {C : Int → Int → Prop} {f : Int → Int → V} {i j : Int} (h : C i j) (q : Q (.v (f i j)) M) : P (gI C f (I i) (I j) M) E Q := by
  unfold gI; simp only [if_pos h]; exact P.k q
theorem p_add {i j : Int} (q : Q (I (i + j)) M) : P (gAdd (I i) (I j) M) E Q := P.k q
theorem p_sub {i j : Int} (q : Q (I (i - j)) M) : P (gSub (I i) (I j) M) E Q := p_gI trivial q
theorem p_mul {i j : Int} (h : PMul i j) (q : Q (I (i * j)) M) : P (gMul (I i) (I j) M) E Q := p_gI h q
theorem p_div {i j : Int} (h : PDiv i j) (q : Q (I (i / j)) M) : P (gDiv (I i) (I j) M) E Q := p_gI h q
theorem p_mod {i j : Int} (h : 0 < j) (q : Q (I (i % j)) M) : P (gMod (I i) (I j) M) E Q := p_gI h q
theorem p_pow {i j : Int} (h : CPow i j) (q : Q (I (i ^ j.toNat)) M) : P (gPow (I i) (I j) M) E Q := p_gI h q
theorem p_neg {i : Int} (q : Q (I (-i)) M) : P (gNeg (I i) M) E Q := P.k q
theorem p_lt {i j : Int} (q : Q (Bo (decide (i < j))) M) : P (gLt (I i) (I j) M) E Q := P.k q
theorem p_le {i j : Int} (q : Q (Bo (decide (i ≤ j))) M) : P (gLe (I i) (I j) M) E Q := P.k q
theorem p_gt {i j : Int} (q : Q (Bo (decide (j < i))) M) : P (gGt (I i) (I j) M) E Q := P.k q
theorem p_ge {i j : Int} (q : Q (Bo (decide (j ≤ i))) M) : P (gGe (I i) (I j) M) E Q := P.k q
theorem p_addS {a b : Str} (h : a.length + b.length ≤ 16777216) (q : Q (Tx (a ++ b)) M) : P (gAdd (Tx a) (Tx b) M) E Q := by
  show P (addD (Tx a) (Tx b) M) E Q
  unfold addD; simp only [if_pos h]; exact P.k q
theorem deq_int {i j : Int} : deq (I i) (I j) = decide (i = j) := by
  unfold deq toPy pyV PyData.eqv; exact Bool.beq_eq_decide_eq i j
theorem deq_str {i j : Str} : deq (Tx i) (Tx j) = decide (i = j) := by
  unfold deq toPy pyV PyData.eqv; exact Bool.beq_eq_decide_eq i j
theorem p_eqD {x y : D} (hx : okEq (resM M x) = true) (hy : okEq (resM M y) = true) (q : Q (Bo (deq (resM M x) (resM M y))) M) : P (gEq x y M) E Q := by
  unfold gEq; rw [hx, hy]; exact P.k q
theorem p_neD {x y : D} (hx : okEq (resM M x) = true) (hy : okEq (resM M y) = true) (q : Q (Bo (!deq (resM M x) (resM M y))) M) : P (gNe x y M) E Q := by
  unfold gNe; rw [hx, hy]; exact P.k q
theorem p_eqI {i j : Int} (q : Q (Bo (decide (i = j))) M) : P (gEq (I i) (I j) M) E Q := p_eqD rfl rfl (by rw [show deq (resM M (I i)) (resM M (I j)) = deq (I i) (I j) from rfl, deq_int]; exact q)
theorem p_neI {i j : Int} (q : Q (Bo (!decide (i = j))) M) : P (gNe (I i) (I j) M) E Q := p_neD rfl rfl (by rw [show deq (resM M (I i)) (resM M (I j)) = deq (I i) (I j) from rfl, deq_int]; exact q)
theorem p_eqS {i j : Str} (q : Q (Bo (decide (i = j))) M) : P (gEq (Tx i) (Tx j) M) E Q := p_eqD rfl rfl (by rw [show deq (resM M (Tx i)) (resM M (Tx j)) = deq (Tx i) (Tx j) from rfl, deq_str]; exact q)
theorem p_neS {i j : Str} (q : Q (Bo (!decide (i = j))) M) : P (gNe (Tx i) (Tx j) M) E Q := p_neD rfl rfl (by rw [show deq (resM M (Tx i)) (resM M (Tx j)) = deq (Tx i) (Tx j) from rfl, deq_str]; exact q)
theorem p_isN {x : D} (q : Q (Bo (isNon x)) M) : P (gIsN x M) E Q := P.k q
theorem p_notN {x : D} (q : Q (Bo (!isNon x)) M) : P (gNotN x M) E Q := P.k q
/-! subscripts -/
theorem p_ixS {x : D} {ds : List D} {i : Int} {d : D} (h1 : seqOf M x = some ds) (h2 : atI ds i = some d) (q : Q d M) : P (gIx x (I i) M) E Q := by
  cases x with
  | v z => cases h1
  | _ => unfold gIx; simp only [h1, h2]; exact P.k q
theorem p_ixT {z : Str} {i : Int} {c : Nat} (h : atI z.cps.toList i = some c) (q : Q (Tx ⟨#[c]⟩) M) : P (gIx (Tx z) (I i) M) E Q := by
  unfold gIx; simp only [h]; exact P.k q
theorem p_oNo {Qo : Option Int → Mem → Prop} (q : Qo none M) : P (oNo ρ M) E Qo := P.k q
theorem p_oYes {fa : Env → C D} {Qo : Option Int → Mem → Prop} (h : P (fa ρ M) E fun x M1 => ∃ i, x = I i ∧ Qo (some i) M1) : P (oYes fa ρ M) E Qo := p_bind (h.mono fun x M1 ⟨i, e, q⟩ => by subst e; exact P.k q)
theorem p_eSl {fe : Env → C D} {fl fh : Env → C (Option Int)} (h : P (fe ρ M) E fun x M1 => P (fl ρ M1) E fun lo M2 => P (fh ρ M2) E fun hi M3 => P (gSl x lo hi M3) E Q) : P (eSl fe fl fh ρ M) E Q := p_bind (h.mono fun _ _ h => p_bind (h.mono fun _ _ h => p_bind h))
theorem p_slS {z : Str} {lo hi : Option Int} (q : Q (Tx (cutS z lo hi)) M) : P (gSl (Tx z) lo hi M) E Q := P.k q
theorem p_slL {x : D} {ds : List D} {lo hi : Option Int} (h : lstOf M x = some ds) (q : Q (.lst (cutG ds lo hi)) M) : P (gSl x lo hi M) E Q := by
  cases x with
  | v z => cases h
  | tup _ => cases h
  | _ => unfold gSl; simp only [h]; exact P.k q
/-! calls of built-ins -/
theorem p_len {x : D} {n : Nat} (h : lenD M x = some n) (q : Q (I (n : Int)) M) : P (gLen [x] M) E Q := by unfold gLen; simp only [h]; exact P.k q
theorem p_abs {i : Int} (q : Q (I (if i < 0 then -i else i)) M) : P (gAbs [I i] M) E Q := P.k q
theorem p_intI {i : Int} (q : Q (I i) M) : P (gInt [I i] M) E Q := P.k q
theorem p_intB {k : Bool} (q : Q (I (if k = true then 1 else 0)) M) : P (gInt [Bo k] M) E Q := P.k q
theorem p_max2 {i j : Int} (q : Q (I (if j > i then j else i)) M) : P (gMax2 [I i, I j] M) E Q := P.k q
theorem p_min2 {i j : Int} (q : Q (I (if j < i then j else i)) M) : P (gMin2 [I i, I j] M) E Q := P.k q
theorem p_sum {x : D} {ds : List D} {ns : List Int} (h : lstOf M x = some ds) (h2 : intsOf ds = some ns) (q : Q (I ns.sum) M) : P (gSum [x] M) E Q := by unfold gSum; simp only [h, h2]; exact P.k q
theorem p_listV {x : D} {ds : List D} (h : seqOf M x = some ds) (q : Q (.lst ds) M) : P (gListOf mkV [x] M) E Q := by unfold gListOf; simp only [h]; exact P.k q
theorem p_listH {x : D} {ds : List D} (h : seqOf M x = some ds) (q : Q (.h M.length) (M ++ [.lst ds])) : P (gListOf mkH [x] M) E Q := by unfold gListOf; simp only [h]; exact P.k q
theorem p_revLV {x : D} {ds : List D} (h : lstOf M x = some ds) (q : Q (.lst ds.reverse) M) : P (gRevL mkV x M) E Q := by unfold gRevL; simp only [h]; exact P.k q
theorem p_lstV {xs : List D} (h : xs.length ≤ 16777216) (q : Q (.lst xs) M) : P (gLst mkV xs M) E Q := by unfold gLst; rw [if_pos h]; exact P.k q
theorem p_lstH {xs : List D} (h : xs.length ≤ 16777216) (q : Q (.h M.length) (M ++ [.lst xs])) : P (gLst mkH xs M) E Q := by unfold gLst; rw [if_pos h]; exact P.k q
theorem p_tup {xs : List D} (h : xs.length ≤ 16777216) (q : Q (.tup xs) M) : P (gTup xs M) E Q := by unfold gTup; rw [if_pos h]; exact P.k q
theorem p_isi {x : D} {c t : String} {b : Bool} (h : tyN M x = some t) (h2 : kitB t c = some b) (q : Q (Bo b) M) : P (gIsi [x, .v (.ty c)] M) E Q := by unfold gIsi; simp only [h, h2]; exact P.k q
theorem p_append {k : Nat} {d : D} {ds : List D} (h : M[k]? = some (.lst ds)) (hl : ds.length < 16777216) (q : Q No (M.set k (.lst (ds ++ [d])))) : P (gAppend (.h k) [d] M) E Q := by unfold gAppend; simp only [h, if_pos hl]; exact P.k q
theorem p_in {x y : D} {b : Bool} (h : inD M x y = some b) (q : Q (Bo b) M) : P (gIn x y M) E Q := by unfold gIn; simp only [h]; exact P.k q
theorem p_notIn {x y : D} {b : Bool} (h : inD M x y = some b) (q : Q (Bo (!b)) M) : P (gNotIn x y M) E Q := by unfold gNotIn; simp only [h]; exact P.k q
end
/-! statements -/
section
variable {α : Type} {M : Mem} {ρ : Env} {nx : Env → Mem → Prop} {rt : D → Mem → Prop} {bk ct : Env → Mem → Prop} {er : Exn → Env → Mem → Prop} {fe : Env → C D} {f g : Cs} {Q : D → Mem → Prop} {E : Exn → Mem → Prop}
theorem s_E {c : C α} {g : α → Mem → SOut} (h : P (c M) (fun x M1 => er x ρ M1) fun a M1 => SP (g a M1) nx rt bk ct er) : SP (sE c ρ g M) nx rt bk ct er := by
  unfold sE
  cases e : c M with
  | ok a M1 => rw [e] at h; exact h.g
  | er x M1 => rw [e] at h; exact SP.ke h.ge
  | stuck => rw [e] at h; exact h.gs.elim
theorem s_set {i : Nat} (h : P (fe ρ M) (fun x M1 => er x ρ M1) fun d M1 => nx (ρ.set i (some d)) M1) : SP (sSet i fe ρ M) nx rt bk ct er := s_E (h.mono fun _ _ q => SP.kn q)
theorem s_ret (h : P (fe ρ M) (fun x M1 => er x ρ M1) rt) : SP (sRet fe ρ M) nx rt bk ct er := s_E (h.mono fun _ _ q => SP.kr q)
theorem s_retN (h : rt No M) : SP (sRetN ρ M) nx rt bk ct er := SP.kr h
theorem s_expr (h : P (fe ρ M) (fun x M1 => er x ρ M1) fun _ M1 => nx ρ M1) : SP (sExpr fe ρ M) nx rt bk ct er := s_E (h.mono fun _ _ q => SP.kn q)
theorem s_if {fc : Env → C Bool} (h : P (fc ρ M) (fun x M1 => er x ρ M1) fun b M1 => (b = true → SP (f ρ M1) nx rt bk ct er) ∧ (b = false → SP (g ρ M1) nx rt bk ct er)) : SP (sIf fc f g ρ M) nx rt bk ct er := s_E (h.mono fun b M1 ⟨h1, h2⟩ => by
  cases b with
  | true => rw [if_pos rfl]; exact h1 rfl
  | false => rw [if_neg Bool.false_ne_true]; exact h2 rfl)
theorem s_seq (h : SP (f ρ M) (fun ρ1 M1 => SP (g ρ1 M1) nx rt bk ct er) rt bk ct er) : SP (sSeq f g ρ M) nx rt bk ct er := by
  unfold sSeq
  cases e : f ρ M with
  | nx ρ1 M1 => rw [e] at h; exact h.gn
  | rt d M1 => rw [e] at h; exact SP.kr h.gr
  | bk ρ1 M1 => rw [e] at h; exact SP.kb h.gb
  | ct ρ1 M1 => rw [e] at h; exact SP.kc h.gc
  | er x ρ1 M1 => rw [e] at h; exact SP.ke h.ge
  | stuck => rw [e] at h; exact h.gs.elim
/-- a cut: what holds between -/
theorem s_cut (J : Env → Mem → Prop) (h : SP (f ρ M) J rt bk ct er) (k : ∀ ρ1 M1, J ρ1 M1 → SP (g ρ1 M1) nx rt bk ct er) : SP (sSeq f g ρ M) nx rt bk ct er :=
  s_seq (h.mono k (fun _ _ q => q) (fun _ _ q => q) (fun _ _ q => q) (fun _ _ _ q => q))
theorem s_pass (h : nx ρ M) : SP (sPass ρ M) nx rt bk ct er := SP.kn h
theorem s_break (h : bk ρ M) : SP (sBreak ρ M) nx rt bk ct er := SP.kb h
theorem s_cont (h : ct ρ M) : SP (sCont ρ M) nx rt bk ct er := SP.kc h
theorem s_asg {t : Tg} (h : P (fe ρ M) (fun x M1 => er x ρ M1) fun d M1 => ∃ ρ1, t.run d ρ = some ρ1 ∧ nx ρ1 M1) : SP (sAsg t fe ρ M) nx rt bk ct er := s_E (h.mono fun d M1 ⟨ρ1, e, q⟩ => by rw [e]; exact SP.kn q)
theorem s_store {fo fi : Env → C D} (h : P (fe ρ M) (fun x M1 => er x ρ M1) fun d M1 => P (fo ρ M1) (fun x M1 => er x ρ M1) fun o M2 => P (fi ρ M2) (fun x M1 => er x ρ M1) fun i M3 => ∃ M4, storeD M3 o i d = some M4 ∧ nx ρ M4) : SP (sStore fo fi fe ρ M) nx rt bk ct er :=
  s_E (h.mono fun d M1 h => s_E (h.mono fun o M2 h => s_E (h.mono fun i M3 ⟨M4, e, q⟩ => by rw [e]; exact SP.kn q)))
theorem s_aug {i : Nat} {g : D → D → C D} {x : D} (hx : ρ[i]? = some (some x)) (h : P (fe ρ M) (fun x M1 => er x ρ M1) fun y M1 => P (g x y M1) (fun x M1 => er x ρ M1) fun z M2 => nx (ρ.set i (some z)) M2) : SP (sAug i g fe ρ M) nx rt bk ct er := by
  unfold sAug
  rw [hx]
  exact s_E (h.mono fun y M1 h => s_E (h.mono fun _ _ q => SP.kn q))
theorem p_iaddI {i j : Int} (q : Q (I (i + j)) M) : P (iAdd (I i) (I j) M) E Q := P.k q
/-- for: the invariant by the items taken -/
theorem s_forL {gd : Option (Nat × List D)} {t : Tg} {body : Cs} (J : Nat → Env → Mem → Prop) {ds : List D} (h0 : J 0 ρ M) (hg : ∀ i ρ M, J i ρ M → gOk gd M)
    (hs : ∀ i d ρ M, ds[i]? = some d → J i ρ M → ∃ ρ1, t.run d ρ = some ρ1 ∧ SP (body ρ1 M) (J (i + 1)) rt nx (J (i + 1)) er)
    (hd : ∀ ρ M, J ds.length ρ M → nx ρ M) : SP (forL gd t body ds ρ M) nx rt bk ct er := by
  have go : ∀ (es : List D) (i : Nat) (ρ : Env) (M : Mem), ds.drop i = es → i + es.length = ds.length → J i ρ M → SP (forL gd t body es ρ M) nx rt bk ct er := by
    intro es
    induction es with
    | nil =>
      intro i ρ M he hl hj
      unfold forL
      rw [if_pos (hg i ρ M hj)]
      have : i = ds.length := by simpa using hl
      subst this
      exact SP.kn (hd ρ M hj)
    | cons d es ih =>
      intro i ρ M he hl hj
      unfold forL
      rw [if_pos (hg i ρ M hj)]
      have hi : ds[i]? = some d := by
        have : (ds.drop i)[0]? = some d := by rw [he]; rfl
        simpa using this
      obtain ⟨ρ1, h1, h2⟩ := hs i d ρ M hi hj
      rw [h1]
      have he2 : ds.drop (i + 1) = es := by
        rw [← List.drop_drop, he]; rfl
      simp only
      cases eb : body ρ1 M with
      | nx ρ2 M2 => rw [eb] at h2; exact ih (i + 1) ρ2 M2 he2 (by simp at hl; omega) h2.gn
      | ct ρ2 M2 => rw [eb] at h2; exact ih (i + 1) ρ2 M2 he2 (by simp at hl; omega) h2.gc
      | bk ρ2 M2 => rw [eb] at h2; exact SP.kn h2.gb
      | rt d2 M2 => rw [eb] at h2; exact SP.kr h2.gr
      | er x ρ2 M2 => rw [eb] at h2; exact SP.ke h2.ge
      | stuck => rw [eb] at h2; exact h2.gs.elim
  exact go ds 0 ρ M rfl (by simp) h0
theorem s_for {fi : Env → C ItS} {t : Tg} {body : Cs} (h : P (fi ρ M) (fun x M1 => er x ρ M1) fun Z M1 => SP (forL Z.g t body Z.ds ρ M1) nx rt bk ct er) : SP (sFor fi t body ρ M) nx rt bk ct er := s_E h
theorem p_eIt {fa : Env → C D} {Qi : ItS → Mem → Prop} (h : P (fa ρ M) E fun x M1 => ∃ Z, itOf M1 x = some Z ∧ Qi Z M1) : P (eIt fa ρ M) E Qi := p_bind (h.mono fun x M1 ⟨Z, e, q⟩ => by unfold gIt; rw [e]; exact P.k q)
theorem p_eRange1 {fs : Env → C (List D)} {Qi : ItS → Mem → Prop} (h : P (fs ρ M) E fun xs M1 => ∃ j, xs = [I j] ∧ (-(2 ^ 62) ≤ j ∧ j < 2 ^ 62) ∧ Qi ⟨rangeD 0 j.toNat, none⟩ M1) : P (eRange1 fs ρ M) E Qi := p_bind (h.mono fun xs M1 ⟨j, e, hj, q⟩ => by
  subst e; unfold gRange1; simp only [if_pos hj]; exact P.k q)
theorem p_eRange2 {fs : Env → C (List D)} {Qi : ItS → Mem → Prop} (h : P (fs ρ M) E fun xs M1 => ∃ i j, xs = [I i, I j] ∧ (-(2 ^ 62) ≤ i ∧ i < 2 ^ 62 ∧ -(2 ^ 62) ≤ j ∧ j < 2 ^ 62) ∧ Qi ⟨rangeD i (j - i).toNat, none⟩ M1) : P (eRange2 fs ρ M) E Qi := p_bind (h.mono fun xs M1 ⟨i, j, e, hj, q⟩ => by
  subst e; unfold gRange2; simp only [if_pos hj]; exact P.k q)
theorem p_eEnum {fs : Env → C (List D)} {Qi : ItS → Mem → Prop} (h : P (fs ρ M) E fun xs M1 => ∃ x ds, xs = [x] ∧ lstOf M1 x = some ds ∧ Qi ⟨enumD ds, grd x ds⟩ M1) : P (eEnum fs ρ M) E Qi := p_bind (h.mono fun xs M1 ⟨x, ds, e, hd, q⟩ => by
  subst e; unfold gEnum; simp only [hd]; exact P.k q)
theorem rangeD_get {lo : Int} {n i : Nat} {d : D} (h : (rangeD lo n)[i]? = some d) : d = I (lo + (i : Int)) ∧ i < n := by
  unfold rangeD at h
  have hi : i < n := by
    have := (List.getElem?_eq_some_iff.mp h).1
    simpa using this
  rw [List.getElem?_map, List.getElem?_range hi] at h
  cases h
  exact ⟨rfl, hi⟩
theorem rangeD_len {lo : Int} {n : Nat} : (rangeD lo n).length = n := by unfold rangeD; simp
/-- a comprehension: the invariant by the items taken and what is made -/
theorem p_lcL {gd : Option (Nat × List D)} {t : Tg} {test : Env → C Bool} {elt : Env → C D} {Q : List D → Mem → Prop} (J : Nat → List D → Mem → Prop) {ds : List D} (h0 : J 0 [] M) (hg : ∀ i acc M, J i acc M → gOk gd M)
    (hs : ∀ i d acc M, ds[i]? = some d → J i acc M → ∃ ρ1, t.run d ρ = some ρ1 ∧ P (test ρ1 M) NoE fun b M1 => (b = true → P (elt ρ1 M1) NoE fun y M2 => J (i + 1) (acc ++ [y]) M2) ∧ (b = false → J (i + 1) acc M1))
    (hd : ∀ acc M, J ds.length acc M → Q acc M) : P (lcL gd t test elt ds [] ρ M) E Q := by
  have go : ∀ (es : List D) (i : Nat) (acc : List D) (M : Mem), ds.drop i = es → i + es.length = ds.length → J i acc M → P (lcL gd t test elt es acc ρ M) E Q := by
    intro es
    induction es with
    | nil =>
      intro i acc M he hl hj
      unfold lcL
      rw [if_pos (hg i acc M hj)]
      have : i = ds.length := by simpa using hl
      subst this
      exact P.k (hd acc M hj)
    | cons d es ih =>
      intro i acc M he hl hj
      unfold lcL
      rw [if_pos (hg i acc M hj)]
      have hi : ds[i]? = some d := by
        have : (ds.drop i)[0]? = some d := by rw [he]; rfl
        simpa using this
      obtain ⟨ρ1, h1, h2⟩ := hs i d acc M hi hj
      rw [h1]
      have he2 : ds.drop (i + 1) = es := by
        rw [← List.drop_drop, he]; rfl
      simp only
      obtain ⟨b, M1, e1, h3, h4⟩ := h2.ok
      rw [e1]
      cases b with
      | false => exact ih (i + 1) acc M1 he2 (by simp at hl; omega) (h4 rfl)
      | true =>
        obtain ⟨y, M2, e2, h5⟩ := (h3 rfl).ok
        simp only [e2]
        exact ih (i + 1) (acc ++ [y]) M2 he2 (by simp at hl; omega) h5
  exact go ds 0 [] M rfl (by simp) h0
theorem p_lcG {mk : List D → Mem → Out D} {fi : Env → C ItS} {t : Tg} {test : Env → C Bool} {elt : Env → C D} {vs : List Nat} (h : P (fi ρ M) E fun Z M1 => Z.ds.length ≤ 16777216 ∧ P (lcL Z.g t test elt Z.ds [] (wipeD ρ vs) M1) NoE fun acc M2 => P (mk acc M2) E Q) : P (eLcG mk fi t test elt vs ρ M) E Q :=
  p_bind (h.mono fun Z M1 ⟨h1, h2⟩ => by
    rw [if_pos h1]
    obtain ⟨acc, M2, e, h3⟩ := h2.ok
    rw [e]
    exact h3)
theorem p_mkV {acc : List D} (q : Q (.lst acc) M) : P (mkV acc M) E Q := P.k q
theorem p_mkH {acc : List D} (q : Q (.h M.length) (M ++ [.lst acc])) : P (mkH acc M) E Q := P.k q
theorem p_bYes {Qb : Bool → Mem → Prop} (q : Qb true M) : P (bYes ρ M) E Qb := P.k q
/-! defs -/
theorem p_runF {md : Mode} {n N : Nat} {body : Cs} {ds : List D} (hn : ds.length = n) (h : SP (body (ds.map some ++ List.replicate (N - n) none) M) (fun _ M1 => P (finish md M M1 No) E Q) (fun d M1 => P (finish md M M1 d) E Q) (fun _ _ => False) (fun _ _ => False) (fun x _ M1 => E x M1)) :
    P (runF md n N body ds M) E Q := by
  unfold runF
  rw [if_pos hn]
  cases e : body (ds.map some ++ List.replicate (N - n) none) M with
  | nx ρ1 M1 => rw [e] at h; exact h.gn
  | rt d M1 => rw [e] at h; exact h.gr
  | bk ρ1 M1 => rw [e] at h; exact h.gb.elim
  | ct ρ1 M1 => rw [e] at h; exact h.gc.elim
  | er x ρ1 M1 => rw [e] at h; exact P.e h.ge
  | stuck => rw [e] at h; exact h.gs.elim
theorem CellsOk.refl (M : Mem) : CellsOk M M := fun _ _ => .inl rfl
theorem CellsOk.set {M1 : Mem} {k : Nat} {c : D} (h : CellsOk M M1) (hc : hb M.length c = true) : CellsOk M (M1.set k c) := fun j hj => by
  by_cases e : k = j
  · subst e
    by_cases hl : k < M1.length
    · exact .inr ⟨c, by rw [List.getElem?_set_self hl], hc⟩
    · rw [List.set_eq_of_length_le (by omega)]; exact h k hj
  · rw [List.getElem?_set_ne e]; exact h j hj
theorem CellsOk.app {M1 L : Mem} (h : CellsOk M M1) (hl : M.length ≤ M1.length) : CellsOk M (M1 ++ L) := fun j hj => by
  rw [List.getElem?_append_left (by omega)]; exact h j hj
/-- .. of any datum that is no handle -/
def noH : D → Bool
  | .h _ => false
  | _ => true
theorem p_finD {md : Mode} {M1 M2 : Mem} {d : D} (hm : md ≠ .keep) (hd : noH d = true) (h : CellsOk M M1) (hv : hb M.length d = true) (e : M1.take M.length = M2) (q : Q d M2) : P (finish md M M1 d) E Q := by
  cases md with
  | keep => exact absurd rfl hm
  | own =>
    unfold finish finVal
    cases d with
    | h k => cases hd
    | _ => simp only; rw [if_pos ⟨h, hv⟩, e]; exact P.k q
  | frz =>
    unfold finish finVal
    cases d with
    | h k => cases hd
    | _ => simp only; rw [if_pos ⟨h, hv⟩, e]; exact P.k q
theorem p_finV {md : Mode} {M1 M2 : Mem} {x : V} (hm : md ≠ .keep) (h : CellsOk M M1) (e : M1.take M.length = M2) (q : Q (.v x) M2) : P (finish md M M1 (.v x)) E Q := p_finD hm rfl h rfl e q
theorem p_finF {M1 M2 : Mem} {k : Nat} {c : D} (hk : M.length ≤ k) (hc : M1[k]? = some c) (h : CellsOk M M1) (hv : hb M.length c = true) (e : M1.take M.length = M2) (q : Q c M2) : P (finish .frz M M1 (.h k)) E Q := by
  unfold finish
  simp only
  rw [if_neg (by omega), hc]
  simp only
  rw [if_pos ⟨h, hv⟩, e]; exact P.k q
theorem p_finO {M1 M2 : Mem} {k : Nat} {c : D} (hk : M.length ≤ k) (hc : M1[k]? = some c) (h : CellsOk M M1) (hv : hb M.length c = true) (e : M1.take M.length = M2) (q : Q (.h M.length) (M2 ++ [c])) : P (finish .own M M1 (.h k)) E Q := by
  unfold finish
  simp only
  rw [if_neg (by omega), hc]
  simp only
  rw [if_pos ⟨h, hv⟩, e]; exact P.k q
end
end DL
set_option Elab.async false
set_option maxRecDepth 100000
namespace DL
open PySem PySem.Spec PyProof.Rows L2
theorem get_set {M : Mem} {k : Nat} {c c0 : D} (h : M[k]? = some c0) : (M.set k c)[k]? = some c := List.getElem?_set_self (List.getElem?_eq_some_iff.mp h).1
theorem get_set_ne {M : Mem} {j k : Nat} {c d : D} (hne : j ≠ k) (h : M[k]? = some d) : (M.set j c)[k]? = some d := by rw [List.getElem?_set_ne hne]; exact h
theorem get_app {M L : Mem} {k : Nat} {c : D} (h : M[k]? = some c) : (M ++ L)[k]? = some c := by rw [List.getElem?_append_left (List.getElem?_eq_some_iff.mp h).1]; exact h
theorem pmul_r {i j : Int} (h1 : -(2 ^ 64) < j) (h2 : j < 2 ^ 64) : PMul i j := .inl (.inr ⟨h1, h2⟩)
theorem pmul_l {i j : Int} (h1 : -(2 ^ 64) < i) (h2 : i < 2 ^ 64) : PMul i j := .inl (.inl ⟨h1, h2⟩)
theorem pdiv_n {i j : Int} (h1 : 0 < j) (h2 : j < 1073741824) : PDiv i j := .inl ⟨h1, h2⟩
section
variable {M : Mem} {E : Exn → Mem → Prop} {Q : D → Mem → Prop}
theorem p_ixH {k : Nat} {ds : List D} {i : Int} {d : D} (h1 : M[k]? = some (.lst ds)) (h2 : atI ds i = some d) (q : Q d M) : P (gIx (.h k) (I i) M) E Q := p_ixS (by simp [seqOf, h1]) h2 q
theorem p_lenH {k : Nat} {ds : List D} (h1 : M[k]? = some (.lst ds)) (q : Q (I (ds.length : Int)) M) : P (gLen [.h k] M) E Q := p_len (by simp [lenD, h1]) q
end
theorem atI_of {α : Type} {xs : List α} {i : Int} (h0 : 0 ≤ i) (h1 : i < xs.length) : atI xs i = xs[i.toNat]? := by
  unfold atI ixN
  rw [if_pos h0, if_pos h1]; rfl
theorem atI_map {α β : Type} {xs : List α} {i : Int} (f : α → β) (h0 : 0 ≤ i) (h1 : i < xs.length) : ∃ x ∈ xs, atI (xs.map f) i = some (f x) := by
  have hk : i.toNat < xs.length := by omega
  refine ⟨xs[i.toNat], List.getElem_mem hk, ?_⟩
  rw [atI_of h0 (by simpa using h1), List.getElem?_map, List.getElem?_eq_getElem hk]; rfl
theorem storeD_of {M : Mem} {k j : Nat} {ds : List D} {z : Int} {d : D} (h : M[k]? = some (.lst ds)) (hj : ixN ds.length z = some j) : storeD M (.h k) (I z) d = some (M.set k (.lst (ds.set j d))) := by
  unfold storeD; simp only [h, hj]
theorem p_store {M : Mem} {k j : Nat} {ds : List D} {z : Int} {d : D} {Q : Mem → Prop} (h : M[k]? = some (.lst ds)) (hj : ixN ds.length z = some j) (q : Q (M.set k (.lst (ds.set j d)))) : ∃ M4, storeD M (.h k) (I z) d = some M4 ∧ Q M4 := ⟨_, storeD_of h hj, q⟩
theorem p_dec {c A B : Prop} [Decidable c] (h1 : c → A) (h2 : ¬ c → B) : (decide c = true → A) ∧ (decide c = false → B) := ⟨fun h => h1 (of_decide_eq_true h), fun h => h2 (of_decide_eq_false h)⟩
theorem p_ndec {c A B : Prop} [Decidable c] (h1 : ¬ c → A) (h2 : c → B) : ((!decide c) = true → A) ∧ ((!decide c) = false → B) := ⟨fun h => h1 (by simpa using h), fun h => h2 (by simpa using h)⟩
theorem p_tt {A B : Prop} (h : A) : (true = true → A) ∧ (true = false → B) := ⟨fun _ => h, (fun z => absurd z (by decide))⟩
theorem p_ff {A B : Prop} (h : B) : (false = true → A) ∧ (false = false → B) := ⟨(fun z => absurd z (by decide)), fun _ => h⟩
theorem SP.cut {o : SOut} {nx : Env → Mem → Prop} {rt : D → Mem → Prop} {bk ct : Env → Mem → Prop} {er : Exn → Env → Mem → Prop} (J : Env → Mem → Prop) (h : SP o J rt bk ct er) (k : ∀ ρ M, J ρ M → nx ρ M) : SP o nx rt bk ct er :=
  h.mono k (fun _ _ q => q) (fun _ _ q => q) (fun _ _ q => q) (fun _ _ _ q => q)
theorem P.cut {α : Type} {o : Out α} {E : Exn → Mem → Prop} {Q : α → Mem → Prop} (J : α → Mem → Prop) (h : P o E J) (k : ∀ a M, J a M → Q a M) : P o E Q := h.mono k
theorem atI_mapI {ns : List Int} {i : Int} (h0 : 0 ≤ i) (h1 : i < ((ns.map I).length : Int)) : atI (ns.map I) i = some (I (ns.getD i.toNat 0)) := by
  have h2 : i < (ns.length : Int) := by simpa using h1
  have hk : i.toNat < ns.length := by omega
  rw [atI_of h0 h1, List.getElem?_map, List.getElem?_eq_getElem hk]
  simp [List.getD, List.getElem?_eq_getElem hk]
theorem p_ixLI {ns : List Int} {i : Int} {M : Mem} {E : Exn → Mem → Prop} {Q : D → Mem → Prop} (h0 : 0 ≤ i) (h1 : i < ((ns.map I).length : Int)) (q : Q (I (ns.getD i.toNat 0)) M) : P (gIx (.lst (ns.map I)) (I i) M) E Q := p_ixS rfl (atI_mapI h0 h1) q
theorem beq_true_eq {b : Bool} {A B : Prop} (h1 : b = true → A) (h2 : b = false → B) : (b = true → A) ∧ (b = false → B) := ⟨h1, h2⟩
end DL
set_option Elab.async false
set_option maxRecDepth 100000
namespace DL
open PySem PySem.Spec PyProof.Rows L2
/-! ### lists by index -/
def Ls {α : Type} (n : Nat) (f : Nat → α) : List α := (List.range n).map f
section
variable {α β : Type} {n i : Nat} {f g : Nat → α}
@[simp] theorem Ls_len : (Ls n f).length = n := by simp [Ls]
theorem Ls_get (h : i < n) : (Ls n f)[i]? = some (f i) := by simp [Ls, h]
theorem Ls_get_of {d : α} (h : (Ls n f)[i]? = some d) : i < n ∧ d = f i := by
  have hi : i < n := by simpa using (List.getElem?_eq_some_iff.mp h).1
  rw [Ls_get hi] at h
  cases h
  exact ⟨hi, rfl⟩
theorem Ls_succ : Ls (n + 1) f = Ls n f ++ [f n] := by simp [Ls, List.range_succ]
theorem Ls_zero : Ls 0 f = [] := rfl
theorem Ls_one : Ls 1 f = [f 0] := rfl
theorem Ls_map (h : α → β) : (Ls n f).map h = Ls n fun i => h (f i) := by simp [Ls]
theorem Ls_ext (h : ∀ i, i < n → f i = g i) : Ls n f = Ls n g := by
  unfold Ls
  exact List.map_congr_left fun i hi => h i (List.mem_range.mp hi)
theorem Ls_of {xs : List α} (hl : xs.length = n) (h : ∀ i, i < n → xs[i]? = some (f i)) : xs = Ls n f := by
  apply List.ext_getElem?
  intro i
  by_cases hi : i < n
  · rw [h i hi, Ls_get hi]
  · rw [List.getElem?_eq_none (by omega), List.getElem?_eq_none (by simp; omega)]
theorem Ls_rev : (Ls n f).reverse = Ls n fun i => f (n - 1 - i) := by
  apply Ls_of (by simp)
  intro i hi
  rw [List.getElem?_reverse (by simpa using hi), Ls_len, Ls_get (by omega)]
theorem Ls_mem {d : α} (h : d ∈ Ls n f) : ∃ i, i < n ∧ d = f i := by
  unfold Ls at h
  rw [List.mem_map] at h
  obtain ⟨i, hi, e⟩ := h
  exact ⟨i, List.mem_range.mp hi, e.symm⟩
theorem Ls_list {xs : List α} (d : α) : xs = Ls xs.length fun i => xs.getD i d := by
  apply Ls_of rfl
  intro i hi
  rw [List.getD_eq_getElem?_getD, List.getElem?_eq_getElem hi]; rfl
theorem atI_Ls {i : Int} (h0 : 0 ≤ i) (h1 : i < (n : Int)) : atI (Ls n f) i = some (f i.toNat) := by
  rw [atI_of h0 (by simpa using h1), Ls_get (by omega)]
theorem cutG_hi {xs : List α} {k : Nat} : cutG xs none (some (k : Int)) = xs.take k := by
  unfold cutG
  rw [HT.sIx_nat]
  simp [HT.sIx]
theorem cutG_map (f : α → β) {xs : List α} {lo hi : Option Int} : cutG (xs.map f) lo hi = (cutG xs lo hi).map f := by
  unfold cutG; simp
theorem Ls_take {k : Nat} (h : k ≤ n) : (Ls n f).take k = Ls k f := by
  apply Ls_of (by simp; omega)
  intro i hi
  rw [List.getElem?_take_of_lt hi, Ls_get (by omega)]
end
theorem rangeD_Ls {lo : Int} {n : Nat} : rangeD lo n = Ls n fun i => I (lo + (i : Int)) := rfl
theorem enumD_Ls {n : Nat} {f : Nat → D} : enumD (Ls n f) = Ls n fun i => .tup [I (i : Int), f i] := by
  apply Ls_of (by simp [enumD])
  intro i hi
  unfold enumD
  rw [List.getElem?_map, List.getElem?_zipIdx, Ls_get hi]; simp
/-! equal data -/
mutual
theorem eqv_toPy : ∀ d : D, PyData.eqv (toPy d) (toPy d) = true
  | .v x => by
    unfold toPy
    cases x <;> simp [pyV, PyData.eqv]
  | .tup ds => by unfold toPy PyData.eqv; exact eqv_toPys ds
  | .lst ds => by unfold toPy PyData.eqv; exact eqv_toPys ds
  | .ro ds => by unfold toPy PyData.eqv; exact eqv_toPys ds
  | .h _ => by simp [toPy, PyData.eqv]
  | .ins _ _ _ => by simp [toPy, PyData.eqv]
  | .dK _ _ => by simp [toPy, PyData.eqv]
  | .dT _ _ => by simp [toPy, PyData.eqv]
theorem eqv_toPys : ∀ ds : List D, PyData.eqvAll (toPys ds) (toPys ds) = true
  | [] => by simp [toPys, PyData.eqvAll]
  | d :: ds => by
    unfold toPys PyData.eqvAll
    rw [eqv_toPy d, eqv_toPys ds]; rfl
end
theorem deq_refl (d : D) : deq d d = true := eqv_toPy d
theorem plains_of {ds : List D} (h : ∀ d ∈ ds, plain d = true) : plains ds = true := by
  induction ds with
  | nil => rfl
  | cons d ds ih =>
    unfold plains
    rw [h d (by simp), ih fun e he => h e (by simp [he])]; rfl
theorem deps_of {ds : List D} {k : Nat} (h : ∀ d ∈ ds, dep d ≤ k) : deps ds ≤ k := by
  induction ds with
  | nil => exact Nat.zero_le _
  | cons d ds ih =>
    unfold deps
    have h1 := h d (by simp)
    have h2 := ih fun e he => h e (by simp [he])
    omega
theorem okEq_all {ds : List D} (h : ∀ d ∈ ds, plain d = true ∧ dep d ≤ 62) : okEq (.lst ds) = true := by
  unfold okEq plain dep
  rw [plains_of fun d hd => (h d hd).1]
  have := deps_of (ds := ds) (k := 62) fun d hd => (h d hd).2
  rw [decide_eq_true (by omega)]; rfl
theorem okEq_LsV {n : Nat} {f : Nat → V} (h : ∀ i, flatV (f i) = true) : okEq (.lst (Ls n fun i => .v (f i))) = true := okEq_all fun d hd => by
  obtain ⟨i, _, rfl⟩ := Ls_mem hd
  exact ⟨by unfold plain; exact h i, by unfold dep; omega⟩
theorem hbs_of {L : Nat} {ds : List D} (h : ∀ d ∈ ds, hb L d = true) : hbs L ds = true := by
  induction ds with
  | nil => rfl
  | cons d ds ih =>
    unfold hbs
    rw [h d (by simp), ih fun e he => h e (by simp [he])]; rfl
theorem hb_lst {L : Nat} {ds : List D} (h : ∀ d ∈ ds, hb L d = true) : hb L (.lst ds) = true := by unfold hb; exact hbs_of h
theorem hb_tup {L : Nat} {ds : List D} (h : ∀ d ∈ ds, hb L d = true) : hb L (.tup ds) = true := by unfold hb; exact hbs_of h
theorem hb_v {L : Nat} {x : V} : hb L (.v x) = true := by unfold hb; rfl
theorem hb_Ls {L n : Nat} {f : Nat → D} (h : ∀ i, hb L (f i) = true) : hb L (.lst (Ls n f)) = true := hb_lst fun d hd => by
  obtain ⟨i, _, rfl⟩ := Ls_mem hd
  exact h i
theorem intsOf_map {ns : List Int} : intsOf (ns.map I) = some ns := by
  unfold intsOf
  induction ns with
  | nil => rfl
  | cons i is ih => rw [List.map_cons, List.mapM_cons, ih]; rfl
section
variable {M : Mem} {ρ : Env} {E : Exn → Mem → Prop}
/-- a comprehension without a test, item by item -/
theorem p_lcR {gd : Option (Nat × List D)} {t : Tg} {test : Env → C Bool} {elt : Env → C D} {Q : List D → Mem → Prop} {ds : List D} (f : Nat → D) (hg : gOk gd M)
    (hs : ∀ i d, ds[i]? = some d → ∃ ρ1, t.run d ρ = some ρ1 ∧ P (test ρ1 M) NoE fun b M1 => b = true ∧ P (elt ρ1 M1) NoE fun y M2 => y = f i ∧ M2 = M)
    (hd : Q (Ls ds.length f) M) : P (lcL gd t test elt ds [] ρ M) E Q := by
  refine p_lcL (fun i acc M1 => acc = Ls i f ∧ M1 = M) ⟨rfl, rfl⟩ (fun _ _ _ h => h.2 ▸ hg) ?_ ?_
  · rintro i d _ _ hi ⟨rfl, rfl⟩
    obtain ⟨ρ1, h1, h2⟩ := hs i d hi
    refine ⟨ρ1, h1, h2.mono ?_⟩
    rintro b M1 ⟨rfl, h3⟩
    exact ⟨fun _ => h3.mono (by rintro y M2 ⟨rfl, rfl⟩; exact ⟨Ls_succ.symm, rfl⟩), fun z => absurd z (by decide)⟩
  · rintro _ _ ⟨rfl, rfl⟩
    exact hd
theorem p_ixLs {n : Nat} {f : Nat → D} {i : Int} {Q : D → Mem → Prop} (h0 : 0 ≤ i) (h1 : i < (n : Int)) (q : Q (f i.toNat) M) : P (gIx (.lst (Ls n f)) (I i) M) E Q := p_ixS rfl (atI_Ls h0 h1) q
theorem p_eqR {x : D} {Q : D → Mem → Prop} (h : okEq (resM M x) = true) (q : Q (Bo true) M) : P (gEq x x M) E Q := p_eqD h h (by rw [deq_refl]; exact q)
theorem p_neR {x : D} {Q : D → Mem → Prop} (h : okEq (resM M x) = true) (q : Q (Bo false) M) : P (gNe x x M) E Q := p_neD h h (by rw [deq_refl]; exact q)
end
theorem p_ty {T : String} {M : Mem} {x : D} {R : Prop} (h : tyOk T M x = true) (r : R) : tyOk T M x = true ∧ R := ⟨h, r⟩
theorem p_inL {M : Mem} {E : Exn → Mem → Prop} {x y : D} {ds : List D} {Q : D → Mem → Prop} (hy : lstOf M y = some ds) (h1 : okEq (resM M x) = true) (h2 : okEq (.lst ds) = true) (q : Q (Bo (anyEq (resM M x) ds)) M) : P (gIn x y M) E Q := by
  refine p_in (b := anyEq (resM M x) ds) ?_ q
  unfold inD
  cases y with
  | v z => cases hy
  | tup _ => cases hy
  | _ => simp only [hy, h1, h2]; rfl
theorem cutS_7 {z : Str} {k : Nat} : (cutS z none (some (k : Int))).length ≤ k := by
  unfold cutS
  rw [HT.sIx_nat]
  show (List.toArray _).size ≤ k
  simp [HT.sIx]; omega
theorem len_c (c : Nat) : (⟨#[c]⟩ : Str).length = 1 := rfl
theorem p_finZ {M M1 M2 : Mem} {x : V} {E : Exn → Mem → Prop} {Q : D → Mem → Prop} (h : CellsOk M M1) (e : M1.take M.length = M2) (q : Q (.v x) M2) : P (finish .frz M M1 (.v x)) E Q := p_finV (fun z => by cases z) h e q
theorem p_finY {M : Mem} {x : V} {E : Exn → Mem → Prop} {Q : D → Mem → Prop} (q : Q (.v x) M) : P (finish .frz M M (.v x)) E Q := p_finZ (CellsOk.refl M) List.take_length q
theorem p_tr {R : Prop} (h : R) : true = true ∧ R := ⟨rfl, h⟩
theorem p_nt {A B : Prop} (h : B) : ((!true) = true → A) ∧ ((!true) = false → B) := ⟨(fun z => absurd z (by decide)), fun _ => h⟩
theorem p_nf {A B : Prop} (h : A) : ((!false) = true → A) ∧ ((!false) = false → B) := ⟨fun _ => h, (fun z => absurd z (by decide))⟩
theorem rangeD_get0 {n i : Nat} {d : D} (h : (rangeD 0 n)[i]? = some d) : d = I (i : Int) ∧ i < n := by
  obtain ⟨h1, h2⟩ := rangeD_get h
  rw [Int.zero_add] at h1
  exact ⟨h1, h2⟩
theorem p_ixHLs {M : Mem} {E : Exn → Mem → Prop} {Q : D → Mem → Prop} {k n : Nat} {f : Nat → D} {i : Int} (h : M[k]? = some (.lst (Ls n f))) (h0 : 0 ≤ i) (h1 : i < (n : Int)) (q : Q (f i.toNat) M) : P (gIx (.h k) (I i) M) E Q := p_ixH h (atI_Ls h0 h1) q
theorem p_eqIR {M : Mem} {E : Exn → Mem → Prop} {Q : D → Mem → Prop} {i : Int} (q : Q (Bo true) M) : P (gEq (I i) (I i) M) E Q := p_eqI (by rw [decide_eq_true rfl]; exact q)
theorem p_neIR {M : Mem} {E : Exn → Mem → Prop} {Q : D → Mem → Prop} {i : Int} (q : Q (Bo false) M) : P (gNe (I i) (I i) M) E Q := p_neI (by rw [decide_eq_true rfl]; exact q)
theorem p_eqSR {M : Mem} {E : Exn → Mem → Prop} {Q : D → Mem → Prop} {i : Str} (q : Q (Bo true) M) : P (gEq (Tx i) (Tx i) M) E Q := p_eqS (by rw [decide_eq_true rfl]; exact q)
theorem p_neSR {M : Mem} {E : Exn → Mem → Prop} {Q : D → Mem → Prop} {i : Str} (q : Q (Bo false) M) : P (gNe (Tx i) (Tx i) M) E Q := p_neS (by rw [decide_eq_true rfl]; exact q)
theorem p_lenLs {M : Mem} {E : Exn → Mem → Prop} {Q : D → Mem → Prop} {n : Nat} {f : Nat → D} (q : Q (I (n : Int)) M) : P (gLen [.lst (Ls n f)] M) E Q := p_len (n := n) (by simp [lenD, seqOf]) q
theorem p_lenHLs {M : Mem} {E : Exn → Mem → Prop} {Q : D → Mem → Prop} {n k : Nat} {f : Nat → D} (h : M[k]? = some (.lst (Ls n f))) (q : Q (I (n : Int)) M) : P (gLen [.h k] M) E Q := p_lenH h (by rw [Ls_len]; exact q)
theorem truD_bl {M : Mem} {b : Bool} : truD M (.v (.bl b)) = some b := rfl
theorem kit_int_int : kitB "int" "int" = some true := by decide +kernel
theorem kit_int_bool : kitB "int" "bool" = some false := by decide +kernel
theorem kit_int_str : kitB "int" "str" = some false := by decide +kernel
theorem kit_int_list : kitB "int" "list" = some false := by decide +kernel
theorem kit_int_tuple : kitB "int" "tuple" = some false := by decide +kernel
theorem kit_int_dict : kitB "int" "dict" = some false := by decide +kernel
theorem kit_bool_int : kitB "bool" "int" = some true := by decide +kernel
theorem kit_bool_bool : kitB "bool" "bool" = some true := by decide +kernel
theorem kit_bool_str : kitB "bool" "str" = some false := by decide +kernel
theorem kit_bool_list : kitB "bool" "list" = some false := by decide +kernel
theorem kit_bool_tuple : kitB "bool" "tuple" = some false := by decide +kernel
theorem kit_bool_dict : kitB "bool" "dict" = some false := by decide +kernel
theorem kit_str_int : kitB "str" "int" = some false := by decide +kernel
theorem kit_str_bool : kitB "str" "bool" = some false := by decide +kernel
theorem kit_str_str : kitB "str" "str" = some true := by decide +kernel
theorem kit_str_list : kitB "str" "list" = some false := by decide +kernel
theorem kit_str_tuple : kitB "str" "tuple" = some false := by decide +kernel
theorem kit_str_dict : kitB "str" "dict" = some false := by decide +kernel
theorem kit_list_int : kitB "list" "int" = some false := by decide +kernel
theorem kit_list_bool : kitB "list" "bool" = some false := by decide +kernel
theorem kit_list_str : kitB "list" "str" = some false := by decide +kernel
theorem kit_list_list : kitB "list" "list" = some true := by decide +kernel
theorem kit_list_tuple : kitB "list" "tuple" = some false := by decide +kernel
theorem kit_list_dict : kitB "list" "dict" = some false := by decide +kernel
theorem kit_tuple_int : kitB "tuple" "int" = some false := by decide +kernel
theorem kit_tuple_bool : kitB "tuple" "bool" = some false := by decide +kernel
theorem kit_tuple_str : kitB "tuple" "str" = some false := by decide +kernel
theorem kit_tuple_list : kitB "tuple" "list" = some false := by decide +kernel
theorem kit_tuple_tuple : kitB "tuple" "tuple" = some true := by decide +kernel
theorem kit_tuple_dict : kitB "tuple" "dict" = some false := by decide +kernel
theorem kit_dict_int : kitB "dict" "int" = some false := by decide +kernel
theorem kit_dict_bool : kitB "dict" "bool" = some false := by decide +kernel
theorem kit_dict_str : kitB "dict" "str" = some false := by decide +kernel
theorem kit_dict_list : kitB "dict" "list" = some false := by decide +kernel
theorem kit_dict_tuple : kitB "dict" "tuple" = some false := by decide +kernel
theorem kit_dict_dict : kitB "dict" "dict" = some true := by decide +kernel
theorem kit_NoneType_int : kitB "NoneType" "int" = some false := by decide +kernel
theorem kit_NoneType_bool : kitB "NoneType" "bool" = some false := by decide +kernel
theorem kit_NoneType_str : kitB "NoneType" "str" = some false := by decide +kernel
theorem kit_NoneType_list : kitB "NoneType" "list" = some false := by decide +kernel
theorem kit_NoneType_tuple : kitB "NoneType" "tuple" = some false := by decide +kernel
theorem kit_NoneType_dict : kitB "NoneType" "dict" = some false := by decide +kernel
theorem tyN_h {M : Mem} {k : Nat} {ds : List D} (h : M[k]? = some (.lst ds)) : tyN M (.h k) = some "list" := by unfold tyN; simp only [h]
theorem get_new {M : Mem} {c : D} : (M ++ [c])[M.length]? = some c := by simp
theorem set_new {M : Mem} {c d : D} : (M ++ [c]).set M.length d = M ++ [d] := by simp
theorem set_app {M L : Mem} {k : Nat} {d : D} (h : k < M.length) : (M ++ L).set k d = M.set k d ++ L := by rw [List.set_append_left _ _ h]
theorem len_h {M : Mem} {k : Nat} {ds : List D} (h : M[k]? = some (.lst ds)) : lenD M (.h k) = some ds.length := by simp [lenD, h]
theorem set_at {M : Mem} {k : Nat} {c : D} (h : M[k]? = some c) : M = M.set k c := by
  obtain ⟨h1, h2⟩ := List.getElem?_eq_some_iff.mp h
  subst h2
  rw [List.set_getElem_self]
end DL
set_option Elab.async false
set_option maxRecDepth 100000
set_option maxHeartbeats 4000000
namespace Law
open PySem PySem.Spec PyProof.Rows L2 DL
def topS (i : Nat) : Stmt := PySem.Challenge.pw_hearthdue_k19_shares_add_up.main.body.getD i (.Pass ⟨0, 0, 0, 0⟩)
abbrev s__law_purse : Stmt := topS 4
abbrev N__law_purse : List Str := ["script", "cells", "seed", "cell"]
theorem sc__law_purse : FnScope N__law_purse ["script"] (defScope s__law_purse) := ⟨rfl, rfl, rfl, by decide +kernel, rfl, by decide +kernel, by decide +kernel⟩
@[reducible] noncomputable def B__law_purse_1 : Cs := (sSet 2 (e2 gMod (eN gInt (eCons (e2 gAdd (e2 gAdd (e2 gMul (eVar 2) (eC (.v (.int 69997)))) (e2 gMod (eN gInt (eCons (eVar 3) eNil)) (eC (.v (.int 2147483629))))) (eC (.v (.int 5)))) eNil)) (eC (.v (.int 2147483647)))))
@[reducible] noncomputable def B__law_purse_2 : Cs := (sFor (eIt (eVar 1)) (.nm 3) B__law_purse_1)
@[reducible] noncomputable def B__law_purse_3 : Cs := (sSeq B__law_purse_2 (sRet (eN (gLst mkH) (eCons (eVar 1) (eCons (eC (.v (.int 0))) (eCons (eC (.v (.int 0))) (eCons (eC (.v (.int 0))) (eCons (eVar 2) (eCons (eC (.v (.int 0))) eNil)))))))))
@[reducible] noncomputable def B__law_purse_4 : Cs := (sSeq (sSet 2 (eC (.v (.int 7)))) B__law_purse_3)
@[reducible] noncomputable def B__law_purse : Cs := (sSeq (sSet 1 (eLcG mkV (eIt (eSl (eVar 0) oNo (oYes (eC (.v (.int 63)))))) (.nm 3) bYes (eN gInt (eCons (eVar 3) eNil)) [3])) B__law_purse_4)
noncomputable def F__law_purse : List D → C D := runF .own 1 4 B__law_purse
abbrev s__law_draw : Stmt := topS 5
abbrev N__law_draw : List Str := ["purse", "size", "cells", "digit", "cell", "mixed"]
theorem sc__law_draw : FnScope N__law_draw ["purse", "size"] (defScope s__law_draw) := ⟨rfl, rfl, rfl, by decide +kernel, rfl, by decide +kernel, by decide +kernel⟩
@[reducible] noncomputable def B__law_draw_1 : Cs := (sSeq (sStore (eVar 0) (eC (.v (.int 3))) (eC (.v (.int 0)))) (sStore (eVar 0) (eC (.v (.int 1))) (e2 gAdd (e2 gIx (eVar 0) (eC (.v (.int 1)))) (eC (.v (.int 1))))))
@[reducible] noncomputable def B__law_draw_2 : Cs := (sIf (bAnd (bOr (eB (e2 gEq (e2 gIx (eVar 0) (eC (.v (.int 2)))) (eC (.v (.int 0))))) (eB (e2 gEq (e2 gIx (eVar 0) (eC (.v (.int 3)))) (eC (.v (.int 60)))))) (bAnd (eB (e2 gLt (e2 gIx (eVar 0) (eC (.v (.int 1)))) (eN gLen (eCons (eVar 2) eNil)))) (eB (e2 gGe (eN gAbs (eCons (e2 gIx (eVar 2) (e2 gIx (eVar 0) (eC (.v (.int 1))))) eNil)) (e2 gPow (eC (.v (.int 10))) (eC (.v (.int 18)))))))) (sSeq (sStore (eVar 0) (eC (.v (.int 2))) (eN gAbs (eCons (e2 gIx (eVar 2) (e2 gIx (eVar 0) (eC (.v (.int 1))))) eNil))) B__law_draw_1) sPass)
@[reducible] noncomputable def B__law_draw_3 : Cs := (sSeq (sStore (eVar 0) (eC (.v (.int 3))) (e2 gAdd (e2 gIx (eVar 0) (eC (.v (.int 3)))) (eC (.v (.int 1))))) (sRet (eVar 3)))
@[reducible] noncomputable def B__law_draw_4 : Cs := (sSeq (sStore (eVar 0) (eC (.v (.int 2))) (e2 gDiv (eN gInt (eCons (e2 gIx (eVar 0) (eC (.v (.int 2)))) eNil)) (eVar 1))) B__law_draw_3)
@[reducible] noncomputable def B__law_draw_5 : Cs := (sIf (bAnd (eB (e2 gGt (e2 gIx (eVar 0) (eC (.v (.int 2)))) (eC (.v (.int 0))))) (eB (e2 gLt (e2 gIx (eVar 0) (eC (.v (.int 3)))) (eC (.v (.int 60)))))) (sSeq (sSet 3 (e2 gMod (eN gInt (eCons (e2 gIx (eVar 0) (eC (.v (.int 2)))) eNil)) (eVar 1))) B__law_draw_4) sPass)
@[reducible] noncomputable def B__law_draw_6 : Cs := (sIf (eB (e2 gLt (e2 gIx (eVar 0) (eC (.v (.int 1)))) (eN gLen (eCons (eVar 2) eNil)))) (sSeq (sSet 4 (eN gInt (eCons (e2 gIx (eVar 2) (e2 gIx (eVar 0) (eC (.v (.int 1))))) eNil))) (sStore (eVar 0) (eC (.v (.int 1))) (e2 gAdd (e2 gIx (eVar 0) (eC (.v (.int 1)))) (eN gInt (eCons (e2 gEq (e2 gMod (e2 gIx (eVar 0) (eC (.v (.int 5)))) (eC (.v (.int 3)))) (eC (.v (.int 0)))) eNil))))) sPass)
@[reducible] noncomputable def B__law_draw_7 : Cs := (sSeq (sSet 5 (e2 gMod (eN gInt (eCons (e2 gAdd (e2 gAdd (e2 gDiv (eVar 5) (eC (.v (.int 13)))) (e2 gMul (eVar 5) (eC (.v (.int 30323))))) (e2 gMul (e2 gIx (eVar 0) (eC (.v (.int 5)))) (e2 gIx (eVar 0) (eC (.v (.int 5)))))) eNil)) (eC (.v (.int 2147483587))))) (sRet (e2 gMod (eN gInt (eCons (eVar 5) eNil)) (eVar 1))))
@[reducible] noncomputable def B__law_draw_8 : Cs := (sSeq (sSet 5 (e2 gMod (eN gInt (eCons (e2 gAdd (e2 gAdd (e2 gMul (eVar 5) (eC (.v (.int 44497)))) (e2 gMul (e2 gDiv (eVar 5) (eC (.v (.int 1021)))) (eC (.v (.int 65521))))) (eC (.v (.int 12347)))) eNil)) (eC (.v (.int 2147483629))))) B__law_draw_7)
@[reducible] noncomputable def B__law_draw_9 : Cs := (sSeq (sSet 5 (e2 gMod (eN gInt (eCons (e2 gAdd (e2 gAdd (e2 gIx (eVar 0) (eC (.v (.int 4)))) (e2 gMul (e2 gMod (eN gInt (eCons (eVar 4) eNil)) (eC (.v (.int 2147483629)))) (eC (.v (.int 48271))))) (e2 gMul (e2 gIx (eVar 0) (eC (.v (.int 5)))) (eC (.v (.int 39373))))) eNil)) (eC (.v (.int 2147483647))))) B__law_draw_8)
@[reducible] noncomputable def B__law_draw_10 : Cs := (sSeq B__law_draw_6 B__law_draw_9)
@[reducible] noncomputable def B__law_draw_11 : Cs := (sSeq (sSet 4 (eC (.v (.int 0)))) B__law_draw_10)
@[reducible] noncomputable def B__law_draw_12 : Cs := (sSeq B__law_draw_5 B__law_draw_11)
@[reducible] noncomputable def B__law_draw_13 : Cs := (sSeq (sStore (eVar 0) (eC (.v (.int 5))) (e2 gAdd (e2 gIx (eVar 0) (eC (.v (.int 5)))) (eC (.v (.int 1))))) B__law_draw_12)
@[reducible] noncomputable def B__law_draw_14 : Cs := (sSeq B__law_draw_2 B__law_draw_13)
@[reducible] noncomputable def B__law_draw : Cs := (sSeq (sSet 2 (e2 gIx (eVar 0) (eC (.v (.int 0))))) B__law_draw_14)
noncomputable def F__law_draw : List D → C D := runF .frz 2 6 B__law_draw
abbrev s__law_word : Stmt := topS 6
abbrev N__law_word : List Str := ["purse", "most", "letters", "word", "turn"]
theorem sc__law_word : FnScope N__law_word ["purse", "most"] (defScope s__law_word) := ⟨rfl, rfl, rfl, by decide +kernel, rfl, by decide +kernel, by decide +kernel⟩
@[reducible] noncomputable def B__law_word_1 : Cs := (sSet 3 (e2 gAdd (eVar 3) (e2 gIx (eVar 2) (eN F__law_draw (eCons (eVar 0) (eCons (eC (.v (.int 26))) eNil))))))
@[reducible] noncomputable def B__law_word_2 : Cs := (sFor (eRange1 (eCons (eN F__law_draw (eCons (eVar 0) (eCons (e2 gAdd (eVar 1) (eC (.v (.int 1)))) eNil))) eNil)) (.nm 4) B__law_word_1)
@[reducible] noncomputable def B__law_word_3 : Cs := (sSeq B__law_word_2 (sRet (eVar 3)))
@[reducible] noncomputable def B__law_word_4 : Cs := (sSeq (sSet 3 (eC (.v (.str "")))) B__law_word_3)
@[reducible] noncomputable def B__law_word : Cs := (sSeq (sSet 2 (eC (.v (.str "abcdefghijklmnopqrstuvwxyz")))) B__law_word_4)
noncomputable def F__law_word : List D → C D := runF .frz 2 5 B__law_word
abbrev s__law_names : Stmt := topS 7
abbrev N__law_names : List Str := ["purse", "many", "letters", "names", "stem", "tail", "first", "step", "k", "at", "name", "letter"]
theorem sc__law_names : FnScope N__law_names ["purse", "many"] (defScope s__law_names) := ⟨rfl, rfl, rfl, by decide +kernel, rfl, by decide +kernel, by decide +kernel⟩
@[reducible] noncomputable def B__law_names_1 : Cs := (sSeq (sSet 9 (e2 gMod (eN gInt (eCons (e2 gAdd (eVar 6) (e2 gMul (eVar 7) (eVar 8))) eNil)) (eC (.v (.int 676))))) (sExpr (eM "list" gAppend (eVar 3) (eCons (e2 gAdd (e2 gAdd (e2 gAdd (eVar 4) (e2 gIx (eVar 2) (e2 gDiv (eVar 9) (eC (.v (.int 26)))))) (e2 gIx (eVar 2) (e2 gSub (eVar 9) (e2 gMul (e2 gDiv (eVar 9) (eC (.v (.int 26)))) (eC (.v (.int 26))))))) (eVar 5)) eNil))))
@[reducible] noncomputable def B__law_names_2 : Cs := (sFor (eRange1 (eCons (eVar 1) eNil)) (.nm 8) B__law_names_1)
@[reducible] noncomputable def B__law_names_3 : Cs := (sSeq B__law_names_2 (sRet (eVar 3)))
@[reducible] noncomputable def B__law_names_4 : Cs := (sSeq (sSet 7 (e2 gIx (eN (gLst mkV) (eCons (eC (.v (.int 1))) (eCons (eC (.v (.int 3))) (eCons (eC (.v (.int 5))) (eCons (eC (.v (.int 7))) (eCons (eC (.v (.int 9))) (eCons (eC (.v (.int 11))) (eCons (eC (.v (.int 15))) (eCons (eC (.v (.int 17))) (eCons (eC (.v (.int 19))) (eCons (eC (.v (.int 21))) (eCons (eC (.v (.int 23))) (eCons (eC (.v (.int 25))) eNil))))))))))))) (eN F__law_draw (eCons (eVar 0) (eCons (eC (.v (.int 12))) eNil))))) B__law_names_3)
@[reducible] noncomputable def B__law_names_5 : Cs := (sSeq (sSet 6 (eN F__law_draw (eCons (eVar 0) (eCons (eC (.v (.int 676))) eNil)))) B__law_names_4)
@[reducible] noncomputable def B__law_names_6 : Cs := (sSeq (sSet 5 (eN F__law_word (eCons (eVar 0) (eCons (eC (.v (.int 3))) eNil)))) B__law_names_5)
@[reducible] noncomputable def B__law_names_7 : Cs := (sIf (bOr (eB (e2 gGt (eVar 1) (eC (.v (.int 9))))) (eB (e2 gEq (eN F__law_draw (eCons (eVar 0) (eCons (eC (.v (.int 2))) eNil))) (eC (.v (.int 0)))))) (sSeq (sSet 4 (eN F__law_word (eCons (eVar 0) (eCons (eC (.v (.int 3))) eNil)))) B__law_names_6) sPass)
@[reducible] noncomputable def B__law_names_8 : Cs := (sIf (bAnd (eB (e2 gGt (eVar 8) (eC (.v (.int 0))))) (eB (e2 gEq (eN F__law_draw (eCons (eVar 0) (eCons (eC (.v (.int 3))) eNil))) (eC (.v (.int 0)))))) (sSet 10 (e2 gAdd (eSl (e2 gIx (eVar 3) (eC (.v (.int 0)))) oNo (oYes (eC (.v (.int 7))))) (e2 gIx (eVar 2) (eN F__law_draw (eCons (eVar 0) (eCons (eC (.v (.int 26))) eNil)))))) sPass)
@[reducible] noncomputable def B__law_names_9 : Cs := (sIf (eB (e2 gIn (eVar 10) (eVar 3))) (sSet 10 (e2 gAdd (eSl (eVar 10) oNo (oYes (eC (.v (.int 7))))) (eVar 11))) sPass)
@[reducible] noncomputable def B__law_names_10 : Cs := B__law_names_9
@[reducible] noncomputable def B__law_names_11 : Cs := (sFor (eIt (eVar 2)) (.nm 11) B__law_names_10)
@[reducible] noncomputable def B__law_names_12 : Cs := (sSeq B__law_names_11 (sExpr (eM "list" gAppend (eVar 3) (eCons (eVar 10) eNil))))
@[reducible] noncomputable def B__law_names_13 : Cs := (sSeq B__law_names_8 B__law_names_12)
@[reducible] noncomputable def B__law_names_14 : Cs := (sSeq (sSet 10 (e2 gAdd (e2 gIx (eVar 2) (eN F__law_draw (eCons (eVar 0) (eCons (eC (.v (.int 26))) eNil)))) (eN F__law_word (eCons (eVar 0) (eCons (eC (.v (.int 7))) eNil))))) B__law_names_13)
@[reducible] noncomputable def B__law_names_15 : Cs := (sFor (eRange1 (eCons (eVar 1) eNil)) (.nm 8) B__law_names_14)
@[reducible] noncomputable def B__law_names_16 : Cs := (sSeq B__law_names_15 (sRet (eVar 3)))
@[reducible] noncomputable def B__law_names_17 : Cs := (sSeq B__law_names_7 B__law_names_16)
@[reducible] noncomputable def B__law_names_18 : Cs := (sSeq (sSet 3 (eN (gLst mkH) eNil)) B__law_names_17)
@[reducible] noncomputable def B__law_names : Cs := (sSeq (sSet 2 (eC (.v (.str "abcdefghijklmnopqrstuvwxyz")))) B__law_names_18)
noncomputable def F__law_names : List D → C D := runF .frz 2 12 B__law_names
abbrev s__law_amount : Stmt := topS 8
abbrev N__law_amount : List Str := ["purse", "many", "way"]
theorem sc__law_amount : FnScope N__law_amount ["purse", "many"] (defScope s__law_amount) := ⟨rfl, rfl, rfl, by decide +kernel, rfl, by decide +kernel, by decide +kernel⟩
@[reducible] noncomputable def B__law_amount_1 : Cs := (sIf (eB (e2 gEq (eVar 2) (eC (.v (.int 0))))) (sRet (eC (.v (.int 0)))) sPass)
@[reducible] noncomputable def B__law_amount_2 : Cs := (sIf (eB (e2 gEq (eVar 2) (eC (.v (.int 1))))) (sRet (eN F__law_draw (eCons (eVar 0) (eCons (eVar 1) eNil)))) sPass)
@[reducible] noncomputable def B__law_amount_3 : Cs := (sIf (eB (e2 gEq (eVar 2) (eC (.v (.int 2))))) (sRet (e2 gMul (eVar 1) (eN F__law_draw (eCons (eVar 0) (eCons (e2 gPow (eC (.v (.int 10))) (eC (.v (.int 9)))) eNil))))) sPass)
@[reducible] noncomputable def B__law_amount_4 : Cs := (sIf (eB (e2 gEq (eVar 2) (eC (.v (.int 3))))) (sRet (e2 gSub (e2 gMul (eVar 1) (e2 gAdd (eC (.v (.int 1))) (eN F__law_draw (eCons (eVar 0) (eCons (eC (.v (.int 1000))) eNil))))) (eC (.v (.int 1))))) sPass)
@[reducible] noncomputable def B__law_amount_5 : Cs := (sIf (eB (e2 gEq (eVar 2) (eC (.v (.int 4))))) (sRet (e2 gAdd (e2 gMul (eVar 1) (eN F__law_draw (eCons (eVar 0) (eCons (eC (.v (.int 1000))) eNil)))) (eC (.v (.int 1))))) sPass)
@[reducible] noncomputable def B__law_amount_6 : Cs := (sIf (eB (e2 gEq (eVar 2) (eC (.v (.int 5))))) (sRet (eN F__law_draw (eCons (eVar 0) (eCons (eC (.v (.int 300))) eNil)))) sPass)
@[reducible] noncomputable def B__law_amount_7 : Cs := (sSeq B__law_amount_6 (sRet (e2 gAdd (e2 gMul (eN F__law_draw (eCons (eVar 0) (eCons (eC (.v (.int 400))) eNil))) (e2 gPow (eC (.v (.int 10))) (eC (.v (.int 9))))) (eN F__law_draw (eCons (eVar 0) (eCons (e2 gAdd (e2 gPow (eC (.v (.int 10))) (eC (.v (.int 9)))) (eC (.v (.int 1)))) eNil))))))
@[reducible] noncomputable def B__law_amount_8 : Cs := (sSeq B__law_amount_5 B__law_amount_7)
@[reducible] noncomputable def B__law_amount_9 : Cs := (sSeq B__law_amount_4 B__law_amount_8)
@[reducible] noncomputable def B__law_amount_10 : Cs := (sSeq B__law_amount_3 B__law_amount_9)
@[reducible] noncomputable def B__law_amount_11 : Cs := (sSeq B__law_amount_2 B__law_amount_10)
@[reducible] noncomputable def B__law_amount_12 : Cs := (sSeq B__law_amount_1 B__law_amount_11)
@[reducible] noncomputable def B__law_amount : Cs := (sSeq (sSet 2 (eN F__law_draw (eCons (eVar 0) (eCons (eC (.v (.int 7))) eNil)))) B__law_amount_12)
noncomputable def F__law_amount : List D → C D := runF .frz 2 3 B__law_amount
abbrev s_shares : Stmt := topS 1
abbrev N_shares : List Str := ["cents", "names", "each", "left", "at", "name"]
theorem sc_shares : FnScope N_shares ["cents", "names"] (defScope s_shares) := ⟨rfl, rfl, rfl, by decide +kernel, rfl, by decide +kernel, by decide +kernel⟩
@[reducible] noncomputable def B_shares_1 : Cs := (sSeq (sSet 3 (e2 gSub (eVar 0) (e2 gMul (eVar 2) (eN gLen (eCons (eVar 1) eNil))))) (sRet (eLcG mkH (eEnum (eCons (eVar 1) eNil)) (.tp [(.nm 4), (.nm 5)]) bYes (eN gTup (eCons (eVar 5) (eCons (eIf (eB (e2 gLt (eVar 4) (eVar 3))) (e2 gAdd (eVar 2) (eC (.v (.int 1)))) (eVar 2)) eNil))) [4, 5])))
@[reducible] noncomputable def B_shares : Cs := (sSeq (sSet 2 (e2 gDiv (eVar 0) (eN gLen (eCons (eVar 1) eNil)))) B_shares_1)
noncomputable def F_shares : List D → C D := runF .own 2 6 B_shares
abbrev s__law_is_integer : Stmt := topS 3
abbrev N__law_is_integer : List Str := ["value"]
theorem sc__law_is_integer : FnScope N__law_is_integer ["value"] (defScope s__law_is_integer) := ⟨rfl, rfl, rfl, by decide +kernel, rfl, by decide +kernel, by decide +kernel⟩
@[reducible] noncomputable def B__law_is_integer : Cs := (sRet (eAndV (eN gIsi (eCons (eVar 0) (eCons (eC (.v (.ty "int"))) eNil))) (eNotV (eN gIsi (eCons (eVar 0) (eCons (eC (.v (.ty "bool"))) eNil))))))
noncomputable def F__law_is_integer : List D → C D := runF .frz 1 1 B__law_is_integer
abbrev s__law_parts : Stmt := topS 9
abbrev N__law_parts : List Str := ["told", "names", "parts", "place", "pair"]
theorem sc__law_parts : FnScope N__law_parts ["told", "names"] (defScope s__law_parts) := ⟨rfl, rfl, rfl, by decide +kernel, rfl, by decide +kernel, by decide +kernel⟩
@[reducible] noncomputable def B__law_parts_1 : Cs := (sIf (bOr (bNot (eT (eN gIsi (eCons (eVar 0) (eCons (eC (.v (.ty "list"))) eNil))))) (eB (e2 gNe (eN gLen (eCons (eVar 0) eNil)) (eN gLen (eCons (eVar 1) eNil))))) (sRet (eC (.v .non))) sPass)
@[reducible] noncomputable def B__law_parts_2 : Cs := (sIf (bOr (bNot (eT (eN gIsi (eCons (eVar 4) (eCons (eC (.v (.ty "tuple"))) eNil))))) (eB (e2 gNe (eN gLen (eCons (eVar 4) eNil)) (eC (.v (.int 2)))))) (sRet (eC (.v .non))) sPass)
@[reducible] noncomputable def B__law_parts_3 : Cs := (sIf (bOr (bNot (eT (eN gIsi (eCons (e2 gIx (eVar 4) (eC (.v (.int 0)))) (eCons (eC (.v (.ty "str"))) eNil))))) (bOr (eB (e2 gNe (e2 gIx (eVar 4) (eC (.v (.int 0)))) (e2 gIx (eVar 1) (eVar 3)))) (bNot (eT (eN F__law_is_integer (eCons (e2 gIx (eVar 4) (eC (.v (.int 1)))) eNil)))))) (sRet (eC (.v .non))) sPass)
@[reducible] noncomputable def B__law_parts_4 : Cs := (sSeq B__law_parts_3 (sExpr (eM "list" gAppend (eVar 2) (eCons (e2 gIx (eVar 4) (eC (.v (.int 1)))) eNil))))
@[reducible] noncomputable def B__law_parts_5 : Cs := (sSeq B__law_parts_2 B__law_parts_4)
@[reducible] noncomputable def B__law_parts_6 : Cs := (sSeq (sSet 4 (e2 gIx (eVar 0) (eVar 3))) B__law_parts_5)
@[reducible] noncomputable def B__law_parts_7 : Cs := (sFor (eRange1 (eCons (eN gLen (eCons (eVar 1) eNil)) eNil)) (.nm 3) B__law_parts_6)
@[reducible] noncomputable def B__law_parts_8 : Cs := (sSeq B__law_parts_7 (sRet (eVar 2)))
@[reducible] noncomputable def B__law_parts_9 : Cs := (sSeq (sSet 2 (eN (gLst mkH) eNil)) B__law_parts_8)
@[reducible] noncomputable def B__law_parts : Cs := (sSeq B__law_parts_1 B__law_parts_9)
noncomputable def F__law_parts : List D → C D := runF .frz 2 5 B__law_parts
abbrev s__law_fair : Stmt := topS 10
abbrev N__law_fair : List Str := ["parts", "cents", "many", "place"]
theorem sc__law_fair : FnScope N__law_fair ["parts", "cents"] (defScope s__law_fair) := ⟨rfl, rfl, rfl, by decide +kernel, rfl, by decide +kernel, by decide +kernel⟩
@[reducible] noncomputable def B__law_fair_1 : Cs := (sIf (bOr (eB (e2 gGt (e2 gSub (e2 gIx (eVar 0) (eC (.v (.int 0)))) (e2 gIx (eVar 0) (e2 gSub (eVar 2) (eC (.v (.int 1)))))) (eC (.v (.int 1))))) (bOr (eB (e2 gLt (e2 gIx (eVar 0) (e2 gSub (eVar 2) (eC (.v (.int 1))))) (eC (.v (.int 0))))) (eB (e2 gNe (eN gSum (eCons (eVar 0) eNil)) (eVar 1))))) (sRet (eC (.v (.bl false)))) sPass)
@[reducible] noncomputable def B__law_fair_2 : Cs := (sIf (eB (e2 gLt (e2 gIx (eVar 0) (eVar 3)) (e2 gIx (eVar 0) (e2 gAdd (eVar 3) (eC (.v (.int 1))))))) (sRet (eC (.v (.bl false)))) sPass)
@[reducible] noncomputable def B__law_fair_3 : Cs := B__law_fair_2
@[reducible] noncomputable def B__law_fair_4 : Cs := (sFor (eRange1 (eCons (e2 gSub (eVar 2) (eC (.v (.int 1)))) eNil)) (.nm 3) B__law_fair_3)
@[reducible] noncomputable def B__law_fair_5 : Cs := (sSeq B__law_fair_4 (sRet (e2 gEq (eVar 0) (eLcG mkV (eRange1 (eCons (eVar 2) eNil)) (.nm 3) bYes (e2 gAdd (e2 gDiv (eVar 1) (eVar 2)) (eN gInt (eCons (e2 gLt (eVar 3) (e2 gSub (eVar 1) (e2 gMul (e2 gDiv (eVar 1) (eVar 2)) (eVar 2)))) eNil))) [3]))))
@[reducible] noncomputable def B__law_fair_6 : Cs := (sSeq B__law_fair_1 B__law_fair_5)
@[reducible] noncomputable def B__law_fair : Cs := (sSeq (sSet 2 (eN gLen (eCons (eVar 0) eNil))) B__law_fair_6)
noncomputable def F__law_fair : List D → C D := runF .frz 2 4 B__law_fair
abbrev s_law : Stmt := topS 11
abbrev N_law : List Str := ["script", "purse", "many", "names", "cents", "handed", "told", "parts", "more", "great", "wide", "again", "back", "alone", "part"]
theorem sc_law : FnScope N_law ["script"] (defScope s_law) := ⟨rfl, rfl, rfl, by decide +kernel, rfl, by decide +kernel, by decide +kernel⟩
@[reducible] noncomputable def B_law_1 : Cs := (sIf (eB (e2 gEq (eN F__law_draw (eCons (eVar 1) (eCons (eC (.v (.int 8))) eNil))) (eC (.v (.int 0))))) (sSet 2 (e2 gAdd (eC (.v (.int 10))) (eN F__law_draw (eCons (eVar 1) (eCons (eC (.v (.int 111))) eNil))))) sPass)
@[reducible] noncomputable def B_law_2 : Cs := (sIf (bOr (bIsN (eVar 7)) (bOr (eB (e2 gNe (eVar 5) (eVar 3))) (bNot (eT (eN F__law_fair (eCons (eVar 7) (eCons (eVar 4) eNil))))))) (sRet (eC (.v (.bl false)))) sPass)
@[reducible] noncomputable def B_law_3 : Cs := (sIf (bOr (bIsN (eVar 8)) (eB (e2 gNe (eVar 8) (eLcG mkV (eIt (eVar 7)) (.nm 14) bYes (e2 gAdd (eVar 14) (eC (.v (.int 1)))) [14])))) (sRet (eC (.v (.bl false)))) sPass)
@[reducible] noncomputable def B_law_4 : Cs := (sIf (bOr (bIsN (eVar 10)) (bNot (eT (eN F__law_fair (eCons (eVar 10) (eCons (eVar 9) eNil)))))) (sRet (eC (.v (.bl false)))) sPass)
@[reducible] noncomputable def B_law_5 : Cs := (sSeq (sSet 13 (eN F__law_parts (eCons (eN F_shares (eCons (eVar 4) (eCons (eSl (eVar 3) oNo (oYes (eC (.v (.int 1))))) eNil))) (eCons (eSl (eVar 3) oNo (oYes (eC (.v (.int 1))))) eNil)))) (sRet (eAndV (e2 gEq (eVar 11) (eVar 7)) (eAndV (e2 gEq (eVar 12) (eVar 7)) (e2 gEq (eVar 13) (eN (gLst mkV) (eCons (eVar 4) eNil)))))))
@[reducible] noncomputable def B_law_6 : Cs := (sSeq (sSet 12 (eN F__law_parts (eCons (eN F_shares (eCons (eVar 4) (eCons (e1 (gRevL mkV) (eVar 3)) eNil))) (eCons (e1 (gRevL mkV) (eVar 3)) eNil)))) B_law_5)
@[reducible] noncomputable def B_law_7 : Cs := (sSeq (sSet 11 (eN F__law_parts (eCons (eN F_shares (eCons (eVar 4) (eCons (eN (gListOf mkV) (eCons (eVar 3) eNil)) eNil))) (eCons (eVar 3) eNil)))) B_law_6)
@[reducible] noncomputable def B_law_8 : Cs := (sSeq B_law_4 B_law_7)
@[reducible] noncomputable def B_law_9 : Cs := (sSeq (sSet 10 (eN F__law_parts (eCons (eN F_shares (eCons (eVar 9) (eCons (eN (gListOf mkV) (eCons (eVar 3) eNil)) eNil))) (eCons (eVar 3) eNil)))) B_law_8)
@[reducible] noncomputable def B_law_10 : Cs := (sSeq (sSet 9 (e2 gAdd (e2 gAdd (e2 gMul (eVar 4) (e2 gPow (eC (.v (.int 10))) (eC (.v (.int 11))))) (e2 gPow (eC (.v (.int 10))) (eC (.v (.int 20))))) (eC (.v (.int 7))))) B_law_9)
@[reducible] noncomputable def B_law_11 : Cs := (sSeq B_law_3 B_law_10)
@[reducible] noncomputable def B_law_12 : Cs := (sSeq (sSet 8 (eN F__law_parts (eCons (eN F_shares (eCons (e2 gAdd (eVar 4) (eVar 2)) (eCons (eN (gListOf mkV) (eCons (eVar 3) eNil)) eNil))) (eCons (eVar 3) eNil)))) B_law_11)
@[reducible] noncomputable def B_law_13 : Cs := (sSeq (sStore (eVar 6) (eC (.v (.int 0))) (eC (.v .non))) B_law_12)
@[reducible] noncomputable def B_law_14 : Cs := (sSeq (sExpr (eM "list" gAppend (eVar 6) (eCons (eN gTup (eCons (eC (.v (.str "zz"))) (eCons (eC (.v (.int 1))) eNil))) eNil))) B_law_13)
@[reducible] noncomputable def B_law_15 : Cs := (sSeq B_law_2 B_law_14)
@[reducible] noncomputable def B_law_16 : Cs := (sSeq (sSet 7 (eN F__law_parts (eCons (eVar 6) (eCons (eVar 3) eNil)))) B_law_15)
@[reducible] noncomputable def B_law_17 : Cs := (sSeq (sSet 6 (eN F_shares (eCons (eVar 4) (eCons (eVar 5) eNil)))) B_law_16)
@[reducible] noncomputable def B_law_18 : Cs := (sSeq (sSet 5 (eN (gListOf mkV) (eCons (eVar 3) eNil))) B_law_17)
@[reducible] noncomputable def B_law_19 : Cs := (sSeq (sSet 4 (eN F__law_amount (eCons (eVar 1) (eCons (eVar 2) eNil)))) B_law_18)
@[reducible] noncomputable def B_law_20 : Cs := (sSeq (sSet 3 (eN F__law_names (eCons (eVar 1) (eCons (eVar 2) eNil)))) B_law_19)
@[reducible] noncomputable def B_law_21 : Cs := (sSeq B_law_1 B_law_20)
@[reducible] noncomputable def B_law_22 : Cs := (sSeq (sSet 2 (e2 gAdd (eC (.v (.int 1))) (eN F__law_draw (eCons (eVar 1) (eCons (eC (.v (.int 9))) eNil))))) B_law_21)
@[reducible] noncomputable def B_law : Cs := (sSeq (sSet 1 (eN F__law_purse (eCons (eVar 0) eNil))) B_law_22)
noncomputable def F_law : List D → C D := runF .frz 1 15 B_law
end Law
namespace Law
open PySem PySem.Spec PyProof.Rows L2 DL
local macro_rules | `(tactic| walk_at "mem") => `(tactic| first
  | assumption
  | rfl
  | (with_reducible exact get_new)
  | ((with_reducible apply get_set); walk_at "mem")
  | ((with_reducible apply get_set_ne); (· first | assumption | omega); walk_at "mem")
  | ((with_reducible apply get_app); walk_at "mem")
  | fail)
local macro_rules | `(tactic| walk_at "go1") => `(tactic| first
  | (with_reducible refine s_seq ?_) | (with_reducible refine s_set ?_) | (with_reducible refine s_ret ?_) | (with_reducible refine s_retN ?_) | (with_reducible refine s_expr ?_) | (with_reducible refine s_if ?_)
  | (with_reducible refine s_asg ?_) | (with_reducible refine s_store ?_) | (with_reducible refine s_pass ?_) | (with_reducible refine s_for ?_) | (with_reducible refine s_break ?_) | (with_reducible refine s_cont ?_)
  | ((with_reducible apply s_aug); (· with_unfolding_all exact rfl))
  | (with_reducible refine p_e2 ?_) | (with_reducible refine p_e1 ?_) | (with_reducible refine p_eN ?_) | (with_reducible refine p_cons ?_) | (with_reducible refine p_nil ?_) | (with_reducible refine p_c ?_)
  | ((with_reducible apply p_var); (· with_unfolding_all exact rfl))
  | ((with_reducible refine p_eM ?_))
  | (with_reducible refine p_eB ?_) | (with_reducible refine p_eT ?_) | (with_reducible refine p_bAnd ?_) | (with_reducible refine p_bOr ?_) | (with_reducible refine p_bNot ?_) | (with_reducible refine p_bIsN ?_) | (with_reducible refine p_bNotN ?_)
  | (with_reducible refine p_eIf ?_) | (with_reducible refine p_eAndV ?_) | (with_reducible refine p_eOrV ?_) | (with_reducible refine p_eNotV ?_) | (with_reducible refine p_chain ?_)
  | (with_reducible refine p_add ?_) | (with_reducible refine p_sub ?_) | ((with_reducible refine p_mod ?_ ?_); (· first | assumption | omega)) | (with_reducible refine p_neg ?_)
  | ((with_reducible refine p_mul ?_ ?_); (· first | assumption | (with_reducible exact pmul_r (by omega) (by omega)) | (with_reducible exact pmul_l (by omega) (by omega))))
  | ((with_reducible refine p_div ?_ ?_); (· first | assumption | (with_reducible exact pdiv_n (by omega) (by omega))))
  | ((with_reducible refine p_pow ?_ ?_); (· unfold CPow; decide); try dsimp only [Int.reduceToNat, Int.reducePow])
  | (dsimp only [Int.reduceToNat, List.set_cons_zero, List.set_cons_succ, List.length_cons, List.length_nil, List.cons_append, List.nil_append, Nat.reduceAdd, Int.toNat_natCast, Int.cast_ofNat_Int, isNon])
  | ((with_reducible refine p_eqR ?_ ?_); (· exact okEq_LsV fun _ => rfl)) | ((with_reducible refine p_neR ?_ ?_); (· exact okEq_LsV fun _ => rfl))
  | (with_reducible refine p_eqIR ?_) | (with_reducible refine p_neIR ?_) | (with_reducible refine p_eqSR ?_) | (with_reducible refine p_neSR ?_)
  | (with_reducible refine p_lt ?_) | (with_reducible refine p_le ?_) | (with_reducible refine p_gt ?_) | (with_reducible refine p_ge ?_)
  | (with_reducible refine p_eqI ?_) | (with_reducible refine p_neI ?_) | (with_reducible refine p_eqS ?_) | (with_reducible refine p_neS ?_) | (with_reducible refine p_isN ?_) | (with_reducible refine p_notN ?_)
  | ((with_reducible apply p_ixHLs); (· walk_at "mem"); (· first | assumption | omega); (· first | assumption | omega))
  | ((with_reducible apply p_ixH); (· walk_at "mem"); (· with_unfolding_all exact rfl))
  | ((with_reducible apply p_isi); (· first | rfl | exact tyN_h ‹_›); (· first | exact kit_int_int | exact kit_int_bool | exact kit_int_str | exact kit_int_list | exact kit_int_tuple | exact kit_int_dict | exact kit_bool_int | exact kit_bool_bool | exact kit_bool_str | exact kit_bool_list | exact kit_bool_tuple | exact kit_bool_dict | exact kit_str_int | exact kit_str_bool | exact kit_str_str | exact kit_str_list | exact kit_str_tuple | exact kit_str_dict | exact kit_list_int | exact kit_list_bool | exact kit_list_str | exact kit_list_list | exact kit_list_tuple | exact kit_list_dict | exact kit_tuple_int | exact kit_tuple_bool | exact kit_tuple_str | exact kit_tuple_list | exact kit_tuple_tuple | exact kit_tuple_dict | exact kit_dict_int | exact kit_dict_bool | exact kit_dict_str | exact kit_dict_list | exact kit_dict_tuple | exact kit_dict_dict | exact kit_NoneType_int | exact kit_NoneType_bool | exact kit_NoneType_str | exact kit_NoneType_list | exact kit_NoneType_tuple | exact kit_NoneType_dict))
  | ((with_reducible refine p_ixLs ?_ ?_ ?_); (· first | assumption | omega); (· first | assumption | omega))
  | ((with_reducible refine p_ixLI ?_ ?_ ?_); (· first | assumption | omega); (· first | assumption | omega))
  | ((with_reducible apply p_ixS); (· with_unfolding_all exact rfl); (· with_unfolding_all exact rfl))
  | (with_reducible refine p_oNo ?_) | (with_reducible refine p_oYes ?_) | (with_reducible refine p_eSl ?_) | (with_reducible refine p_slS ?_)
  | ((with_reducible apply p_lenHLs); (· walk_at "mem"))
  | ((with_reducible apply p_lenH); (· walk_at "mem"))
  | (with_reducible refine p_lenLs ?_)
  | ((with_reducible apply p_len); (· with_unfolding_all exact rfl))
  | ((with_reducible refine p_addS ?_ ?_); (· first | assumption | (simp only [len_app, len_c]; omega)))
  | ((with_reducible apply p_append); (· walk_at "mem"); (· first | assumption | omega | (simp; omega)))
  | ((with_reducible refine p_ty ?_ ?_); (· first | rfl | (simp [tyOk, *]; done)))
  | ((with_reducible apply p_listV); (· rfl)) | ((with_reducible apply p_revLV); (· rfl)) | ((with_reducible apply p_slL); (· rfl))
  | (with_reducible refine p_abs ?_) | (with_reducible refine p_intI ?_) | (with_reducible refine p_intB ?_) | (with_reducible refine p_max2 ?_) | (with_reducible refine p_min2 ?_)
  | ((with_reducible refine p_tup ?_ ?_); (· first | decide | (simp; done)))
  | ((with_reducible refine p_lstV ?_ ?_); (· (simp; done)))
  | ((with_reducible refine p_lstH ?_ ?_); (· (simp; done)))
  | (with_reducible refine p_mkV ?_) | (with_reducible refine p_mkH ?_) | (with_reducible refine p_bYes ?_)
  | (with_reducible refine p_lcG ?_) | (with_reducible refine p_eIt ?_) | (with_reducible refine p_eRange1 ?_) | (with_reducible refine p_eRange2 ?_) | (with_reducible refine p_eEnum ?_)
  | ((with_reducible refine Exists.intro _ (And.intro rfl ?_)))
  | ((with_reducible show SP _ _); fail)
  | ((with_reducible apply p_store); (· walk_at "mem"); (· with_unfolding_all exact rfl))
  | (with_reducible refine p_tr ?_) | (with_reducible refine p_tt ?_) | (with_reducible refine p_nt ?_) | (with_reducible refine p_nf ?_) | (with_reducible refine p_ff ?_)
  | (dsimp only [Int.reduceToNat, List.set_cons_zero, List.set_cons_succ, List.length_cons, List.length_nil, List.cons_append, List.nil_append, Nat.reduceAdd, Int.toNat_natCast, Int.cast_ofNat_Int, isNon])
  | (rw [List.set_set])
  | (rw [set_new])
  | (rw [Ls_len])
  | (with_reducible refine ⟨_, truD_bl, ?_⟩))
local macro_rules | `(tactic| walk_at "split") => `(tactic| (first | (with_reducible refine p_dec (fun h => ?_) (fun h => ?_)) | (with_reducible refine p_ndec (fun h => ?_) (fun h => ?_)) | (with_reducible refine beq_true_eq (fun h => ?_) (fun h => ?_)) | fail))
local macro_rules | `(tactic| walk_at "gos") => `(tactic| repeat' (first | walk_at "go1" | walk_at "split" | fail))
local macro_rules | `(tactic| walk_at "def") => `(tactic| ((refine p_runF rfl ?_); simp only [List.map_cons, List.map_nil, List.cons_append, List.nil_append, List.replicate_succ, List.replicate_zero, Nat.reduceSub]))
local macro_rules | `(tactic| walk_at "go") => `(tactic| repeat walk_at "go1")
structure Pu where
  cells : List Int
  pos : Int
  big : Int
  used : Int
  seed : Int
  turn : Int
def Pu.ds (p : Pu) : List D := [.lst (p.cells.map I), I p.pos, I p.big, I p.used, I p.seed, I p.turn]
structure Pu.Ok (p : Pu) (n : Int) : Prop where
  p0 : 0 ≤ p.pos
  b0 : 0 ≤ p.big
  t0 : 0 ≤ p.turn
  tn : p.turn ≤ n
  s0 : 0 ≤ p.seed
  s1 : p.seed < 2147483648
theorem hbs_map {L : Nat} {α : Type} (f : α → D) (h : ∀ a, hb L (f a) = true) : ∀ as : List α, hbs L (as.map f) = true
  | [] => rfl
  | a :: as => by rw [List.map_cons]; unfold hbs; rw [h a, hbs_map f h as]; rfl
theorem hb_pu {L : Nat} {cells : List Int} {a b c d e : Int} : hb L (.lst [.lst (cells.map I), I a, I b, I c, I d, I e]) = true := by
  have h : hbs L (cells.map I) = true := hbs_map I (fun a => by unfold hb; rfl) cells
  simp [hb, hbs, h]
theorem draw_spec {M : Mem} {k : Nat} {p : Pu} {n size : Int} {E : Exn → Mem → Prop} {Q : D → Mem → Prop} (hM : M[k]? = some (.lst p.ds)) (ok : p.Ok n) (hn : n ≤ 1000000000000) (h0 : 0 < size) (h1 : size ≤ 1073741823)
    (q : ∀ r (p' : Pu), 0 ≤ r → r < size → p'.Ok (n + 1) → Q (I r) (M.set k (.lst p'.ds))) : P (F__law_draw [.h k, I size] M) E Q := by
  obtain ⟨cells, pos, big, used, seed, turn⟩ := p
  obtain ⟨p0, b0, t0, tn, s0, s1⟩ := ok
  dsimp only [Pu.ds] at hM p0 b0 t0 tn s0 s1 q ⊢
  have fin : ∀ (r : Int) (pos' big' used' turn' : Int), 0 ≤ r → r < size → 0 ≤ pos' → 0 ≤ big' → 0 ≤ turn' → turn' ≤ n + 1 → P (finish .frz M (M.set k (.lst [.lst (cells.map I), I pos', I big', I used', I seed, I turn'])) (I r)) E Q :=
    fun r pos' big' used' turn' hr0 hr1 a b c d => p_finV (fun z => by cases z) ((CellsOk.refl M).set hb_pu) (by simp [List.take_set]) (q r ⟨cells, pos', big', used', seed, turn'⟩ hr0 hr1 ⟨a, b, c, d, s0, s1⟩)
  have hMs := set_at hM
  unfold F__law_draw
  walk_at "def"
  unfold B__law_draw
  refine s_seq ?_
  refine SP.cut (fun ρ1 M1 => ρ1 = [some (D.h k), some (I size), some (D.lst (List.map I cells)), none, none, none] ∧ M1 = M) ?_ ?_
  · walk_at "gos"
    exact ⟨rfl, rfl⟩
  intro ρ1 M1 e0
  rw [e0.1, e0.2]
  refine s_seq ?_
  refine SP.cut (fun ρ1 M1 => ∃ pos big used, ρ1 = [some (D.h k), some (I size), some (D.lst (List.map I cells)), none, none, none] ∧ M1 = M.set k (.lst [.lst (cells.map I), I pos, I big, I used, I seed, I turn]) ∧ 0 ≤ pos ∧ 0 ≤ big) ?_ ?_
  · walk_at "gos"
    all_goals first | exact ⟨_, _, _, rfl, hMs, p0, b0⟩ | exact ⟨_, _, _, rfl, rfl, by omega, by split <;> omega⟩
  · rintro _ _ ⟨pos, big, used, rfl, rfl, p0, b0⟩
    refine s_seq ?_
    refine SP.cut (fun ρ1 M1 => ρ1 = [some (D.h k), some (I size), some (D.lst (List.map I cells)), none, none, none] ∧ M1 = M.set k (.lst [.lst (cells.map I), I pos, I big, I used, I seed, I (turn + 1)])) ?_ ?_
    · walk_at "gos"
      exact ⟨rfl, rfl⟩
    · rintro _ _ ⟨rfl, rfl⟩
      refine s_seq ?_
      refine SP.cut (fun ρ1 M1 => ρ1 = [some (D.h k), some (I size), some (D.lst (List.map I cells)), none, none, none] ∧ M1 = M.set k (.lst [.lst (cells.map I), I pos, I big, I used, I seed, I (turn + 1)])) ?_ ?_
      · walk_at "gos"
        all_goals first | exact ⟨rfl, rfl⟩ | exact fin _ _ _ _ _ (Int.emod_nonneg _ (by omega)) (Int.emod_lt_of_pos _ h0) p0 (Int.ediv_nonneg b0 (by omega)) (by omega) (by omega)
      · rintro _ _ ⟨rfl, rfl⟩
        refine s_seq ?_
        refine SP.cut (fun ρ1 M1 => ρ1 = [some (D.h k), some (I size), some (D.lst (List.map I cells)), none, some (I 0), none] ∧ M1 = M.set k (.lst [.lst (cells.map I), I pos, I big, I used, I seed, I (turn + 1)])) ?_ ?_
        · walk_at "gos"
          exact ⟨rfl, rfl⟩
        rintro _ _ ⟨rfl, rfl⟩
        refine s_seq ?_
        refine SP.cut (fun ρ1 M1 => ∃ c pos, ρ1 = [some (D.h k), some (I size), some (D.lst (List.map I cells)), none, some (I c), none] ∧ M1 = M.set k (.lst [.lst (cells.map I), I pos, I big, I used, I seed, I (turn + 1)]) ∧ 0 ≤ pos) ?_ ?_
        · walk_at "gos"
          all_goals exact ⟨_, _, rfl, rfl, by first | assumption | (split <;> omega)⟩
        · rintro _ _ ⟨c, pos, rfl, rfl, p0⟩
          walk_at "gos"
          exact fin _ _ _ _ _ (Int.emod_nonneg _ (by omega)) (Int.emod_lt_of_pos _ h0) p0 b0 (by omega) (by omega)
theorem Pu.Ok.mono {p : Pu} {n m : Int} (h : p.Ok n) (hm : n ≤ m) : p.Ok m := ⟨h.p0, h.b0, h.t0, by have := h.tn; omega, h.s0, h.s1⟩
theorem alpha_at {r : Int} (h0 : 0 ≤ r) (h1 : r < 26) : ∃ c, atI ("abcdefghijklmnopqrstuvwxyz" : Str).cps.toList r = some c := by
  have h2 : r < ((("abcdefghijklmnopqrstuvwxyz" : Str).cps.toList).length : Int) := by rw [show (("abcdefghijklmnopqrstuvwxyz" : Str).cps.toList).length = 26 from rfl]; omega
  rw [atI_of h0 h2]
  exact ⟨_, List.getElem?_eq_getElem (by omega)⟩
theorem p_alpha {r : Int} {M : Mem} {E : Exn → Mem → Prop} {Q : D → Mem → Prop} (h0 : 0 ≤ r) (h1 : r < 26) (q : ∀ c, Q (Tx ⟨#[c]⟩) M) : P (gIx (Tx "abcdefghijklmnopqrstuvwxyz") (I r) M) E Q := by
  obtain ⟨c, hc⟩ := alpha_at h0 h1
  exact p_ixT hc (q c)
theorem word_spec {M : Mem} {k : Nat} {p : Pu} {n most : Int} {E : Exn → Mem → Prop} {Q : D → Mem → Prop} (hM : M[k]? = some (.lst p.ds)) (ok : p.Ok n) (hn : n ≤ 999999000000) (h0 : 0 ≤ most) (h1 : most ≤ 1000)
    (q : ∀ w (p' : Pu), (w.length : Int) ≤ most → p'.Ok (n + most + 1) → Q (Tx w) (M.set k (.lst p'.ds))) : P (F__law_word [.h k, I most] M) E Q := by
  unfold F__law_word
  walk_at "def"
  unfold B__law_word
  walk_at "gos"
  refine draw_spec hM ok (by omega) (by omega) (by omega) (fun r p1 r0 r1 ok1 => ?_)
  walk_at "gos"
  refine ⟨by omega, ?_⟩
  refine s_forL (fun i ρ M1 => ∃ w p2 t, ρ = [some (.h k), some (I most), some (Tx "abcdefghijklmnopqrstuvwxyz"), some (Tx w), t] ∧ M1 = M.set k (.lst (Pu.ds p2)) ∧ w.length ≤ i ∧ p2.Ok (n + 1 + i)) ⟨_, p1, none, rfl, rfl, by decide, by simpa using ok1⟩ (fun _ _ _ _ => trivial) ?_ ?_
  · rintro i d _ _ hd ⟨w, p2, t, rfl, rfl, hw, ok2⟩
    obtain ⟨rfl, hi⟩ := rangeD_get hd
    refine ⟨_, rfl, ?_⟩
    walk_at "gos"
    refine draw_spec (get_set hM) ok2 (by omega) (by omega) (by omega) (fun r2 p3 r20 r21 ok3 => ?_)
    walk_at "gos"
    obtain ⟨c, hc⟩ := alpha_at r20 r21
    refine p_ixT hc ?_
    refine p_addS (by show w.length + 1 ≤ _; omega) ?_
    exact ⟨_, p3, _, rfl, rfl, by rw [len_app]; show w.length + 1 ≤ _; omega, ok3.mono (by omega)⟩
  · rintro _ _ ⟨w, p2, t, rfl, rfl, hw, ok2⟩
    rw [rangeD_len] at hw ok2
    walk_at "gos"
    exact p_finV (fun z => by cases z) ((CellsOk.refl M).set hb_pu) (by simp [List.take_set]) (q w p2 (by omega) (ok2.mono (by omega)))
local macro_rules | `(tactic| walk_at "draw") => `(tactic| (refine draw_spec (by first | assumption | rfl | exact get_set ‹_› | exact get_app ‹_› | exact get_app (get_set ‹_›)) (by assumption) (by omega) (by omega) (by omega) ?_; rintro r p r0 r1 ok))
local macro_rules | `(tactic| walk_at "wordc") => `(tactic| (refine word_spec (by first | assumption | rfl | exact get_set ‹_› | exact get_app ‹_› | exact get_app (get_set ‹_›)) (by assumption) (by omega) (by omega) (by omega) ?_; rintro w p hw ok))
local macro_rules | `(tactic| walk_at "gd") => `(tactic| repeat' (first | walk_at "go1" | walk_at "split" | walk_at "draw" | walk_at "wordc" | ((with_reducible refine p_alpha (by omega) (by omega) ?_); rintro c) | fail))
theorem purse_spec {ns : List Int} {E : Exn → Mem → Prop} {Q : D → Mem → Prop} (q : ∀ p : Pu, p.Ok 0 → Q (.h 0) [.lst p.ds]) : P (F__law_purse [.ro (ns.map fun i => .v (.int i))] []) E Q := by
  unfold F__law_purse
  walk_at "def"
  unfold B__law_purse
  walk_at "gos"
  rw [show (some (63 : Int)) = some ((63 : Nat) : Int) from rfl, cutG_hi, ← List.map_take]
  generalize hc : ns.take 63 = cs
  have hl : cs.length ≤ 63 := by subst hc; simp; omega
  refine ⟨by simp; omega, ?_⟩
  refine p_lcR (fun i => I (cs.getD i 0)) trivial ?_ ?_
  · intro i d hd
    rw [List.getElem?_map] at hd
    obtain ⟨c, h1, rfl⟩ := Option.map_eq_some_iff.mp hd
    refine ⟨_, rfl, ?_⟩
    walk_at "gos"
    exact ⟨by simp [List.getD, h1], rfl⟩
  · have e : Ls (cs.map fun i => D.v (.int i)).length (fun i => I (cs.getD i 0)) = cs.map I := by
      rw [List.length_map]
      conv => rhs; rw [Ls_list (xs := cs) 0, Ls_map]
    rw [e]
    walk_at "gos"
    refine s_forL (fun i ρ M => ∃ seed t, ρ = [some (.ro (ns.map fun i => .v (.int i))), some (.lst (cs.map I)), some (I seed), t] ∧ M = [] ∧ 0 ≤ seed ∧ seed < 2147483648) ⟨7, none, rfl, rfl, by omega, by omega⟩ (fun _ _ _ _ => trivial) ?_ ?_
    · rintro i d _ _ hd ⟨seed, t, rfl, rfl, s0, s1⟩
      rw [List.getElem?_map] at hd
      obtain ⟨c, h1, rfl⟩ := Option.map_eq_some_iff.mp hd
      refine ⟨_, rfl, ?_⟩
      walk_at "gos"
      exact ⟨_, _, rfl, rfl, Int.emod_nonneg _ (by omega), by have := Int.emod_lt_of_pos (seed * 69997 + c % 2147483629 + 5) (show (0 : Int) < 2147483647 by decide); omega⟩
    · rintro _ _ ⟨seed, t, rfl, rfl, s0, s1⟩
      walk_at "gos"
      exact p_finO (Nat.le_refl _) rfl ((CellsOk.refl []).app (Nat.le_refl _)) hb_pu rfl (q ⟨cs, 0, 0, 0, seed, 0⟩ ⟨Int.le_refl 0, Int.le_refl 0, Int.le_refl 0, Int.le_refl 0, s0, s1⟩)
theorem step_at {r : Int} (h0 : 0 ≤ r) (h1 : r < 12) : ∃ s, atI [D.v (.int 1), D.v (.int 3), D.v (.int 5), D.v (.int 7), D.v (.int 9), D.v (.int 11), D.v (.int 15), D.v (.int 17), D.v (.int 19), D.v (.int 21), D.v (.int 23), D.v (.int 25)] r = some (I s) ∧ 1 ≤ s ∧ s ≤ 25 := by
  have : r = 0 ∨ r = 1 ∨ r = 2 ∨ r = 3 ∨ r = 4 ∨ r = 5 ∨ r = 6 ∨ r = 7 ∨ r = 8 ∨ r = 9 ∨ r = 10 ∨ r = 11 := by omega
  rcases this with rfl | rfl | rfl | rfl | rfl | rfl | rfl | rfl | rfl | rfl | rfl | rfl <;> exact ⟨_, rfl, by decide, by decide⟩
theorem amount_spec {p : Pu} {n many : Int} {E : Exn → Mem → Prop} {Q : D → Mem → Prop} (ok : p.Ok n) (hn : n ≤ 1000000) (h0 : 0 < many) (h1 : many ≤ 120)
    (q : ∀ c (p' : Pu), 0 ≤ c → Q (I c) [.lst p'.ds]) : P (F__law_amount [.h 0, I many] [.lst p.ds]) E Q := by
  have fin : ∀ (c : Int) (p' : Pu), 0 ≤ c → P (finish .frz [.lst p.ds] [.lst p'.ds] (I c)) E Q := fun c p' hc => p_finV (fun z => by cases z) (by
    have := (CellsOk.refl [D.lst p.ds]).set (k := 0) (hb_pu (L := 1) (cells := p'.cells) (a := p'.pos) (b := p'.big) (c := p'.used) (d := p'.seed) (e := p'.turn))
    exact this) rfl (q c p' hc)
  unfold F__law_amount
  walk_at "def"
  unfold B__law_amount
  walk_at "gos"
  refine draw_spec rfl ok (by omega) (by omega) (by omega) (fun r p1 r0 r1 ok1 => ?_)
  walk_at "gd"
  all_goals (try exact fin _ _ (by first | assumption | decide))
  all_goals (rename_i r3 p3 a3 b3 c3; have h5 := Int.mul_nonneg (show 0 ≤ many by omega) a3; refine fin _ _ ?_; first | omega | (rw [Int.mul_add]; omega))
theorem okEq_strs (ws : List Str) : okEq (.lst (ws.map Tx)) = true := okEq_all fun d hd => by
  obtain ⟨w, _, rfl⟩ := List.mem_map.mp hd
  exact ⟨rfl, by unfold dep; omega⟩
theorem names_fin {p : Pu} {n many : Int} {E : Exn → Mem → Prop} {Q : D → Mem → Prop}
    (q : ∀ (ws : List Str) (p' : Pu), ws.length = many.toNat → p'.Ok (n + 10000) → Q (.lst (ws.map Tx)) [.lst p'.ds]) (ws : List Str) (p' : Pu) (hl : ws.length = many.toNat) (ok' : p'.Ok (n + 10000)) : P (finish .frz [.lst p.ds] [.lst p'.ds, .lst (ws.map Tx)] (.h 1)) E Q :=
  p_finF (Nat.le_refl _) rfl (by
    have := ((CellsOk.refl [D.lst p.ds]).set (k := 0) (hb_pu (L := 1) (cells := p'.cells) (a := p'.pos) (b := p'.big) (c := p'.used) (d := p'.seed) (e := p'.turn))).app (L := [.lst (ws.map Tx)]) (Nat.le_refl _)
    exact this) (hb_lst fun d hd => by
      obtain ⟨w, _, rfl⟩ := List.mem_map.mp hd
      exact hb_v) rfl (q ws p' hl ok')
theorem names_a {p p2 : Pu} {n many first step : Int} {st tl : Str} {E : Exn → Mem → Prop} {Q : D → Mem → Prop} {nx : DL.Env → Mem → Prop} (ok : p2.Ok (n + 10000)) (h0 : 0 < many) (h1 : many ≤ 120) (a0 : 0 ≤ first) (b0 : 1 ≤ step) (b1 : step ≤ 25) (hst : (st.length : Int) ≤ 3) (htl : (tl.length : Int) ≤ 3)
    (q : ∀ (ws : List Str) (p' : Pu), ws.length = many.toNat → p'.Ok (n + 10000) → Q (.lst (ws.map Tx)) [.lst p'.ds]) :
    SP (B__law_names_3 [some (.h 0), some (I many), some (Tx "abcdefghijklmnopqrstuvwxyz"), some (.h 1), some (Tx st), some (Tx tl), some (I first), some (I step), none, none, none, none] [.lst p2.ds, .lst []]) nx (fun d M1 => P (finish .frz [.lst p.ds] M1 d) E Q) (fun _ _ => False) (fun _ _ => False) (fun x _ M1 => E x M1) := by
  walk_at "gd"
  refine ⟨by omega, ?_⟩
  refine s_forL (fun i ρ M => ∃ (ws : List Str) (t u : Option D), ρ = [some (.h 0), some (I many), some (Tx "abcdefghijklmnopqrstuvwxyz"), some (.h 1), some (Tx st), some (Tx tl), some (I first), some (I step), t, u, none, none] ∧ M = [.lst p2.ds, .lst (ws.map Tx)] ∧ ws.length = i) ⟨[], none, none, rfl, rfl, rfl⟩ (fun _ _ _ _ => trivial) ?_ ?_
  · rintro i d _ _ hd ⟨ws, t, u, rfl, rfl, hl⟩
    obtain ⟨rfl, hi⟩ := rangeD_get hd
    refine ⟨_, rfl, ?_⟩
    walk_at "gd"
    exact ⟨ws ++ [_], _, _, rfl, by rw [List.map_append]; rfl, by simp [hl]⟩
  · rintro _ _ ⟨ws, t, u, rfl, rfl, hl⟩
    rw [rangeD_len] at hl
    walk_at "gd"
    exact names_fin q ws p2 hl ok
theorem p_first {M : Mem} {k : Nat} {ws : List Str} {E : Exn → Mem → Prop} {Q : D → Mem → Prop} (h : M[k]? = some (.lst (ws.map Tx))) (hl : 0 < ws.length) (q : ∀ w, Q (Tx w) M) : P (gIx (.h k) (I 0) M) E Q := by
  obtain ⟨w, _, hw⟩ := atI_map Tx (Int.le_refl 0) (show (0 : Int) < ws.length by omega)
  exact p_ixH h hw (q w)
theorem p_add7 {w : Str} {c : Nat} {M : Mem} {E : Exn → Mem → Prop} {Q : D → Mem → Prop} (q : ∀ w' : Str, w'.length ≤ 8 → Q (Tx w') M) : P (gAdd (Tx (cutS w none (some 7))) (Tx ⟨#[c]⟩) M) E Q := by
  have h7 : (cutS w none (some 7)).length ≤ 7 := @cutS_7 w 7
  exact p_addS (by rw [len_c]; omega) (q _ (by rw [len_app, len_c]; omega))
theorem charsD_get {z : Str} {i : Nat} {d : D} (h : (charsD z)[i]? = some d) : ∃ c, d = Tx ⟨#[c]⟩ := by
  unfold charsD at h
  rw [List.getElem?_map] at h
  obtain ⟨c, _, rfl⟩ := Option.map_eq_some_iff.mp h
  exact ⟨c, rfl⟩
theorem names_spec {p : Pu} {n many : Int} {E : Exn → Mem → Prop} {Q : D → Mem → Prop} (ok : p.Ok n) (hn : n ≤ 100) (h0 : 0 < many) (h1 : many ≤ 120)
    (q : ∀ (ws : List Str) (p' : Pu), ws.length = many.toNat → p'.Ok (n + 10000) → Q (.lst (ws.map Tx)) [.lst p'.ds]) : P (F__law_names [.h 0, I many] [.lst p.ds]) E Q := by
  unfold F__law_names
  walk_at "def"
  unfold B__law_names
  refine s_seq (s_set (p_c (s_seq (s_set (p_eN (p_nil (p_lstH (by simp) ?_)))))))
  dsimp only [List.set_cons_zero, List.set_cons_succ, List.length_cons, List.length_nil, List.cons_append, List.nil_append, Nat.reduceAdd]
  refine s_seq ?_
  refine SP.cut (fun ρ M => ∃ p' : Pu, ρ = [some (.h 0), some (I many), some (Tx "abcdefghijklmnopqrstuvwxyz"), some (.h 1), none, none, none, none, none, none, none, none] ∧ M = [.lst p'.ds, .lst []] ∧ p'.Ok (n + 1)) ?_ ?_
  · walk_at "gd"
    all_goals first
      | exact ⟨_, rfl, rfl, ‹_›⟩
      | skip
    all_goals (rename_i r2 p2 c2 d2 ok2; obtain ⟨s, hs, s0, s1⟩ := step_at c2 d2; refine p_ixS rfl hs ?_; exact names_a (ok2.mono (by omega)) h0 h1 (by assumption) s0 s1 (by assumption) (by assumption) q)
  · rintro _ _ ⟨p1, rfl, rfl, ok1⟩
    walk_at "gd"
    refine ⟨by omega, ?_⟩
    refine s_forL (fun i ρ M => ∃ (ws : List Str) (p2 : Pu) (t u v : Option D), ρ = [some (.h 0), some (I many), some (Tx "abcdefghijklmnopqrstuvwxyz"), some (.h 1), none, none, none, none, t, none, u, v] ∧ M = [.lst p2.ds, .lst (ws.map Tx)] ∧ ws.length = i ∧ p2.Ok (n + 1 + 20 * i) ∧ ∀ w ∈ ws, w.length ≤ 40) ⟨[], p1, none, none, none, rfl, rfl, rfl, by simpa using ok1, by simp⟩ (fun _ _ _ _ => trivial) ?_ ?_
    · rintro i d _ _ hd ⟨ws, p2, t, u, v, rfl, rfl, hl, ok2, hw⟩
      obtain ⟨rfl, hi⟩ := rangeD_get hd
      refine ⟨_, rfl, ?_⟩
      refine s_seq ?_
      refine SP.cut (fun ρ M => ∃ (w : Str) (p3 : Pu), ρ = [some (.h 0), some (I many), some (Tx "abcdefghijklmnopqrstuvwxyz"), some (.h 1), none, none, none, none, some (I (0 + i)), none, some (Tx w), v] ∧ M = [.lst p3.ds, .lst (ws.map Tx)] ∧ p3.Ok (n + 1 + 20 * i + 10) ∧ w.length ≤ 8) ?_ ?_
      · walk_at "gd"
        exact ⟨_, _, rfl, rfl, ‹Pu.Ok _ (_ + 7 + 1)›.mono (by omega), by simp only [len_app, len_c]; omega⟩
      rintro _ _ ⟨w, p3, rfl, rfl, ok3, hw3⟩
      refine s_seq ?_
      refine SP.cut (fun ρ M => ∃ (w : Str) (p3 : Pu), ρ = [some (.h 0), some (I many), some (Tx "abcdefghijklmnopqrstuvwxyz"), some (.h 1), none, none, none, none, some (I (0 + i)), none, some (Tx w), v] ∧ M = [.lst p3.ds, .lst (ws.map Tx)] ∧ p3.Ok (n + 1 + 20 * i + 12) ∧ w.length ≤ 8) ?_ ?_
      · walk_at "gd"
        · refine p_first rfl (by omega) (fun w4 => ?_)
          walk_at "gd"
          refine p_add7 (fun w8 h8 => ?_)
          walk_at "gd"
          exact ⟨_, _, rfl, rfl, ‹Pu.Ok _ (_ + 1 + 1)›.mono (by omega), h8⟩
        · exact ⟨_, _, rfl, rfl, ‹Pu.Ok _ (_ + 10 + 1)›.mono (by omega), hw3⟩
        · exact ⟨_, _, rfl, rfl, ok3.mono (by omega), hw3⟩
      rintro _ _ ⟨w, p3, rfl, rfl, ok3, hw3⟩
      refine s_seq ?_
      refine SP.cut (fun ρ M => ∃ (w : Str) (v : Option D), ρ = [some (.h 0), some (I many), some (Tx "abcdefghijklmnopqrstuvwxyz"), some (.h 1), none, none, none, none, some (I (0 + i)), none, some (Tx w), v] ∧ M = [.lst p3.ds, .lst (ws.map Tx)] ∧ w.length ≤ 8) ?_ ?_
      · walk_at "gd"
        refine s_forL (fun _ ρ M => ∃ (w : Str) (v : Option D), ρ = [some (.h 0), some (I many), some (Tx "abcdefghijklmnopqrstuvwxyz"), some (.h 1), none, none, none, none, some (I (0 + i)), none, some (Tx w), v] ∧ M = [.lst p3.ds, .lst (ws.map Tx)] ∧ w.length ≤ 8) ⟨w, v, rfl, rfl, hw3⟩ (fun _ _ _ _ => trivial) ?_ (fun _ _ h => h)
        rintro j d _ _ hd4 ⟨w5, v5, rfl, rfl, hw5⟩
        obtain ⟨c, rfl⟩ := charsD_get hd4
        refine ⟨_, rfl, ?_⟩
        walk_at "gd"
        refine p_inL rfl rfl (okEq_strs ws) ?_
        walk_at "gd"
        · refine p_add7 (fun w8 h8 => ?_)
          walk_at "gd"
          exact ⟨_, _, rfl, rfl, h8⟩
        · exact ⟨_, _, rfl, rfl, hw5⟩
      rintro _ _ ⟨w6, v6, rfl, rfl, hw6⟩
      walk_at "gd"
      exact ⟨ws ++ [w6], p3, _, _, _, rfl, by rw [List.map_append]; rfl, by simp [hl], ok3.mono (by omega), by
        intro w7 h7
        rcases List.mem_append.mp h7 with h8 | h8
        · exact hw w7 h8
        · rw [List.mem_singleton.mp h8]; omega⟩
    · rintro _ _ ⟨ws, p2, t, u, v, rfl, rfl, hl, ok2, hw⟩
      rw [rangeD_len] at hl ok2
      walk_at "gd"
      exact names_fin q ws p2 hl (ok2.mono (by omega))
theorem isint_spec {x : Int} {M : Mem} {E : Exn → Mem → Prop} {Q : D → Mem → Prop} (q : Q (Bo true) M) : P (F__law_is_integer [I x] M) E Q := by
  unfold F__law_is_integer
  walk_at "def"
  unfold B__law_is_integer
  walk_at "gos"
  exact p_finY q
def quo (c : Int) (n : Nat) (i : Nat) : Int := c / n + (if (i : Int) < c - c / n * n then 1 else 0)
theorem shares_spec {c : Int} {n : Nat} {w : Nat → Str} {M : Mem} {E : Exn → Mem → Prop} {Q : D → Mem → Prop} (hn : 0 < n) (hn1 : n ≤ 1000) (q : Q (.h M.length) (M ++ [.lst (Ls n fun i => .tup [Tx (w i), I (quo c n i)])])) :
    P (F_shares [I c, .lst (Ls n fun i => Tx (w i))] M) E Q := by
  unfold F_shares
  walk_at "def"
  unfold B_shares
  walk_at "gos"
  refine ⟨_, _, rfl, rfl, ?_⟩
  rw [enumD_Ls]
  refine ⟨by simp; omega, ?_⟩
  refine p_lcR (fun i => .tup [Tx (w i), I (quo c n i)]) trivial ?_ ?_
  · intro i d hd
    obtain ⟨hi, rfl⟩ := Ls_get_of hd
    refine ⟨_, rfl, ?_⟩
    dsimp only [wipeD, List.foldl]
    walk_at "gos"
    · exact ⟨by unfold quo; rw [if_pos (by assumption)], rfl⟩
    · exact ⟨by unfold quo; rw [if_neg (by assumption), Int.add_zero], rfl⟩
  · walk_at "gos"
    exact p_finO (Nat.le_refl _) get_new ((CellsOk.refl M).app (Nat.le_refl _)) (hb_Ls fun i => hb_tup (by
      intro d hd
      rcases List.mem_cons.mp hd with rfl | hd
      · exact hb_v
      · rw [List.mem_singleton.mp hd]; exact hb_v)) (by simp) q
theorem parts_spec {n : Nat} {w : Nat → Str} {f : Nat → Int} {j : Nat} {M : Mem} {E : Exn → Mem → Prop} {Q : D → Mem → Prop} (hM : M[j]? = some (.lst (Ls n fun i => .tup [Tx (w i), I (f i)]))) (hn : n ≤ 1000) (q : Q (.lst (Ls n fun i => I (f i))) M) :
    P (F__law_parts [.h j, .lst (Ls n fun i => Tx (w i))] M) E Q := by
  have hl1 : lenD M (.h j) = some n := by rw [len_h hM, Ls_len]
  have ht := tyN_h hM
  unfold F__law_parts
  walk_at "def"
  unfold B__law_parts
  refine s_seq ?_
  refine SP.cut (fun ρ M1 => ρ = [some (.h j), some (.lst (Ls n fun i => Tx (w i))), none, none, none] ∧ M1 = M) ?_ ?_
  · walk_at "gos"
    exact ⟨rfl, rfl⟩
  intro ρ M1 ⟨e1, e2⟩
  rw [e1, e2]
  walk_at "gos"
  refine ⟨by omega, ?_⟩
  refine s_forL (fun i ρ M1 => ∃ t u, ρ = [some (.h j), some (.lst (Ls n fun i => Tx (w i))), some (.h M.length), t, u] ∧ M1 = M ++ [.lst (Ls i fun i => I (f i))]) ⟨none, none, rfl, rfl⟩ (fun _ _ _ _ => trivial) ?_ ?_
  · rintro i d _ _ hd ⟨t, u, rfl, rfl⟩
    obtain ⟨rfl, hi⟩ := rangeD_get0 hd
    refine ⟨_, rfl, ?_⟩
    have h1 := get_app (L := [.lst (Ls i fun i => I (f i))]) hM
    walk_at "gos"
    refine isint_spec ?_
    walk_at "gos"
    exact ⟨_, _, rfl, by rw [Ls_succ]⟩
  · rintro _ _ ⟨t, u, rfl, rfl⟩
    walk_at "gos"
    rw [rangeD_len]
    exact p_finF (Nat.le_refl _) get_new ((CellsOk.refl M).app (Nat.le_refl _)) (hb_Ls fun i => hb_v) (by simp) q
theorem quo_lt {c : Int} {n : Nat} (h0 : 0 < n) : 0 ≤ c - c / n * n ∧ c - c / n * n < n := by
  have h1 := Int.emod_nonneg c (show (n : Int) ≠ 0 by omega)
  have h2 := Int.emod_lt_of_pos c (show (0 : Int) < n by omega)
  have h3 := Int.mul_ediv_add_emod c n
  rw [Int.mul_comm] at h3
  omega
theorem sum_upto (c : Int) (n k : Nat) : (Ls k (quo c n)).sum = k * (c / n) + min (k : Int) (max 0 (c - c / n * n)) := by
  induction k with
  | zero => simp [Ls]; omega
  | succ k ih =>
    rw [Ls_succ, List.sum_append, ih]
    simp only [List.sum_cons, List.sum_nil, quo]
    rw [Int.natCast_add, Int.add_mul]
    split <;> omega
theorem sum_quo (c : Int) (n : Nat) (h0 : 0 < n) : (Ls n (quo c n)).sum = c := by
  obtain ⟨h1, h2⟩ := quo_lt (c := c) h0
  rw [sum_upto]
  have h3 := Int.mul_comm (c / n) n
  omega
theorem quo_nonneg {c : Int} {n i : Nat} (hc : 0 ≤ c) : 0 ≤ quo c n i := by
  have : 0 ≤ c / n := Int.ediv_nonneg hc (by omega)
  unfold quo; split <;> omega
theorem quo_step {c : Int} {n i j : Nat} (h : i ≤ j) : quo c n j ≤ quo c n i ∧ quo c n i ≤ quo c n j + 1 := by
  unfold quo; constructor <;> split <;> split <;> omega
theorem p_sumLs {M : Mem} {E : Exn → Mem → Prop} {Q : D → Mem → Prop} {n : Nat} {f : Nat → Int} (q : Q (I (Ls n f).sum) M) : P (gSum [.lst (Ls n fun i => I (f i))] M) E Q := p_sum rfl (by
  rw [show (Ls n fun i => I (f i)) = (Ls n f).map I from (Ls_map I).symm]
  exact intsOf_map) q
theorem fair_spec {c : Int} {n : Nat} {M : Mem} {E : Exn → Mem → Prop} {Q : D → Mem → Prop} (hc : 0 ≤ c) (h0 : 0 < n) (hn : n ≤ 1000) (q : Q (Bo true) M) :
    P (F__law_fair [.lst (Ls n fun i => I (quo c n i)), I c] M) E Q := by
  unfold F__law_fair
  walk_at "def"
  unfold B__law_fair
  have h3 := @quo_step c n 0 (n - 1) (by omega)
  have h4 := @quo_nonneg c n (n - 1) hc
  have h5 : ((n : Int) - 1).toNat = n - 1 := by omega
  walk_at "gos"
  · rw [h5] at *; omega
  · rw [h5] at *; omega
  refine p_sumLs ?_
  rw [sum_quo c n h0]
  walk_at "gos"
  refine ⟨by omega, ?_⟩
  refine s_forL (fun i ρ M1 => ∃ t, ρ = [some (.lst (Ls n fun i => I (quo c n i))), some (I c), some (I n), t] ∧ M1 = M) ⟨none, rfl, rfl⟩ (fun _ _ _ _ => trivial) ?_ ?_
  · rintro i d _ M1 hd ⟨t, rfl, e⟩
    rw [e]
    obtain ⟨rfl, hi⟩ := rangeD_get0 hd
    refine ⟨_, rfl, ?_⟩
    have h6 := @quo_step c n i (i + 1) (by omega)
    have h7 : ((i : Int) + 1).toNat = i + 1 := by omega
    walk_at "gos"
    rw [h7] at *; omega
  · rintro _ M1 ⟨t, rfl, e⟩
    rw [e]
    walk_at "gos"
    refine ⟨by omega, ?_⟩
    rw [rangeD_len]
    refine ⟨by omega, ?_⟩
    refine p_lcR (fun i => I (quo c n i)) trivial ?_ ?_
    · intro i d hd
      obtain ⟨rfl, hi⟩ := rangeD_get0 hd
      refine ⟨_, rfl, ?_⟩
      dsimp only [wipeD]
      walk_at "gos"
      refine ⟨?_, rfl⟩
      unfold quo
      simp only [decide_eq_true_iff]
    · rw [rangeD_len]
      walk_at "gos"
      exact p_finY q
theorem quo_more {c : Int} {n : Nat} (h0 : 0 < n) : (Ls n fun i => I (quo (c + n) n i)) = Ls n fun i => I (quo c n i + 1) := Ls_ext fun i _ => by
  have h : (c + n) / n = c / n + 1 := by rw [Int.add_ediv_of_dvd_right (Int.dvd_refl _), Int.ediv_self (by omega)]
  unfold quo
  rw [h, show c + (n : Int) - (c / n + 1) * n = c - c / n * n by rw [Int.add_mul]; omega]
  rw [Int.add_right_comm]
theorem quo_one (c : Int) : quo c 1 0 = c := by
  unfold quo
  simp
theorem law_true (ns : List Int) (hl : ns.length ≤ 63) : ∃ M, F_law [.ro (ns.map fun i => .v (.int i))] [] = .ok (.v (.bl true)) M := by
  suffices h : P (F_law [.ro (ns.map fun i => .v (.int i))] []) NoE fun d _ => d = Bo true by
    obtain ⟨d, M, e, rfl⟩ := h.ok
    exact ⟨M, e⟩
  unfold F_law
  walk_at "def"
  unfold B_law
  walk_at "gos"
  refine purse_spec (fun p ok => ?_)
  refine s_seq ?_
  refine SP.cut (fun ρ M => ∃ many p, ρ = [some (.ro (ns.map fun i => .v (.int i))), some (.h 0), some (I many), none, none, none, none, none, none, none, none, none, none, none, none] ∧ M = [.lst (Pu.ds p)] ∧ 1 ≤ many ∧ many ≤ 9 ∧ p.Ok 1) ?_ ?_
  · walk_at "gd"
    exact ⟨_, _, rfl, rfl, by omega, by omega, ‹_›⟩
  rintro _ _ ⟨many, p, rfl, rfl, m0, m1, ok⟩
  refine s_seq ?_
  refine SP.cut (fun ρ M => ∃ many p, ρ = [some (.ro (ns.map fun i => .v (.int i))), some (.h 0), some (I many), none, none, none, none, none, none, none, none, none, none, none, none] ∧ M = [.lst (Pu.ds p)] ∧ 1 ≤ many ∧ many ≤ 120 ∧ p.Ok 10) ?_ ?_
  · walk_at "gd"
    · exact ⟨_, _, rfl, rfl, by omega, by omega, ‹Pu.Ok _ (1 + 1 + 1)›.mono (by omega)⟩
    · exact ⟨_, _, rfl, rfl, by omega, by omega, ‹Pu.Ok _ (1 + 1)›.mono (by omega)⟩
  rintro _ _ ⟨many, p, rfl, rfl, m0, m1, ok⟩
  refine s_seq ?_
  refine SP.cut (fun ρ M => ∃ (w : Nat → Str) (p : Pu), ρ = [some (.ro (ns.map fun i => .v (.int i))), some (.h 0), some (I many), some (.lst (Ls many.toNat fun i => Tx (w i))), none, none, none, none, none, none, none, none, none, none, none] ∧ M = [.lst (Pu.ds p)] ∧ p.Ok 11000) ?_ ?_
  · walk_at "gd"
    refine names_spec ok (by omega) (by omega) (by omega) (fun ws p1 hw ok1 => ?_)
    walk_at "gd"
    refine ⟨fun i => ws.getD i "", p1, ?_, rfl, ok1.mono (by omega)⟩
    rw [← hw]
    have h := congrArg (List.map Tx) (Ls_list (xs := ws) "")
    rw [Ls_map] at h
    rw [← h]
  rintro _ _ ⟨w, p, rfl, rfl, ok⟩
  generalize hn : many.toNat = n
  have hmn : many = n := by omega
  subst hmn
  walk_at "gd"
  refine amount_spec ok (by omega) (by omega) (by omega) (fun c p1 hc => ?_)
  walk_at "gd"
  refine shares_spec (n := n) (by omega) (by omega) ?_
  walk_at "gd"
  refine parts_spec rfl (by omega) ?_
  walk_at "gd"
  refine fair_spec hc (by omega) (by omega) ?_
  walk_at "gd"
  refine p_store rfl (j := 0) (by simp [ixN]) ?_
  generalize List.set _ 0 (D.v V.non) = ds0
  walk_at "gd"
  refine shares_spec (n := n) (by omega) (by omega) ?_
  walk_at "gd"
  refine parts_spec rfl (by omega) ?_
  rw [quo_more (by omega)]
  walk_at "gd"
  refine ⟨by omega, ?_⟩
  dsimp only [wipeD, List.set_cons_zero, List.set_cons_succ]
  refine p_lcR (fun i => I (quo c n i + 1)) trivial ?_ ?_
  · intro i d hd
    obtain ⟨hi, rfl⟩ := Ls_get_of hd
    refine ⟨_, rfl, ?_⟩
    walk_at "gd"
    exact ⟨rfl, rfl⟩
  rw [Ls_len]
  walk_at "gd"
  refine shares_spec (n := n) (by omega) (by omega) ?_
  walk_at "gd"
  refine parts_spec rfl (by omega) ?_
  walk_at "gd"
  refine fair_spec (by omega) (by omega) (by omega) ?_
  walk_at "gd"
  refine shares_spec (n := n) (by omega) (by omega) ?_
  walk_at "gd"
  refine parts_spec rfl (by omega) ?_
  walk_at "gd"
  rw [Ls_rev]
  refine shares_spec (n := n) (w := fun i => w (n - 1 - i)) (by omega) (by omega) ?_
  walk_at "gd"
  rw [Ls_rev]
  refine parts_spec (w := fun i => w (n - 1 - i)) rfl (by omega) ?_
  walk_at "gd"
  have hcut : cutG (Ls n fun i => Tx (w i)) none (some 1) = Ls 1 fun i => Tx (w i) := by
    have h := @cutG_hi D (Ls n fun i => Tx (w i)) 1
    exact h.trans (Ls_take (by omega))
  rw [hcut]
  refine shares_spec (n := 1) (by omega) (by omega) ?_
  walk_at "gd"
  rw [hcut]
  refine parts_spec rfl (by omega) ?_
  rw [show (Ls 1 fun i => I (quo c 1 i)) = [I c] by rw [Ls_one, quo_one]]
  walk_at "gd"
  refine p_eqR (okEq_LsV (n := 1) (f := fun _ => .int c) fun _ => rfl) ?_
  exact p_finZ (CellsOk.app (CellsOk.refl []) (L := _) (Nat.le_refl _)) rfl rfl
end Law
set_option Elab.async false
set_option maxRecDepth 100000
set_option maxHeartbeats 4000000
namespace Law
open PySem PySem.Spec PyProof.Rows L2 DL
/-- what the top has left -/
structure Tx (K : PySem.W.Frag) (mg : Str → Option Value) where
  a__law_purse : Addr
  d__law_purse : FuncData
  f__law_purse : Fun K "_law_purse" "_law_purse" s__law_purse a__law_purse d__law_purse
  m__law_purse : mg "_law_purse" = some (.ref a__law_purse)
  b__law_purse : Binds K d__law_purse ["script"] []
  a__law_draw : Addr
  d__law_draw : FuncData
  f__law_draw : Fun K "_law_draw" "_law_draw" s__law_draw a__law_draw d__law_draw
  m__law_draw : mg "_law_draw" = some (.ref a__law_draw)
  b__law_draw : Binds K d__law_draw ["purse", "size"] []
  a__law_word : Addr
  d__law_word : FuncData
  f__law_word : Fun K "_law_word" "_law_word" s__law_word a__law_word d__law_word
  m__law_word : mg "_law_word" = some (.ref a__law_word)
  b__law_word : Binds K d__law_word ["purse", "most"] []
  a__law_names : Addr
  d__law_names : FuncData
  f__law_names : Fun K "_law_names" "_law_names" s__law_names a__law_names d__law_names
  m__law_names : mg "_law_names" = some (.ref a__law_names)
  b__law_names : Binds K d__law_names ["purse", "many"] []
  a__law_amount : Addr
  d__law_amount : FuncData
  f__law_amount : Fun K "_law_amount" "_law_amount" s__law_amount a__law_amount d__law_amount
  m__law_amount : mg "_law_amount" = some (.ref a__law_amount)
  b__law_amount : Binds K d__law_amount ["purse", "many"] []
  a_shares : Addr
  d_shares : FuncData
  f_shares : Fun K "shares" "shares" s_shares a_shares d_shares
  m_shares : mg "shares" = some (.ref a_shares)
  b_shares : Binds K d_shares ["cents", "names"] []
  a__law_is_integer : Addr
  d__law_is_integer : FuncData
  f__law_is_integer : Fun K "_law_is_integer" "_law_is_integer" s__law_is_integer a__law_is_integer d__law_is_integer
  m__law_is_integer : mg "_law_is_integer" = some (.ref a__law_is_integer)
  b__law_is_integer : Binds K d__law_is_integer ["value"] []
  a__law_parts : Addr
  d__law_parts : FuncData
  f__law_parts : Fun K "_law_parts" "_law_parts" s__law_parts a__law_parts d__law_parts
  m__law_parts : mg "_law_parts" = some (.ref a__law_parts)
  b__law_parts : Binds K d__law_parts ["told", "names"] []
  a__law_fair : Addr
  d__law_fair : FuncData
  f__law_fair : Fun K "_law_fair" "_law_fair" s__law_fair a__law_fair d__law_fair
  m__law_fair : mg "_law_fair" = some (.ref a__law_fair)
  b__law_fair : Binds K d__law_fair ["parts", "cents"] []
  a_law : Addr
  d_law : FuncData
  f_law : Fun K "law" "law" s_law a_law d_law
  n_abs : mg "abs" = none
  n_bool : mg "bool" = none
  n_enumerate : mg "enumerate" = none
  n_int : mg "int" = none
  n_isinstance : mg "isinstance" = none
  n_len : mg "len" = none
  n_list : mg "list" = none
  n_range : mg "range" = none
  n_reversed : mg "reversed" = none
  n_str : mg "str" = none
  n_sum : mg "sum" = none
  n_tuple : mg "tuple" = none
theorem Tx.k__law_purse {K : PySem.W.Frag} {mg : Str → Option Value} (T : Tx K mg) : PySem.W.keepIn K (.ref T.a__law_purse) = true := T.f__law_purse.kp
theorem Tx.k__law_draw {K : PySem.W.Frag} {mg : Str → Option Value} (T : Tx K mg) : PySem.W.keepIn K (.ref T.a__law_draw) = true := T.f__law_draw.kp
theorem Tx.k__law_word {K : PySem.W.Frag} {mg : Str → Option Value} (T : Tx K mg) : PySem.W.keepIn K (.ref T.a__law_word) = true := T.f__law_word.kp
theorem Tx.k__law_names {K : PySem.W.Frag} {mg : Str → Option Value} (T : Tx K mg) : PySem.W.keepIn K (.ref T.a__law_names) = true := T.f__law_names.kp
theorem Tx.k__law_amount {K : PySem.W.Frag} {mg : Str → Option Value} (T : Tx K mg) : PySem.W.keepIn K (.ref T.a__law_amount) = true := T.f__law_amount.kp
theorem Tx.k_shares {K : PySem.W.Frag} {mg : Str → Option Value} (T : Tx K mg) : PySem.W.keepIn K (.ref T.a_shares) = true := T.f_shares.kp
theorem Tx.k__law_is_integer {K : PySem.W.Frag} {mg : Str → Option Value} (T : Tx K mg) : PySem.W.keepIn K (.ref T.a__law_is_integer) = true := T.f__law_is_integer.kp
theorem Tx.k__law_parts {K : PySem.W.Frag} {mg : Str → Option Value} (T : Tx K mg) : PySem.W.keepIn K (.ref T.a__law_parts) = true := T.f__law_parts.kp
theorem Tx.k__law_fair {K : PySem.W.Frag} {mg : Str → Option Value} (T : Tx K mg) : PySem.W.keepIn K (.ref T.a__law_fair) = true := T.f__law_fair.kp
section
variable {P : Program} {w : World} {K : PySem.W.Frag} {mg : Str → Option Value} {base : Heap}
theorem ok__law_purse (T : Tx K mg) : FnOk P w K mg base (L2.CX P w) 1 T.a__law_purse T.d__law_purse ["script"] (spOf K 1 (runF .own 1 4 B__law_purse)) := by
  refine fn_body (N := N__law_purse) (k := 0) .own T.f__law_purse sc__law_purse fun cdv A outer s H E hr => ?_
  have hu := hu65 hr
  have nd := sc__law_purse.nd
  have tk := tk_of (P := P) (w := w) (K := K) (mg := mg) (base := base) (N := N__law_purse) (qual := "_law_purse") (sc := defScope s__law_purse) (f := T.a__law_purse) (cdv := cdv) (A := A) (outer := outer) (s := s) (H := H) (E := E)
  exact (sds_cons (sd_setLc mkV_ok [("cell", 3)] rfl nd (pid_seq (pd_slice (pd_var 0) pdo_no (pdo_some pd_int))) (blkOk_by (N := N__law_purse) (sc := defScope s__law_purse) (by decide +kernel)) (fun _ _ _ _ _ => (pgd_nm nd)) (fun _ _ _ _ _ => pdbs_nil) (fun _ _ _ _ _ => (pd_intOf T.n_int (pds_cons (pd_var 3) pds_nil))))
  (sds_cons (sd_set nd pd_int)
  (sds_cons (sd_for (passes_of rfl) rfl (pid_seq (pd_var 1)) (pgd_nm nd)
  (sds_one (sd_set nd (pd_mod (pd_intOf T.n_int (pds_cons (pd_add (pd_add (pd_mul (pd_var 2) pd_int) (pd_mod (pd_intOf T.n_int (pds_cons (pd_var 3) pds_nil)) pd_int)) pd_int) pds_nil)) pd_int))))
  (sds_one (sd_ret (pd_lst mkH_n (pds_cons (pd_var 1) (pds_cons pd_int (pds_cons pd_int (pds_cons pd_int (pds_cons (pd_var 2) (pds_cons pd_int pds_nil))))))))))))
theorem ok__law_draw (T : Tx K mg) : FnOk P w K mg base (L2.CX P w) 1 T.a__law_draw T.d__law_draw ["purse", "size"] (spOf K 2 (runF .frz 2 6 B__law_draw)) := by
  refine fn_body (N := N__law_draw) (k := 0) .frz T.f__law_draw sc__law_draw fun cdv A outer s H E hr => ?_
  have hu := hu65 hr
  have nd := sc__law_draw.nd
  have tk := tk_of (P := P) (w := w) (K := K) (mg := mg) (base := base) (N := N__law_draw) (qual := "_law_draw") (sc := defScope s__law_draw) (f := T.a__law_draw) (cdv := cdv) (A := A) (outer := outer) (s := s) (H := H) (E := E)
  exact (sds_cons (sd_set nd (pd_ix ix_seq dr_ix (pd_var 0) pd_int))
  (sds_cons (sd_if (pdb_w (pdw_and (pdb_w (pdw_or (pdb_eq hu (pd_ix ix_seq dr_ix (pd_var 0) pd_int) pd_int) (pdw_or1 (pdb_eq hu (pd_ix ix_seq dr_ix (pd_var 0) pd_int) pd_int)))) (pdw_and (pdb_lt (pd_ix ix_seq dr_ix (pd_var 0) pd_int) (pd_len T.n_len (pds_cons (pd_var 2) pds_nil))) (pdw_and1 (pdb_ge (pd_abs T.n_abs (pds_cons (pd_ix ix_seq dr_ix (pd_var 2) (pd_ix ix_seq dr_ix (pd_var 0) pd_int)) pds_nil)) (pd_pow pd_int pd_int))))))
  (sds_cons (sd_store (pd_var 0) pd_int (pd_abs T.n_abs (pds_cons (pd_ix ix_seq dr_ix (pd_var 2) (pd_ix ix_seq dr_ix (pd_var 0) pd_int)) pds_nil)))
  (sds_cons (sd_store (pd_var 0) pd_int pd_int)
  (sds_one (sd_store (pd_var 0) pd_int (pd_add (pd_ix ix_seq dr_ix (pd_var 0) pd_int) pd_int)))))
  sds_nil)
  (sds_cons (sd_store (pd_var 0) pd_int (pd_add (pd_ix ix_seq dr_ix (pd_var 0) pd_int) pd_int))
  (sds_cons (sd_if (pdb_w (pdw_and (pdb_gt (pd_ix ix_seq dr_ix (pd_var 0) pd_int) pd_int) (pdw_and1 (pdb_lt (pd_ix ix_seq dr_ix (pd_var 0) pd_int) pd_int))))
  (sds_cons (sd_set nd (pd_mod (pd_intOf T.n_int (pds_cons (pd_ix ix_seq dr_ix (pd_var 0) pd_int) pds_nil)) (pd_var 1)))
  (sds_cons (sd_store (pd_var 0) pd_int (pd_div (pd_intOf T.n_int (pds_cons (pd_ix ix_seq dr_ix (pd_var 0) pd_int) pds_nil)) (pd_var 1)))
  (sds_cons (sd_store (pd_var 0) pd_int (pd_add (pd_ix ix_seq dr_ix (pd_var 0) pd_int) pd_int))
  (sds_one (sd_ret (pd_var 3))))))
  sds_nil)
  (sds_cons (sd_set nd pd_int)
  (sds_cons (sd_if (pdb_lt (pd_ix ix_seq dr_ix (pd_var 0) pd_int) (pd_len T.n_len (pds_cons (pd_var 2) pds_nil)))
  (sds_cons (sd_set nd (pd_intOf T.n_int (pds_cons (pd_ix ix_seq dr_ix (pd_var 2) (pd_ix ix_seq dr_ix (pd_var 0) pd_int)) pds_nil)))
  (sds_one (sd_store (pd_var 0) pd_int (pd_add (pd_ix ix_seq dr_ix (pd_var 0) pd_int) (pd_intOf T.n_int (pds_cons (pd_eq hu (pd_mod (pd_ix ix_seq dr_ix (pd_var 0) pd_int) pd_int) pd_int) pds_nil))))))
  sds_nil)
  (sds_cons (sd_set nd (pd_mod (pd_intOf T.n_int (pds_cons (pd_add (pd_add (pd_ix ix_seq dr_ix (pd_var 0) pd_int) (pd_mul (pd_mod (pd_intOf T.n_int (pds_cons (pd_var 4) pds_nil)) pd_int) pd_int)) (pd_mul (pd_ix ix_seq dr_ix (pd_var 0) pd_int) pd_int)) pds_nil)) pd_int))
  (sds_cons (sd_set nd (pd_mod (pd_intOf T.n_int (pds_cons (pd_add (pd_add (pd_mul (pd_var 5) pd_int) (pd_mul (pd_div (pd_var 5) pd_int) pd_int)) pd_int) pds_nil)) pd_int))
  (sds_cons (sd_set nd (pd_mod (pd_intOf T.n_int (pds_cons (pd_add (pd_add (pd_div (pd_var 5) pd_int) (pd_mul (pd_var 5) pd_int)) (pd_mul (pd_ix ix_seq dr_ix (pd_var 0) pd_int) (pd_ix ix_seq dr_ix (pd_var 0) pd_int))) pds_nil)) pd_int))
  (sds_one (sd_ret (pd_mod (pd_intOf T.n_int (pds_cons (pd_var 5) pds_nil)) (pd_var 1)))))))))))))
theorem ok__law_word (T : Tx K mg) : FnOk P w K mg base (L2.CX P w) 2 T.a__law_word T.d__law_word ["purse", "most"] (spOf K 2 (runF .frz 2 5 B__law_word)) := by
  refine fn_body (N := N__law_word) (k := 1) .frz T.f__law_word sc__law_word fun cdv A outer s H E hr => ?_
  have hu := hu65 hr
  have nd := sc__law_word.nd
  have tk := tk_of (P := P) (w := w) (K := K) (mg := mg) (base := base) (N := N__law_word) (qual := "_law_word") (sc := defScope s__law_word) (f := T.a__law_word) (cdv := cdv) (A := A) (outer := outer) (s := s) (H := H) (E := E)
  exact (sds_cons (sd_set nd pd_str)
  (sds_cons (sd_set nd pd_str)
  (sds_cons (sd_for (passes_of rfl) rfl (pid_range1 T.n_range (pds_cons (pd_call tk (ok__law_draw T) (hr.mono (by decide)) T.m__law_draw T.k__law_draw T.b__law_draw (pds_cons (pd_var 0) (pds_cons (pd_add (pd_var 1) pd_int) pds_nil))) pds_nil)) (pgd_nm nd)
  (sds_one (sd_set nd (pd_add (pd_var 3) (pd_ix ix_seq dr_ix (pd_var 2) (pd_call tk (ok__law_draw T) (hr.mono (by decide)) T.m__law_draw T.k__law_draw T.b__law_draw (pds_cons (pd_var 0) (pds_cons pd_int pds_nil))))))))
  (sds_one (sd_ret (pd_var 3))))))
theorem ok__law_names (T : Tx K mg) : FnOk P w K mg base (L2.CX P w) 3 T.a__law_names T.d__law_names ["purse", "many"] (spOf K 2 (runF .frz 2 12 B__law_names)) := by
  refine fn_body (N := N__law_names) (k := 2) .frz T.f__law_names sc__law_names fun cdv A outer s H E hr => ?_
  have hu := hu65 hr
  have nd := sc__law_names.nd
  have tk := tk_of (P := P) (w := w) (K := K) (mg := mg) (base := base) (N := N__law_names) (qual := "_law_names") (sc := defScope s__law_names) (f := T.a__law_names) (cdv := cdv) (A := A) (outer := outer) (s := s) (H := H) (E := E)
  exact (sds_cons (sd_set nd pd_str)
  (sds_cons (sd_set nd (pd_lst mkH_n pds_nil))
  (sds_cons (sd_if (pdb_w (pdw_or (pdb_gt (pd_var 1) pd_int) (pdw_or1 (pdb_eq hu (pd_call tk (ok__law_draw T) (hr.mono (by decide)) T.m__law_draw T.k__law_draw T.b__law_draw (pds_cons (pd_var 0) (pds_cons pd_int pds_nil))) pd_int))))
  (sds_cons (sd_set nd (pd_call tk (ok__law_word T) (hr.mono (by decide)) T.m__law_word T.k__law_word T.b__law_word (pds_cons (pd_var 0) (pds_cons pd_int pds_nil))))
  (sds_cons (sd_set nd (pd_call tk (ok__law_word T) (hr.mono (by decide)) T.m__law_word T.k__law_word T.b__law_word (pds_cons (pd_var 0) (pds_cons pd_int pds_nil))))
  (sds_cons (sd_set nd (pd_call tk (ok__law_draw T) (hr.mono (by decide)) T.m__law_draw T.k__law_draw T.b__law_draw (pds_cons (pd_var 0) (pds_cons pd_int pds_nil))))
  (sds_cons (sd_set nd (pd_ix ix_seq dr_ix (pd_lst mkV_n (pds_cons pd_int (pds_cons pd_int (pds_cons pd_int (pds_cons pd_int (pds_cons pd_int (pds_cons pd_int (pds_cons pd_int (pds_cons pd_int (pds_cons pd_int (pds_cons pd_int (pds_cons pd_int (pds_cons pd_int pds_nil))))))))))))) (pd_call tk (ok__law_draw T) (hr.mono (by decide)) T.m__law_draw T.k__law_draw T.b__law_draw (pds_cons (pd_var 0) (pds_cons pd_int pds_nil)))))
  (sds_cons (sd_for (passes_of rfl) rfl (pid_range1 T.n_range (pds_cons (pd_var 1) pds_nil)) (pgd_nm nd)
  (sds_cons (sd_set nd (pd_mod (pd_intOf T.n_int (pds_cons (pd_add (pd_var 6) (pd_mul (pd_var 7) (pd_var 8))) pds_nil)) pd_int))
  (sds_one (sd_expr (pd_append (pd_var 3) (pds_cons (pd_add (pd_add (pd_add (pd_var 4) (pd_ix ix_seq dr_ix (pd_var 2) (pd_div (pd_var 9) pd_int))) (pd_ix ix_seq dr_ix (pd_var 2) (pd_sub (pd_var 9) (pd_mul (pd_div (pd_var 9) pd_int) pd_int)))) (pd_var 5)) pds_nil))))))
  (sds_one (sd_ret (pd_var 3))))))))
  sds_nil)
  (sds_cons (sd_for (passes_of rfl) rfl (pid_range1 T.n_range (pds_cons (pd_var 1) pds_nil)) (pgd_nm nd)
  (sds_cons (sd_set nd (pd_add (pd_ix ix_seq dr_ix (pd_var 2) (pd_call tk (ok__law_draw T) (hr.mono (by decide)) T.m__law_draw T.k__law_draw T.b__law_draw (pds_cons (pd_var 0) (pds_cons pd_int pds_nil)))) (pd_call tk (ok__law_word T) (hr.mono (by decide)) T.m__law_word T.k__law_word T.b__law_word (pds_cons (pd_var 0) (pds_cons pd_int pds_nil)))))
  (sds_cons (sd_if (pdb_w (pdw_and (pdb_gt (pd_var 8) pd_int) (pdw_and1 (pdb_eq hu (pd_call tk (ok__law_draw T) (hr.mono (by decide)) T.m__law_draw T.k__law_draw T.b__law_draw (pds_cons (pd_var 0) (pds_cons pd_int pds_nil))) pd_int))))
  (sds_one (sd_set nd (pd_add (pd_slice (pd_ix ix_seq dr_ix (pd_var 3) pd_int) pdo_no (pdo_some pd_int)) (pd_ix ix_seq dr_ix (pd_var 2) (pd_call tk (ok__law_draw T) (hr.mono (by decide)) T.m__law_draw T.k__law_draw T.b__law_draw (pds_cons (pd_var 0) (pds_cons pd_int pds_nil)))))))
  sds_nil)
  (sds_cons (sd_for (passes_of rfl) rfl (pid_seq (pd_var 2)) (pgd_nm nd)
  (sds_one (sd_if (pdb_in hu (pd_var 10) (pd_var 3))
  (sds_one (sd_set nd (pd_add (pd_slice (pd_var 10) pdo_no (pdo_some pd_int)) (pd_var 11))))
  sds_nil)))
  (sds_one (sd_expr (pd_append (pd_var 3) (pds_cons (pd_var 10) pds_nil))))))))
  (sds_one (sd_ret (pd_var 3)))))))
theorem ok__law_amount (T : Tx K mg) : FnOk P w K mg base (L2.CX P w) 2 T.a__law_amount T.d__law_amount ["purse", "many"] (spOf K 2 (runF .frz 2 3 B__law_amount)) := by
  refine fn_body (N := N__law_amount) (k := 1) .frz T.f__law_amount sc__law_amount fun cdv A outer s H E hr => ?_
  have hu := hu65 hr
  have nd := sc__law_amount.nd
  have tk := tk_of (P := P) (w := w) (K := K) (mg := mg) (base := base) (N := N__law_amount) (qual := "_law_amount") (sc := defScope s__law_amount) (f := T.a__law_amount) (cdv := cdv) (A := A) (outer := outer) (s := s) (H := H) (E := E)
  exact (sds_cons (sd_set nd (pd_call tk (ok__law_draw T) (hr.mono (by decide)) T.m__law_draw T.k__law_draw T.b__law_draw (pds_cons (pd_var 0) (pds_cons pd_int pds_nil))))
  (sds_cons (sd_if (pdb_eq hu (pd_var 2) pd_int)
  (sds_one (sd_ret pd_int))
  sds_nil)
  (sds_cons (sd_if (pdb_eq hu (pd_var 2) pd_int)
  (sds_one (sd_ret (pd_call tk (ok__law_draw T) (hr.mono (by decide)) T.m__law_draw T.k__law_draw T.b__law_draw (pds_cons (pd_var 0) (pds_cons (pd_var 1) pds_nil)))))
  sds_nil)
  (sds_cons (sd_if (pdb_eq hu (pd_var 2) pd_int)
  (sds_one (sd_ret (pd_mul (pd_var 1) (pd_call tk (ok__law_draw T) (hr.mono (by decide)) T.m__law_draw T.k__law_draw T.b__law_draw (pds_cons (pd_var 0) (pds_cons (pd_pow pd_int pd_int) pds_nil))))))
  sds_nil)
  (sds_cons (sd_if (pdb_eq hu (pd_var 2) pd_int)
  (sds_one (sd_ret (pd_sub (pd_mul (pd_var 1) (pd_add pd_int (pd_call tk (ok__law_draw T) (hr.mono (by decide)) T.m__law_draw T.k__law_draw T.b__law_draw (pds_cons (pd_var 0) (pds_cons pd_int pds_nil))))) pd_int)))
  sds_nil)
  (sds_cons (sd_if (pdb_eq hu (pd_var 2) pd_int)
  (sds_one (sd_ret (pd_add (pd_mul (pd_var 1) (pd_call tk (ok__law_draw T) (hr.mono (by decide)) T.m__law_draw T.k__law_draw T.b__law_draw (pds_cons (pd_var 0) (pds_cons pd_int pds_nil)))) pd_int)))
  sds_nil)
  (sds_cons (sd_if (pdb_eq hu (pd_var 2) pd_int)
  (sds_one (sd_ret (pd_call tk (ok__law_draw T) (hr.mono (by decide)) T.m__law_draw T.k__law_draw T.b__law_draw (pds_cons (pd_var 0) (pds_cons pd_int pds_nil)))))
  sds_nil)
  (sds_one (sd_ret (pd_add (pd_mul (pd_call tk (ok__law_draw T) (hr.mono (by decide)) T.m__law_draw T.k__law_draw T.b__law_draw (pds_cons (pd_var 0) (pds_cons pd_int pds_nil))) (pd_pow pd_int pd_int)) (pd_call tk (ok__law_draw T) (hr.mono (by decide)) T.m__law_draw T.k__law_draw T.b__law_draw (pds_cons (pd_var 0) (pds_cons (pd_add (pd_pow pd_int pd_int) pd_int) pds_nil)))))))))))))
theorem ok_shares (T : Tx K mg) : FnOk P w K mg base (L2.CX P w) 1 T.a_shares T.d_shares ["cents", "names"] (spOf K 2 (runF .own 2 6 B_shares)) := by
  refine fn_body (N := N_shares) (k := 0) .own T.f_shares sc_shares fun cdv A outer s H E hr => ?_
  have hu := hu65 hr
  have nd := sc_shares.nd
  have tk := tk_of (P := P) (w := w) (K := K) (mg := mg) (base := base) (N := N_shares) (qual := "shares") (sc := defScope s_shares) (f := T.a_shares) (cdv := cdv) (A := A) (outer := outer) (s := s) (H := H) (E := E)
  exact (sds_cons (sd_set nd (pd_div (pd_var 0) (pd_len T.n_len (pds_cons (pd_var 1) pds_nil))))
  (sds_cons (sd_set nd (pd_sub (pd_var 0) (pd_mul (pd_var 2) (pd_len T.n_len (pds_cons (pd_var 1) pds_nil)))))
  (sds_one (sd_ret (pd_lc mkH_ok [("at", 4), ("name", 5)] rfl nd (pid_enum T.n_enumerate (pds_cons (pd_var 1) pds_nil)) (blkOk_by (N := N_shares) (sc := defScope s_shares) (by decide +kernel)) (fun _ _ _ _ _ => (pgd_tp rfl (pgds_cons (pgd_nm nd) (pgds_cons (pgd_nm nd) pgds_nil)))) (fun _ _ _ _ _ => pdbs_nil) (fun _ _ _ _ _ => (pd_tup (pds_cons (pd_var 5) (pds_cons (pd_ifExp (pdb_lt (pd_var 4) (pd_var 3)) (pd_add (pd_var 2) pd_int) (pd_var 2)) pds_nil)))))))))
theorem ok__law_is_integer (T : Tx K mg) : FnOk P w K mg base (L2.CX P w) 1 T.a__law_is_integer T.d__law_is_integer ["value"] (spOf K 1 (runF .frz 1 1 B__law_is_integer)) := by
  refine fn_body (N := N__law_is_integer) (k := 0) .frz T.f__law_is_integer sc__law_is_integer fun cdv A outer s H E hr => ?_
  have hu := hu65 hr
  have nd := sc__law_is_integer.nd
  have tk := tk_of (P := P) (w := w) (K := K) (mg := mg) (base := base) (N := N__law_is_integer) (qual := "_law_is_integer") (sc := defScope s__law_is_integer) (f := T.a__law_is_integer) (cdv := cdv) (A := A) (outer := outer) (s := s) (H := H) (E := E)
  exact (sds_one (sd_ret (pd_andV (pd_isi T.n_isinstance (pds_cons (pd_var 0) (pds_cons (pd_tyName T.n_int) pds_nil))) (pd_and1 (pd_notV (pd_isi T.n_isinstance (pds_cons (pd_var 0) (pds_cons (pd_tyName T.n_bool) pds_nil))))))))
theorem ok__law_parts (T : Tx K mg) : FnOk P w K mg base (L2.CX P w) 2 T.a__law_parts T.d__law_parts ["told", "names"] (spOf K 2 (runF .frz 2 5 B__law_parts)) := by
  refine fn_body (N := N__law_parts) (k := 1) .frz T.f__law_parts sc__law_parts fun cdv A outer s H E hr => ?_
  have hu := hu65 hr
  have nd := sc__law_parts.nd
  have tk := tk_of (P := P) (w := w) (K := K) (mg := mg) (base := base) (N := N__law_parts) (qual := "_law_parts") (sc := defScope s__law_parts) (f := T.a__law_parts) (cdv := cdv) (A := A) (outer := outer) (s := s) (H := H) (E := E)
  exact (sds_cons (sd_if (pdb_w (pdw_or (pdb_not (pdb_tru (pd_isi T.n_isinstance (pds_cons (pd_var 0) (pds_cons (pd_tyName T.n_list) pds_nil))))) (pdw_or1 (pdb_ne hu (pd_len T.n_len (pds_cons (pd_var 0) pds_nil)) (pd_len T.n_len (pds_cons (pd_var 1) pds_nil))))))
  (sds_one (sd_ret pd_non))
  sds_nil)
  (sds_cons (sd_set nd (pd_lst mkH_n pds_nil))
  (sds_cons (sd_for (passes_of rfl) rfl (pid_range1 T.n_range (pds_cons (pd_len T.n_len (pds_cons (pd_var 1) pds_nil)) pds_nil)) (pgd_nm nd)
  (sds_cons (sd_set nd (pd_ix ix_seq dr_ix (pd_var 0) (pd_var 3)))
  (sds_cons (sd_if (pdb_w (pdw_or (pdb_not (pdb_tru (pd_isi T.n_isinstance (pds_cons (pd_var 4) (pds_cons (pd_tyName T.n_tuple) pds_nil))))) (pdw_or1 (pdb_ne hu (pd_len T.n_len (pds_cons (pd_var 4) pds_nil)) pd_int))))
  (sds_one (sd_ret pd_non))
  sds_nil)
  (sds_cons (sd_if (pdb_w (pdw_or (pdb_not (pdb_tru (pd_isi T.n_isinstance (pds_cons (pd_ix ix_seq dr_ix (pd_var 4) pd_int) (pds_cons (pd_tyName T.n_str) pds_nil))))) (pdw_or (pdb_ne hu (pd_ix ix_seq dr_ix (pd_var 4) pd_int) (pd_ix ix_seq dr_ix (pd_var 1) (pd_var 3))) (pdw_or1 (pdb_not (pdb_tru (pd_call tk (ok__law_is_integer T) (hr.mono (by decide)) T.m__law_is_integer T.k__law_is_integer T.b__law_is_integer (pds_cons (pd_ix ix_seq dr_ix (pd_var 4) pd_int) pds_nil))))))))
  (sds_one (sd_ret pd_non))
  sds_nil)
  (sds_one (sd_expr (pd_append (pd_var 2) (pds_cons (pd_ix ix_seq dr_ix (pd_var 4) pd_int) pds_nil))))))))
  (sds_one (sd_ret (pd_var 2))))))
theorem ok__law_fair (T : Tx K mg) : FnOk P w K mg base (L2.CX P w) 1 T.a__law_fair T.d__law_fair ["parts", "cents"] (spOf K 2 (runF .frz 2 4 B__law_fair)) := by
  refine fn_body (N := N__law_fair) (k := 0) .frz T.f__law_fair sc__law_fair fun cdv A outer s H E hr => ?_
  have hu := hu65 hr
  have nd := sc__law_fair.nd
  have tk := tk_of (P := P) (w := w) (K := K) (mg := mg) (base := base) (N := N__law_fair) (qual := "_law_fair") (sc := defScope s__law_fair) (f := T.a__law_fair) (cdv := cdv) (A := A) (outer := outer) (s := s) (H := H) (E := E)
  exact (sds_cons (sd_set nd (pd_len T.n_len (pds_cons (pd_var 0) pds_nil)))
  (sds_cons (sd_if (pdb_w (pdw_or (pdb_gt (pd_sub (pd_ix ix_seq dr_ix (pd_var 0) pd_int) (pd_ix ix_seq dr_ix (pd_var 0) (pd_sub (pd_var 2) pd_int))) pd_int) (pdw_or (pdb_lt (pd_ix ix_seq dr_ix (pd_var 0) (pd_sub (pd_var 2) pd_int)) pd_int) (pdw_or1 (pdb_ne hu (pd_sum rfl T.n_sum (pds_cons (pd_var 0) pds_nil)) (pd_var 1))))))
  (sds_one (sd_ret pd_bl))
  sds_nil)
  (sds_cons (sd_for (passes_of rfl) rfl (pid_range1 T.n_range (pds_cons (pd_sub (pd_var 2) pd_int) pds_nil)) (pgd_nm nd)
  (sds_one (sd_if (pdb_lt (pd_ix ix_seq dr_ix (pd_var 0) (pd_var 3)) (pd_ix ix_seq dr_ix (pd_var 0) (pd_add (pd_var 3) pd_int)))
  (sds_one (sd_ret pd_bl))
  sds_nil)))
  (sds_one (sd_ret (pd_eq hu (pd_var 0) (pd_lc mkV_ok [("place", 3)] rfl nd (pid_range1 T.n_range (pds_cons (pd_var 2) pds_nil)) (blkOk_by (N := N__law_fair) (sc := defScope s__law_fair) (by decide +kernel)) (fun _ _ _ _ _ => (pgd_nm nd)) (fun _ _ _ _ _ => pdbs_nil) (fun _ _ _ _ _ => (pd_add (pd_div (pd_var 1) (pd_var 2)) (pd_intOf T.n_int (pds_cons (pd_lt (pd_var 3) (pd_sub (pd_var 1) (pd_mul (pd_div (pd_var 1) (pd_var 2)) (pd_var 2)))) pds_nil)))))))))))
theorem ok_law (T : Tx K mg) : FnOk P w K mg base (L2.CX P w) 4 T.a_law T.d_law ["script"] (spOf K 1 (runF .frz 1 15 B_law)) := by
  refine fn_body (N := N_law) (k := 3) .frz T.f_law sc_law fun cdv A outer s H E hr => ?_
  have hu := hu65 hr
  have nd := sc_law.nd
  have tk := tk_of (P := P) (w := w) (K := K) (mg := mg) (base := base) (N := N_law) (qual := "law") (sc := defScope s_law) (f := T.a_law) (cdv := cdv) (A := A) (outer := outer) (s := s) (H := H) (E := E)
  exact (sds_cons (sd_set nd (pd_call tk (ok__law_purse T) (hr.mono (by decide)) T.m__law_purse T.k__law_purse T.b__law_purse (pds_cons (pd_var 0) pds_nil)))
  (sds_cons (sd_set nd (pd_add pd_int (pd_call tk (ok__law_draw T) (hr.mono (by decide)) T.m__law_draw T.k__law_draw T.b__law_draw (pds_cons (pd_var 1) (pds_cons pd_int pds_nil)))))
  (sds_cons (sd_if (pdb_eq hu (pd_call tk (ok__law_draw T) (hr.mono (by decide)) T.m__law_draw T.k__law_draw T.b__law_draw (pds_cons (pd_var 1) (pds_cons pd_int pds_nil))) pd_int)
  (sds_one (sd_set nd (pd_add pd_int (pd_call tk (ok__law_draw T) (hr.mono (by decide)) T.m__law_draw T.k__law_draw T.b__law_draw (pds_cons (pd_var 1) (pds_cons pd_int pds_nil))))))
  sds_nil)
  (sds_cons (sd_set nd (pd_call tk (ok__law_names T) (hr.mono (by decide)) T.m__law_names T.k__law_names T.b__law_names (pds_cons (pd_var 1) (pds_cons (pd_var 2) pds_nil))))
  (sds_cons (sd_set nd (pd_call tk (ok__law_amount T) (hr.mono (by decide)) T.m__law_amount T.k__law_amount T.b__law_amount (pds_cons (pd_var 1) (pds_cons (pd_var 2) pds_nil))))
  (sds_cons (sd_set nd (pd_listOf mkV_n T.n_list (pds_cons (pd_var 3) pds_nil)))
  (sds_cons (sd_set nd (pd_call tk (ok_shares T) (hr.mono (by decide)) T.m_shares T.k_shares T.b_shares (pds_cons (pd_var 4) (pds_cons (pd_var 5) pds_nil))))
  (sds_cons (sd_set nd (pd_call tk (ok__law_parts T) (hr.mono (by decide)) T.m__law_parts T.k__law_parts T.b__law_parts (pds_cons (pd_var 6) (pds_cons (pd_var 3) pds_nil))))
  (sds_cons (sd_if (pdb_w (pdw_or (pdb_isN (pd_var 7)) (pdw_or (pdb_ne hu (pd_var 5) (pd_var 3)) (pdw_or1 (pdb_not (pdb_tru (pd_call tk (ok__law_fair T) (hr.mono (by decide)) T.m__law_fair T.k__law_fair T.b__law_fair (pds_cons (pd_var 7) (pds_cons (pd_var 4) pds_nil)))))))))
  (sds_one (sd_ret pd_bl))
  sds_nil)
  (sds_cons (sd_expr (pd_append (pd_var 6) (pds_cons (pd_tup (pds_cons pd_str (pds_cons pd_int pds_nil))) pds_nil)))
  (sds_cons (sd_store (pd_var 6) pd_int pd_non)
  (sds_cons (sd_set nd (pd_call tk (ok__law_parts T) (hr.mono (by decide)) T.m__law_parts T.k__law_parts T.b__law_parts (pds_cons (pd_call tk (ok_shares T) (hr.mono (by decide)) T.m_shares T.k_shares T.b_shares (pds_cons (pd_add (pd_var 4) (pd_var 2)) (pds_cons (pd_listOf mkV_n T.n_list (pds_cons (pd_var 3) pds_nil)) pds_nil))) (pds_cons (pd_var 3) pds_nil))))
  (sds_cons (sd_if (pdb_w (pdw_or (pdb_isN (pd_var 8)) (pdw_or1 (pdb_ne hu (pd_var 8) (pd_lc mkV_ok [("part", 14)] rfl nd (pid_seq (pd_var 7)) (blkOk_by (N := N_law) (sc := defScope s_law) (by decide +kernel)) (fun _ _ _ _ _ => (pgd_nm nd)) (fun _ _ _ _ _ => pdbs_nil) (fun _ _ _ _ _ => (pd_add (pd_var 14) pd_int)))))))
  (sds_one (sd_ret pd_bl))
  sds_nil)
  (sds_cons (sd_set nd (pd_add (pd_add (pd_mul (pd_var 4) (pd_pow pd_int pd_int)) (pd_pow pd_int pd_int)) pd_int))
  (sds_cons (sd_set nd (pd_call tk (ok__law_parts T) (hr.mono (by decide)) T.m__law_parts T.k__law_parts T.b__law_parts (pds_cons (pd_call tk (ok_shares T) (hr.mono (by decide)) T.m_shares T.k_shares T.b_shares (pds_cons (pd_var 9) (pds_cons (pd_listOf mkV_n T.n_list (pds_cons (pd_var 3) pds_nil)) pds_nil))) (pds_cons (pd_var 3) pds_nil))))
  (sds_cons (sd_if (pdb_w (pdw_or (pdb_isN (pd_var 10)) (pdw_or1 (pdb_not (pdb_tru (pd_call tk (ok__law_fair T) (hr.mono (by decide)) T.m__law_fair T.k__law_fair T.b__law_fair (pds_cons (pd_var 10) (pds_cons (pd_var 9) pds_nil))))))))
  (sds_one (sd_ret pd_bl))
  sds_nil)
  (sds_cons (sd_set nd (pd_call tk (ok__law_parts T) (hr.mono (by decide)) T.m__law_parts T.k__law_parts T.b__law_parts (pds_cons (pd_call tk (ok_shares T) (hr.mono (by decide)) T.m_shares T.k_shares T.b_shares (pds_cons (pd_var 4) (pds_cons (pd_listOf mkV_n T.n_list (pds_cons (pd_var 3) pds_nil)) pds_nil))) (pds_cons (pd_var 3) pds_nil))))
  (sds_cons (sd_set nd (pd_call tk (ok__law_parts T) (hr.mono (by decide)) T.m__law_parts T.k__law_parts T.b__law_parts (pds_cons (pd_call tk (ok_shares T) (hr.mono (by decide)) T.m_shares T.k_shares T.b_shares (pds_cons (pd_var 4) (pds_cons (pd_revL rfl mkV_n T.n_list T.n_reversed (pd_var 3)) pds_nil))) (pds_cons (pd_revL rfl mkV_n T.n_list T.n_reversed (pd_var 3)) pds_nil))))
  (sds_cons (sd_set nd (pd_call tk (ok__law_parts T) (hr.mono (by decide)) T.m__law_parts T.k__law_parts T.b__law_parts (pds_cons (pd_call tk (ok_shares T) (hr.mono (by decide)) T.m_shares T.k_shares T.b_shares (pds_cons (pd_var 4) (pds_cons (pd_slice (pd_var 3) pdo_no (pdo_some pd_int)) pds_nil))) (pds_cons (pd_slice (pd_var 3) pdo_no (pdo_some pd_int)) pds_nil))))
  (sds_one (sd_ret (pd_andV (pd_eq hu (pd_var 11) (pd_var 7)) (pd_andV (pd_eq hu (pd_var 12) (pd_var 7)) (pd_and1 (pd_eq hu (pd_var 13) (pd_lst mkV_n (pds_cons (pd_var 4) pds_nil)))))))))))))))))))))))))))
end
end Law
set_option Elab.async false
set_option maxRecDepth 100000
set_option maxHeartbeats 4000000
namespace Law
open PySem PySem.Spec PyProof.Rows L2 DL
theorem all_mk {l : PySem.W.OpenLaw} {w : World} {K : PySem.W.Frag} {h : Heap} {mg : Str → Option Value} {fa f0 f1 f2 f3 f4 f5 f6 f7 f8 f9 : Addr} (X : K.In h) (G : h.Ns mainGlobals mg) (hfa : mg "law" = some (.ref fa))
    {od0 an0 od1 an1 od2 an2 od3 an3 od4 an4 od5 an5 od6 an6 od7 an7 od8 an8 od9 an9 : Option Addr} {sl0 sl1 sl2 sl3 sl4 sl5 sl6 sl7 sl8 sl9 : Array (Option Value)} {oc0 kV0 dc0 pm0 cd0 ct0 oc1 kV1 dc1 pm1 cd1 ct1 oc2 kV2 dc2 pm2 cd2 ct2 oc3 kV3 dc3 pm3 cd3 ct3 oc4 kV4 dc4 pm4 cd4 ct4 oc5 kV5 dc5 pm5 cd5 ct5 oc6 kV6 dc6 pm6 cd6 ct6 oc7 kV7 dc7 pm7 cd7 ct7 oc8 kV8 dc8 pm8 cd8 ct8 oc9 kV9 dc9 pm9 cd9 ct9 : Value}
    (a0 : PySem.W.nsIn K mainGlobals "_law_purse" = some (some (.ref f0))) (l0 : K.lookup f0 = some ⟨oc0, od0, .func (PySem.W.fnOf "_law_purse" "_law_purse" (defArgs s__law_purse) (defBody s__law_purse) (defScope s__law_purse) .none kV0 dc0 pm0 an0 cd0 ct0), sl0⟩) (c0 : PySem.W.codeIn K cd0 "_law_purse" = true) (k0 : PySem.W.keepIn K (.ref f0) = true)
    (a1 : PySem.W.nsIn K mainGlobals "_law_draw" = some (some (.ref f1))) (l1 : K.lookup f1 = some ⟨oc1, od1, .func (PySem.W.fnOf "_law_draw" "_law_draw" (defArgs s__law_draw) (defBody s__law_draw) (defScope s__law_draw) .none kV1 dc1 pm1 an1 cd1 ct1), sl1⟩) (c1 : PySem.W.codeIn K cd1 "_law_draw" = true) (k1 : PySem.W.keepIn K (.ref f1) = true)
    (a2 : PySem.W.nsIn K mainGlobals "_law_word" = some (some (.ref f2))) (l2 : K.lookup f2 = some ⟨oc2, od2, .func (PySem.W.fnOf "_law_word" "_law_word" (defArgs s__law_word) (defBody s__law_word) (defScope s__law_word) .none kV2 dc2 pm2 an2 cd2 ct2), sl2⟩) (c2 : PySem.W.codeIn K cd2 "_law_word" = true) (k2 : PySem.W.keepIn K (.ref f2) = true)
    (a3 : PySem.W.nsIn K mainGlobals "_law_names" = some (some (.ref f3))) (l3 : K.lookup f3 = some ⟨oc3, od3, .func (PySem.W.fnOf "_law_names" "_law_names" (defArgs s__law_names) (defBody s__law_names) (defScope s__law_names) .none kV3 dc3 pm3 an3 cd3 ct3), sl3⟩) (c3 : PySem.W.codeIn K cd3 "_law_names" = true) (k3 : PySem.W.keepIn K (.ref f3) = true)
    (a4 : PySem.W.nsIn K mainGlobals "_law_amount" = some (some (.ref f4))) (l4 : K.lookup f4 = some ⟨oc4, od4, .func (PySem.W.fnOf "_law_amount" "_law_amount" (defArgs s__law_amount) (defBody s__law_amount) (defScope s__law_amount) .none kV4 dc4 pm4 an4 cd4 ct4), sl4⟩) (c4 : PySem.W.codeIn K cd4 "_law_amount" = true) (k4 : PySem.W.keepIn K (.ref f4) = true)
    (a5 : PySem.W.nsIn K mainGlobals "shares" = some (some (.ref f5))) (l5 : K.lookup f5 = some ⟨oc5, od5, .func (PySem.W.fnOf "shares" "shares" (defArgs s_shares) (defBody s_shares) (defScope s_shares) .none kV5 dc5 pm5 an5 cd5 ct5), sl5⟩) (c5 : PySem.W.codeIn K cd5 "shares" = true) (k5 : PySem.W.keepIn K (.ref f5) = true)
    (a6 : PySem.W.nsIn K mainGlobals "_law_is_integer" = some (some (.ref f6))) (l6 : K.lookup f6 = some ⟨oc6, od6, .func (PySem.W.fnOf "_law_is_integer" "_law_is_integer" (defArgs s__law_is_integer) (defBody s__law_is_integer) (defScope s__law_is_integer) .none kV6 dc6 pm6 an6 cd6 ct6), sl6⟩) (c6 : PySem.W.codeIn K cd6 "_law_is_integer" = true) (k6 : PySem.W.keepIn K (.ref f6) = true)
    (a7 : PySem.W.nsIn K mainGlobals "_law_parts" = some (some (.ref f7))) (l7 : K.lookup f7 = some ⟨oc7, od7, .func (PySem.W.fnOf "_law_parts" "_law_parts" (defArgs s__law_parts) (defBody s__law_parts) (defScope s__law_parts) .none kV7 dc7 pm7 an7 cd7 ct7), sl7⟩) (c7 : PySem.W.codeIn K cd7 "_law_parts" = true) (k7 : PySem.W.keepIn K (.ref f7) = true)
    (a8 : PySem.W.nsIn K mainGlobals "_law_fair" = some (some (.ref f8))) (l8 : K.lookup f8 = some ⟨oc8, od8, .func (PySem.W.fnOf "_law_fair" "_law_fair" (defArgs s__law_fair) (defBody s__law_fair) (defScope s__law_fair) .none kV8 dc8 pm8 an8 cd8 ct8), sl8⟩) (c8 : PySem.W.codeIn K cd8 "_law_fair" = true) (k8 : PySem.W.keepIn K (.ref f8) = true)
    (a9 : PySem.W.nsIn K mainGlobals "law" = some (some (.ref f9))) (l9 : K.lookup f9 = some ⟨oc9, od9, .func (PySem.W.fnOf "law" "law" (defArgs s_law) (defBody s_law) (defScope s_law) .none kV9 dc9 pm9 an9 cd9 ct9), sl9⟩) (c9 : PySem.W.codeIn K cd9 "law" = true) (k9 : PySem.W.keepIn K (.ref f9) = true)
    (z_abs : PySem.W.nsIn K mainGlobals "abs" = some none)
    (z_bool : PySem.W.nsIn K mainGlobals "bool" = some none)
    (z_enumerate : PySem.W.nsIn K mainGlobals "enumerate" = some none)
    (z_int : PySem.W.nsIn K mainGlobals "int" = some none)
    (z_isinstance : PySem.W.nsIn K mainGlobals "isinstance" = some none)
    (z_len : PySem.W.nsIn K mainGlobals "len" = some none)
    (z_list : PySem.W.nsIn K mainGlobals "list" = some none)
    (z_range : PySem.W.nsIn K mainGlobals "range" = some none)
    (z_reversed : PySem.W.nsIn K mainGlobals "reversed" = some none)
    (z_str : PySem.W.nsIn K mainGlobals "str" = some none)
    (z_sum : PySem.W.nsIn K mainGlobals "sum" = some none)
    (z_tuple : PySem.W.nsIn K mainGlobals "tuple" = some none)
    : ∃ fd : FuncData, (∀ (s : Shared) (v : Value), BindsTo s fd ⟨[v], []⟩ [("script", v)]) ∧ ∀ base : Heap, K.In base → base.Ns mainGlobals mg → FnOk l.prog w K mg base (L2.CX l.prog w) 4 fa fd ["script"] (spOf K 1 F_law) := by
  have e := hfa.symm.trans (PySem.W.mg_of X G a9)
  cases e
  have F0 := fun_mk (st := s__law_purse) l0 c0 k0
  have F1 := fun_mk (st := s__law_draw) l1 c1 k1
  have F2 := fun_mk (st := s__law_word) l2 c2 k2
  have F3 := fun_mk (st := s__law_names) l3 c3 k3
  have F4 := fun_mk (st := s__law_amount) l4 c4 k4
  have F5 := fun_mk (st := s_shares) l5 c5 k5
  have F6 := fun_mk (st := s__law_is_integer) l6 c6 k6
  have F7 := fun_mk (st := s__law_parts) l7 c7 k7
  have F8 := fun_mk (st := s__law_fair) l8 c8 k8
  have F9 := fun_mk (st := s_law) l9 c9 k9
  have b0 := F0.binds (ps := ["script"]) fun _ _ _ _ _ _ us hl => match us, hl with | [_], _ => rfl
  have b1 := F1.binds (ps := ["purse", "size"]) fun _ _ _ _ _ _ us hl => match us, hl with | [_, _], _ => rfl
  have b2 := F2.binds (ps := ["purse", "most"]) fun _ _ _ _ _ _ us hl => match us, hl with | [_, _], _ => rfl
  have b3 := F3.binds (ps := ["purse", "many"]) fun _ _ _ _ _ _ us hl => match us, hl with | [_, _], _ => rfl
  have b4 := F4.binds (ps := ["purse", "many"]) fun _ _ _ _ _ _ us hl => match us, hl with | [_, _], _ => rfl
  have b5 := F5.binds (ps := ["cents", "names"]) fun _ _ _ _ _ _ us hl => match us, hl with | [_, _], _ => rfl
  have b6 := F6.binds (ps := ["value"]) fun _ _ _ _ _ _ us hl => match us, hl with | [_], _ => rfl
  have b7 := F7.binds (ps := ["told", "names"]) fun _ _ _ _ _ _ us hl => match us, hl with | [_, _], _ => rfl
  have b8 := F8.binds (ps := ["parts", "cents"]) fun _ _ _ _ _ _ us hl => match us, hl with | [_, _], _ => rfl
  let T : Tx K mg := { a__law_purse := f0, d__law_purse := _, f__law_purse := F0, m__law_purse := PySem.W.mg_of X G a0, b__law_purse := b0, a__law_draw := f1, d__law_draw := _, f__law_draw := F1, m__law_draw := PySem.W.mg_of X G a1, b__law_draw := b1, a__law_word := f2, d__law_word := _, f__law_word := F2, m__law_word := PySem.W.mg_of X G a2, b__law_word := b2, a__law_names := f3, d__law_names := _, f__law_names := F3, m__law_names := PySem.W.mg_of X G a3, b__law_names := b3, a__law_amount := f4, d__law_amount := _, f__law_amount := F4, m__law_amount := PySem.W.mg_of X G a4, b__law_amount := b4, a_shares := f5, d_shares := _, f_shares := F5, m_shares := PySem.W.mg_of X G a5, b_shares := b5, a__law_is_integer := f6, d__law_is_integer := _, f__law_is_integer := F6, m__law_is_integer := PySem.W.mg_of X G a6, b__law_is_integer := b6, a__law_parts := f7, d__law_parts := _, f__law_parts := F7, m__law_parts := PySem.W.mg_of X G a7, b__law_parts := b7, a__law_fair := f8, d__law_fair := _, f__law_fair := F8, m__law_fair := PySem.W.mg_of X G a8, b__law_fair := b8, a_law := fa, d_law := _, f_law := F9, n_abs := PySem.W.mg_none_of X G z_abs, n_bool := PySem.W.mg_none_of X G z_bool, n_enumerate := PySem.W.mg_none_of X G z_enumerate, n_int := PySem.W.mg_none_of X G z_int, n_isinstance := PySem.W.mg_none_of X G z_isinstance, n_len := PySem.W.mg_none_of X G z_len, n_list := PySem.W.mg_none_of X G z_list, n_range := PySem.W.mg_none_of X G z_range, n_reversed := PySem.W.mg_none_of X G z_reversed, n_str := PySem.W.mg_none_of X G z_str, n_sum := PySem.W.mg_none_of X G z_sum, n_tuple := PySem.W.mg_none_of X G z_tuple }
  exact ⟨T.d_law, fun s v => .of_eq rfl, fun base _ _ => ok_law T⟩
end Law
open PySem PySem.W PyProof.Rows
set_option maxHeartbeats 0 in
theorem PySem.Challenge.cw_hearthdue_k19_shares_add_up_holds : PySem.Challenge.rw_hearthdue_k19_shares_add_up.Holds := by
  w_on; o_law; k_head; (case hw => w_witness2)
  k_fill
  refine L2.walk_of (l := PySem.Challenge.rw_hearthdue_k19_shares_add_up) (n := 63) (k := 4) (x := "script") (CX := fun w => L2.CX PySem.Challenge.pw_hearthdue_k19_shares_add_up w) (sp := fun w => DL.spOf _ 1 Law.F_law) rfl (by decide) rfl ⟨rfl, by decide, by decide⟩ (fun w h Y => PySem.W.kIn_of Y) ?F (fun w H a ns hl _ hS => DL.sp_law hl hS (Law.law_true ns hl)) (fun _ _ _ _ _ h => DL.cx_false h)
  case F =>
    intro w mg fa h KX G hmg
    refine' Law.all_mk KX G hmg ?a0 ?l0 ?c0 ?k0 ?a1 ?l1 ?c1 ?k1 ?a2 ?l2 ?c2 ?k2 ?a3 ?l3 ?c3 ?k3 ?a4 ?l4 ?c4 ?k4 ?a5 ?l5 ?c5 ?k5 ?a6 ?l6 ?c6 ?k6 ?a7 ?l7 ?c7 ?k7 ?a8 ?l8 ?c8 ?k8 ?a9 ?l9 ?c9 ?k9 ?z_abs ?z_bool ?z_enumerate ?z_int ?z_isinstance ?z_len ?z_list ?z_range ?z_reversed ?z_str ?z_sum ?z_tuple
    (case a0 => k_is); (case l0 => k_is); (case c0 => k_is); (case k0 => k_is); (case a1 => k_is); (case l1 => k_is); (case c1 => k_is); (case k1 => k_is); (case a2 => k_is); (case l2 => k_is); (case c2 => k_is); (case k2 => k_is); (case a3 => k_is); (case l3 => k_is); (case c3 => k_is); (case k3 => k_is); (case a4 => k_is); (case l4 => k_is); (case c4 => k_is); (case k4 => k_is); (case a5 => k_is); (case l5 => k_is); (case c5 => k_is); (case k5 => k_is); (case a6 => k_is); (case l6 => k_is); (case c6 => k_is); (case k6 => k_is); (case a7 => k_is); (case l7 => k_is); (case c7 => k_is); (case k7 => k_is); (case a8 => k_is); (case l8 => k_is); (case c8 => k_is); (case k8 => k_is); (case a9 => k_is); (case l9 => k_is); (case c9 => k_is); (case k9 => k_is); (case z_abs => k_is); (case z_bool => k_is); (case z_enumerate => k_is); (case z_int => k_is); (case z_isinstance => k_is); (case z_len => k_is); (case z_list => k_is); (case z_range => k_is); (case z_reversed => k_is); (case z_str => k_is); (case z_sum => k_is); (case z_tuple => k_is)
