import PyProof.Rows.All
import HandS.CallSlots
import HandS.ClsMeth
import HandS.Deep
import HandS.Evl
import HandS.FStr
import HandS.Flow
import HandS.ForExc
import HandS.ForMost
import HandS.GenList
import HandS.IsInst
import HandS.RaiseMore
import HandS.Rev
import HandS.RevTup
import HandS.SortInts
import HandS.TupAny
import HandS.TupLen
import HandS.Wide
import HandS.WordsExc
import KE.KDictList
import KE.KSuper
import KE.RegKIsAll
import OpenK.AllK
import Wide.All
import Wide.FinOn
import PySem.Challenge.RW_hearthdue_k37_papers_lines
set_option linter.all false
set_option Elab.async false
set_option maxRecDepth 100000
set_option maxHeartbeats 2000000
/-! DL: a denotational layer over HandS: every expression and statement denotes a Lean function over deep data D and a list of cells. -/
namespace DL
open PySem PySem.Spec PyProof.Rows L2

/-- deep data: v a scalar, h a handle to a cell, the others values that are never changed -/
inductive D where
  | v (x : V)
  | h (k : Nat)
  | tup (ds : List D)
  | lst (ds : List D)
  | ro (ds : List D)
  | ins (C : Str) (ns : List Str) (ds : List D)
  | dK (ks : List Key) (ds : List D)
  | dT (ks : List (List Key)) (ds : List D)
  | cl (C : Str)

abbrev Mem := List D
abbrev Env := List (Option D)
structure Exn where
  cls : Value
  fs : Option (List Str × List D)
inductive Out (α : Type) where
  | ok (a : α) (M : Mem)
  | er (x : Exn) (M : Mem)
  | stuck
abbrev C (α : Type) := Mem → Out α
def C.bind {α β : Type} (c : C α) (g : α → C β) : C β := fun M => match c M with
  | .ok a M1 => g a M1
  | .er x M1 => .er x M1
  | .stuck => .stuck
def C.ret {α : Type} (a : α) : C α := fun M => .ok a M
def C.stuck {α : Type} : C α := fun _ => .stuck
@[simp] theorem bind_ok {α β : Type} {c : C α} {g : α → C β} {M M1 : Mem} {a : α} (h : c M = .ok a M1) : C.bind c g M = g a M1 := by
  unfold C.bind; rw [h]
@[simp] theorem ret_bind {α β : Type} {a : α} {g : α → C β} : C.bind (C.ret a) g = g a := rfl
theorem ret_def {α : Type} (a : α) (M : Mem) : C.ret a M = .ok a M := rfl

/-! ### what stands for what -/
def okV : V → Bool
  | .str s => PyData.strOk s && decide (s.length ≤ 16777216)
  | _ => true
/-- where the class of a name lies -/
def clsA (K : PySem.W.Frag) (C : Str) : Addr := match PySem.W.nsIn K mainGlobals C with
  | some (some (.ref a)) => a
  | _ => 0
/-- an object's content: ds stand for the values -/
def ObjR (K : PySem.W.Frag) (R : List D → List V → Prop) : D → HO → Prop
  | .lst ds, .lst vs => R ds vs ∧ ds.length ≤ sizeLine
  | .tup ds, .tup vs => R ds vs ∧ ds.length ≤ sizeLine
  | .ins C ns ds, .ins C' _ fs => C' = clsA K C ∧ fs.map (·.1) = ns ∧ R ds (fs.map (·.2))
  | .dK ks ds, .dK kvs => kvs.map (·.1) = ks ∧ R ds (kvs.map (·.2)) ∧ ks.Nodup ∧ ks.length ≤ sizeLine
  | .dT ks ds, .dT kvs => kvs.map (·.1) = ks ∧ R ds (kvs.map (·.2)) ∧ ks.Nodup ∧ ks.length ≤ sizeLine
  | _, _ => False
mutual
def Rep (K : PySem.W.Frag) (S : Hp) (as : List Addr) : D → V → Prop
  | .v x, v => v = x ∧ okV x = true
  | .h k, v => ∃ a, as[k]? = some a ∧ v = .ref a
  | .tup ds, v => ∃ a vs, v = .ref a ∧ SqT K S a vs ∧ Reps K S as ds vs ∧ ds.length ≤ sizeLine
  | .ro ds, v => ∃ a vs, v = .ref a ∧ SqL K S a vs ∧ Reps K S as ds vs ∧ ds.length ≤ sizeLine
  | .lst ds, v => ∃ a vs, v = .ref a ∧ S a = some (.lst vs) ∧ Reps K S as ds vs ∧ ds.length ≤ sizeLine
  | .ins C ns ds, v => ∃ a dx fs, v = .ref a ∧ S a = some (.ins (clsA K C) dx fs) ∧ fs.map (·.1) = ns ∧ Reps K S as ds (fs.map (·.2))
  | .dK ks ds, v => ∃ a kvs, v = .ref a ∧ S a = some (.dK kvs) ∧ kvs.map (·.1) = ks ∧ Reps K S as ds (kvs.map (·.2)) ∧ ks.Nodup ∧ ks.length ≤ sizeLine
  | .dT ks ds, v => ∃ a kvs, v = .ref a ∧ S a = some (.dT kvs) ∧ kvs.map (·.1) = ks ∧ Reps K S as ds (kvs.map (·.2)) ∧ ks.Nodup ∧ ks.length ≤ sizeLine
  | .cl C, v => v = .ref (clsA K C)
def Reps (K : PySem.W.Frag) (S : Hp) (as : List Addr) : List D → List V → Prop
  | [], vs => vs = []
  | d :: ds, vs => ∃ v r, vs = v :: r ∧ Rep K S as d v ∧ Reps K S as ds r
end
def Pre (as as' : List Addr) : Prop := ∀ (k : Nat) (a : Addr), as[k]? = some a → as'[k]? = some a
theorem Pre.refl (as : List Addr) : Pre as as := fun _ _ h => h
theorem Pre.trans {a b c : List Addr} (x : Pre a b) (y : Pre b c) : Pre a c := fun k a h => y k a (x k a h)
theorem Pre.app (as bs : List Addr) : Pre as (as ++ bs) := fun k a h => by
  have hk := (List.getElem?_eq_some_iff.mp h).1
  rw [List.getElem?_append_left hk]; exact h

section
variable {K : PySem.W.Frag} {S S' : Hp} {as as' : List Addr}
mutual
theorem Rep.mono (e : Same S S') (p : Pre as as') : ∀ (d : D) (v : V), Rep K S as d v → Rep K S' as' d v
  | .v x, v, h => h
  | .h k, v, h => by
    obtain ⟨a, h1, h2⟩ := h
    exact ⟨a, p _ _ h1, h2⟩
  | .tup ds, v, h => by
    obtain ⟨a, vs, h1, h2, h3, h4⟩ := h
    exact ⟨a, vs, h1, Evl.ex_t e h2, Reps.mono e p ds vs h3, h4⟩
  | .ro ds, v, h => by
    obtain ⟨a, vs, h1, h2, h3, h4⟩ := h
    exact ⟨a, vs, h1, Evl.ex_l e h2, Reps.mono e p ds vs h3, h4⟩
  | .lst ds, v, h => by
    obtain ⟨a, vs, h1, h2, h3, h4⟩ := h
    exact ⟨a, vs, h1, e _ _ h2, Reps.mono e p ds vs h3, h4⟩
  | .ins C ns ds, v, h => by
    obtain ⟨a, dx, fs, h1, h2, h3, h4⟩ := h
    exact ⟨a, dx, fs, h1, e _ _ h2, h3, Reps.mono e p ds _ h4⟩
  | .dK ks ds, v, h => by
    obtain ⟨a, kvs, h1, h2, h3, h4, h5⟩ := h
    exact ⟨a, kvs, h1, e _ _ h2, h3, Reps.mono e p ds _ h4, h5⟩
  | .dT ks ds, v, h => by
    obtain ⟨a, kvs, h1, h2, h3, h4, h5⟩ := h
    exact ⟨a, kvs, h1, e _ _ h2, h3, Reps.mono e p ds _ h4, h5⟩
  | .cl C, v, h => h
theorem Reps.mono (e : Same S S') (p : Pre as as') : ∀ (ds : List D) (vs : List V), Reps K S as ds vs → Reps K S' as' ds vs
  | [], vs, h => h
  | d :: ds, vs, h => by
    obtain ⟨v, r, h1, h2, h3⟩ := h
    exact ⟨v, r, h1, Rep.mono e p d v h2, Reps.mono e p ds r h3⟩
end
theorem Reps.nil : Reps K S as [] [] := rfl
theorem Reps.cons {d : D} {v : V} {ds : List D} {vs : List V} (h : Rep K S as d v) (t : Reps K S as ds vs) : Reps K S as (d :: ds) (v :: vs) := ⟨v, vs, rfl, h, t⟩
theorem Reps.length : ∀ {ds : List D} {vs : List V}, Reps K S as ds vs → ds.length = vs.length
  | [], vs, h => by have h : vs = [] := h; subst h; rfl
  | d :: ds, vs, h => by
    obtain ⟨v, r, h1, h2, h3⟩ := h
    subst h1
    simp [Reps.length h3]
theorem Reps.get : ∀ {ds : List D} {vs : List V} {i : Nat} {d : D}, Reps K S as ds vs → ds[i]? = some d → ∃ v, vs[i]? = some v ∧ Rep K S as d v
  | [], vs, i, d, h, e => by simp at e
  | d :: ds, vs, 0, d', h, e => by
    obtain ⟨v, r, h1, h2, h3⟩ := h
    subst h1
    simp at e; subst e
    exact ⟨v, rfl, h2⟩
  | d :: ds, vs, i + 1, d', h, e => by
    obtain ⟨v, r, h1, h2, h3⟩ := h
    subst h1
    simp at e
    obtain ⟨u, h4, h5⟩ := Reps.get h3 e
    exact ⟨u, by simpa using h4, h5⟩
theorem Reps.get' : ∀ {ds : List D} {vs : List V} {i : Nat} {v : V}, Reps K S as ds vs → vs[i]? = some v → ∃ d, ds[i]? = some d ∧ Rep K S as d v := fun {ds vs i v} h e => by
  have hl := h.length
  have hi := (List.getElem?_eq_some_iff.mp e).1
  have : i < ds.length := by omega
  obtain ⟨u, h1, h2⟩ := h.get (List.getElem?_eq_getElem this)
  rw [e] at h1; cases h1
  exact ⟨_, List.getElem?_eq_getElem this, h2⟩
theorem Reps.append : ∀ {ds es : List D} {vs us : List V}, Reps K S as ds vs → Reps K S as es us → Reps K S as (ds ++ es) (vs ++ us)
  | [], es, vs, us, h, q => by have h : vs = [] := h; subst h; exact q
  | d :: ds, es, vs, us, h, q => by
    obtain ⟨v, r, h1, h2, h3⟩ := h
    subst h1
    exact ⟨v, r ++ us, rfl, h2, Reps.append h3 q⟩
theorem Reps.drop : ∀ {ds : List D} {vs : List V} (n : Nat), Reps K S as ds vs → Reps K S as (ds.drop n) (vs.drop n)
  | ds, vs, 0, h => h
  | [], vs, n + 1, h => by have h : vs = [] := h; subst h; rfl
  | d :: ds, vs, n + 1, h => by
    obtain ⟨v, r, h1, h2, h3⟩ := h
    subst h1
    exact Reps.drop n h3
theorem Reps.take : ∀ {ds : List D} {vs : List V} (n : Nat), Reps K S as ds vs → Reps K S as (ds.take n) (vs.take n)
  | ds, vs, 0, h => rfl
  | [], vs, n + 1, h => by have h : vs = [] := h; subst h; rfl
  | d :: ds, vs, n + 1, h => by
    obtain ⟨v, r, h1, h2, h3⟩ := h
    subst h1
    exact ⟨v, r.take n, rfl, h2, Reps.take n h3⟩
theorem Reps.set : ∀ {ds : List D} {vs : List V} (n : Nat) {d : D} {v : V}, Reps K S as ds vs → Rep K S as d v → Reps K S as (ds.set n d) (vs.set n v)
  | [], vs, n, d, v, h, q => by have h : vs = [] := h; subst h; simp; rfl
  | d :: ds, vs, 0, d', v', h, q => by
    obtain ⟨v, r, h1, h2, h3⟩ := h
    subst h1
    exact ⟨v', r, rfl, q, h3⟩
  | d :: ds, vs, n + 1, d', v', h, q => by
    obtain ⟨v, r, h1, h2, h3⟩ := h
    subst h1
    exact ⟨v, r.set n v', rfl, h2, Reps.set n h3 q⟩
theorem Reps.rev : ∀ {ds : List D} {vs : List V}, Reps K S as ds vs → Reps K S as ds.reverse vs.reverse
  | [], vs, h => by have h : vs = [] := h; subst h; rfl
  | d :: ds, vs, h => by
    obtain ⟨v, r, h1, h2, h3⟩ := h
    subst h1
    rw [List.reverse_cons, List.reverse_cons]
    exact Reps.append (Reps.rev h3) ⟨v, [], rfl, h2, rfl⟩
theorem ObjR.mono {c : D} {ho : HO} {R R' : List D → List V → Prop} (h : ObjR K R c ho) (m : ∀ ds vs, R ds vs → R' ds vs) : ObjR K R' c ho := by
  cases c <;> cases ho <;> first | exact h.elim | exact ⟨m _ _ h.1, h.2⟩ | exact ⟨h.1, h.2.1, m _ _ h.2.2⟩ | exact ⟨h.1, m _ _ h.2.1, h.2.2⟩ | exact h
end

/-- the memory: cell k lies at the k-th address -/
structure St (K : PySem.W.Frag) (S : Hp) (as : List Addr) (M : Mem) (H : Hp) : Prop where
  ex : Same S H
  len : as.length = M.length
  nd : as.Nodup
  cell : ∀ (k : Nat) (c : D) (a : Addr), M[k]? = some c → as[k]? = some a → S a = none ∧ ∃ ho, H a = some ho ∧ ObjR K (Reps K S as) c ho
def EnvOk (K : PySem.W.Frag) (S : Hp) (as : List Addr) (σ : L2.St) (ρ : Env) : Prop :=
  σ.length = ρ.length ∧ ∀ (i : Nat) (d : D), ρ[i]? = some (some d) → ∃ v, σ[i]? = some (some v) ∧ Rep K S as d v
theorem EnvOk.mono {K : PySem.W.Frag} {S S' : Hp} {as as' : List Addr} {σ : L2.St} {ρ : Env} (e : Same S S') (p : Pre as as') (h : EnvOk K S as σ ρ) : EnvOk K S' as' σ ρ :=
  ⟨h.1, fun i d q => let ⟨v, a, b⟩ := h.2 i d q; ⟨v, a, Rep.mono e p d v b⟩⟩
theorem EnvOk.set {K : PySem.W.Frag} {S : Hp} {as : List Addr} {σ : L2.St} {ρ : Env} {i : Nat} {d : D} {v : V} (h : EnvOk K S as σ ρ) (r : Rep K S as d v) : EnvOk K S as (σ.set i (some v)) (ρ.set i (some d)) := by
  refine ⟨by simp [h.1], fun j e q => ?_⟩
  by_cases hj : j = i
  · subst hj
    have hl : j < ρ.length := by
      have := (List.getElem?_eq_some_iff.mp q).1
      simpa using this
    rw [List.getElem?_set_self hl] at q
    cases q
    exact ⟨v, List.getElem?_set_self (by rw [h.1]; exact hl), r⟩
  · rw [List.getElem?_set_ne (Ne.symm hj)] at q
    obtain ⟨u, h1, h2⟩ := h.2 j e q
    exact ⟨u, by rw [List.getElem?_set_ne (Ne.symm hj)]; exact h1, h2⟩

def ErOk (K : PySem.W.Frag) (S : Hp) (as : List Addr) (H : Hp) (x : Exn) (dd : Option Addr) : Prop := match x.fs with
  | none => dd = none
  | some (ns, ds) => ∃ a fl, dd = some a ∧ H a = some (.xd fl) ∧ fl.map (·.1) = ns ∧ Reps K S as ds (fl.map (·.2))

/-- what a step may do: S and as grow by new things alone, what stands outside the cells stays -/
structure Ext (S : Hp) (as : List Addr) (H : Hp) (S' : Hp) (as' : List Addr) (H' : Hp) : Prop where
  same : Same S S'
  pre : Pre as as'
  fr : ∀ a o, H a = some o → a ∉ as → H' a = some o ∧ a ∉ as' ∧ (S a = none → S' a = none)
theorem Ext.refl (S : Hp) (as : List Addr) (H : Hp) : Ext S as H S as H := ⟨Same.refl _, Pre.refl _, fun _ _ h n => ⟨h, n, fun z => z⟩⟩
theorem Ext.trans {S S1 S2 H H1 H2 : Hp} {as as1 as2 : List Addr} (x : Ext S as H S1 as1 H1) (y : Ext S1 as1 H1 S2 as2 H2) : Ext S as H S2 as2 H2 :=
  ⟨x.same.trans y.same, x.pre.trans y.pre, fun a o h n => by
    obtain ⟨h1, n1, s1⟩ := x.fr a o h n
    obtain ⟨h2, n2, s2⟩ := y.fr a o h1 n1
    exact ⟨h2, n2, fun z => s2 (s1 z)⟩⟩
/-- the outcome o fulfils what is wanted -/
def Fin {α β : Type} (R : Hp → List Addr → α → β → Prop) (K : PySem.W.Frag) (S : Hp) (as : List Addr) (H : Hp) (W : WX) (σ : L2.St) (ρ : Env) (o : Out α) (Q : β → Hp → Prop) : Prop := match o with
  | .ok a M' => ∀ S' as' b H', Ext S as H S' as' H' → St K S' as' M' H' → R S' as' a b → Q b H'
  | .er x M' => ∀ S' as' H' dd, Ext S as H S' as' H' → St K S' as' M' H' → EnvOk K S' as' σ ρ → ErOk K S' as' H' x dd → W x.cls dd σ H'
  | .stuck => False
def tG {α β : Type} (R : Hp → List Addr → α → β → Prop) (K : PySem.W.Frag) (W : WX) (f : Env → C α) : L2.St → Hp → (β → Hp → Prop) → Prop := fun σ H Q =>
  ∃ S as M ρ, St K S as M H ∧ EnvOk K S as σ ρ ∧ Fin R K S as H W σ ρ (f ρ M) Q
def Mono {α β : Type} (R : Hp → List Addr → α → β → Prop) : Prop := ∀ {S S' : Hp} {as as' : List Addr} {a : α} {b : β}, Same S S' → Pre as as' → R S as a b → R S' as' a b
section
variable {K : PySem.W.Frag} {W : WX} {α β α' β' : Type} {R : Hp → List Addr → α → β → Prop} {R' : Hp → List Addr → α' → β' → Prop}
theorem Fin.pre {S S0 : Hp} {as as0 : List Addr} {H H0 : Hp} {σ : L2.St} {ρ : Env} {o : Out α} {Q : β → Hp → Prop} (e : Ext S0 as0 H0 S as H) (h : Fin R K S0 as0 H0 W σ ρ o Q) : Fin R K S as H W σ ρ o Q := by
  cases o with
  | ok a M' => exact fun S' as' b H' e' => h S' as' b H' (e.trans e')
  | er x M' => exact fun S' as' H' dd e' => h S' as' H' dd (e.trans e')
  | stuck => exact h
theorem Fin.imp {S : Hp} {as : List Addr} {H : Hp} {σ : L2.St} {ρ : Env} {o : Out α} {Q Q' : β → Hp → Prop} (h : Fin R K S as H W σ ρ o Q) (i : ∀ b H, Q b H → Q' b H) : Fin R K S as H W σ ρ o Q' := by
  cases o with
  | ok a M' => exact fun S' as' b H' e' s r => i _ _ (h S' as' b H' e' s r)
  | er x M' => exact h
  | stuck => exact h
/-- two computations in a row -/
theorem Fin.bind {c : C α} {g : α → C α'} {S : Hp} {as : List Addr} {H : Hp} {M : Mem} {σ : L2.St} {ρ : Env} {Q : β' → Hp → Prop} {Q1 : β → Hp → Prop} (fin : Fin R' K S as H W σ ρ (c.bind g M) Q) (env : EnvOk K S as σ ρ)
    (k : ∀ S' as' M' a b H', Ext S as H S' as' H' → St K S' as' M' H' → EnvOk K S' as' σ ρ → R S' as' a b → Fin R' K S' as' H' W σ ρ (g a M') Q → Q1 b H') : Fin R K S as H W σ ρ (c M) Q1 := by
  unfold C.bind at fin
  cases e : c M with
  | ok a M' =>
    simp only [e] at fin
    intro S' as' b H' e' s' r
    exact k S' as' M' a b H' e' s' (env.mono e'.same e'.pre) r (fin.pre e')
  | er x M' =>
    simp only [e] at fin
    exact fin
  | stuck =>
    simp only [e] at fin
    exact fin.elim
end

/-! ### expressions -/
def RepR (K : PySem.W.Frag) : Hp → List Addr → D → V → Prop := Rep K
def RepsR (K : PySem.W.Frag) : Hp → List Addr → List D → List V → Prop := Reps K
def EqR {α : Type} : Hp → List Addr → α → α → Prop := fun _ _ a b => a = b
abbrev tD (K : PySem.W.Frag) (W : WX) (f : Env → C D) : TE := tG (RepR K) K W f
abbrev tDs (K : PySem.W.Frag) (W : WX) (f : Env → C (List D)) : TA := tG (RepsR K) K W f
abbrev tDb (K : PySem.W.Frag) (W : WX) (f : Env → C Bool) : TT := tG EqR K W f
abbrev PD (X : Cx) (W : WX) (e : Expr) (f : Env → C D) : Prop := PE X e (tD X.K W f)
abbrev PDs (X : Cx) (W : WX) (es : List Expr) (f : Env → C (List D)) : Prop := PA X es (tDs X.K W f)
abbrev PDb (X : Cx) (W : WX) (e : Expr) (f : Env → C Bool) : Prop := PT X e (tDb X.K W f)
abbrev PDw (X : Cx) (W : WX) (e : Expr) (f : Env → C Bool) : Prop := PW X e (tDb X.K W f)
theorem _root_.L2.PE.up {X : Cx} {e : Expr} {t t' : TE} (h : PE X e t) (i : ∀ σ H Q, t' σ H Q → t σ H Q) : PE X e t' := ⟨fun pins s σ H Q I q => h.run pins s σ H Q I (i σ H Q q)⟩
theorem _root_.L2.PT.up {X : Cx} {e : Expr} {t t' : TT} (h : PT X e t) (i : ∀ σ H Q, t' σ H Q → t σ H Q) : PT X e t' := ⟨fun pins s σ H Q I q => h.run pins s σ H Q I (i σ H Q q)⟩
theorem _root_.L2.PW.up {X : Cx} {e : Expr} {t t' : TT} (h : PW X e t) (i : ∀ σ H Q, t' σ H Q → t σ H Q) : PW X e t' := ⟨fun wh pins s σ H Q I q => h.run wh pins s σ H Q I (i σ H Q q)⟩
theorem _root_.L2.PA.up {X : Cx} {e : List Expr} {t t' : TA} (h : PA X e t) (i : ∀ σ H Q, t' σ H Q → t σ H Q) : PA X e t' := ⟨fun ps pins s σ H Q I q => h.run ps pins s σ H Q I (i σ H Q q)⟩
theorem _root_.L2.PS.up {X : Cx} {e : Stmt} {t t' : TS} (h : PS X e t) (i : ∀ D σ H, t' D σ H → t D σ H) : PS X e t' := ⟨fun pins s σ H D I q => h.run pins s σ H D I (i D σ H q)⟩
theorem _root_.L2.PSs.up {X : Cx} {e : List Stmt} {t t' : TS} (h : PSs X e t) (i : ∀ D σ H, t' D σ H → t D σ H) : PSs X e t' := ⟨fun pins s σ H D I q => h.run pins s σ H D I (i D σ H q)⟩
theorem _root_.L2.PE.or {X : Cx} {e : Expr} {t t' : TE} (h : PE X e t) (h' : PE X e t') : PE X e (fun σ H Q => t σ H Q ∨ t' σ H Q) := ⟨fun pins s σ H Q I q => q.elim (h.run pins s σ H Q I) (h'.run pins s σ H Q I)⟩

/-- an operation on values: the reading r is met by the denotation g -/
def Dr2 (K : PySem.W.Frag) (r : R2) (g : D → D → C D) : Prop := ∀ S as M H σ ρ W x y v u Q, St K S as M H → Rep K S as x v → Rep K S as y u → Fin (RepR K) K S as H W σ ρ (g x y M) Q → r v u H Q
def Dr1 (K : PySem.W.Frag) (r : V → Hp → VK → Prop) (g : D → C D) : Prop := ∀ S as M H σ ρ W x v Q, St K S as M H → Rep K S as x v → Fin (RepR K) K S as H W σ ρ (g x M) Q → r v H Q
def DrN (K : PySem.W.Frag) (r : List V → Hp → VK → Prop) (g : List D → C D) : Prop := ∀ S as M H σ ρ W xs vs Q, St K S as M H → Reps K S as xs vs → Fin (RepR K) K S as H W σ ρ (g xs M) Q → r vs H Q

def eVar (i : Nat) : Env → C D := fun ρ M => match ρ[i]? with
  | some (some d) => .ok d M
  | _ => .stuck
def eC (d : D) : Env → C D := fun _ M => .ok d M
def e2 (g : D → D → C D) (fa fb : Env → C D) : Env → C D := fun ρ => (fa ρ).bind fun x => (fb ρ).bind fun y => g x y
def e1 (g : D → C D) (fa : Env → C D) : Env → C D := fun ρ => (fa ρ).bind g
def eNil : Env → C (List D) := fun _ => C.ret []
def eCons (fa : Env → C D) (fr : Env → C (List D)) : Env → C (List D) := fun ρ => (fa ρ).bind fun x => (fr ρ).bind fun xs => C.ret (x :: xs)
def eN (g : List D → C D) (fs : Env → C (List D)) : Env → C D := fun ρ => (fs ρ).bind g

theorem fin_ok {K : PySem.W.Frag} {W : WX} {S : Hp} {as : List Addr} {M : Mem} {H : Hp} {σ : L2.St} {ρ : Env} {d : D} {v : V} {Q : VK} (st : St K S as M H) (r : Rep K S as d v) (fin : Fin (RepR K) K S as H W σ ρ (.ok d M) Q) : Q v H := fin S as v H (Ext.refl _ _ _) st r
theorem fin_okb {K : PySem.W.Frag} {W : WX} {S : Hp} {as : List Addr} {M : Mem} {H : Hp} {σ : L2.St} {ρ : Env} {b : Bool} {Q : Bool → Hp → Prop} (st : St K S as M H) (fin : Fin EqR K S as H W σ ρ (.ok b M) Q) : Q b H := fin S as b H (Ext.refl _ _ _) st rfl
section
variable {X : Cx} {W : WX} {pos : Pos} {a b e : Expr} {es : List Expr} {fa fb : Env → C D} {fs : Env → C (List D)}
theorem pd_var (i : Nat) {x : Str} (hN : X.N[i]? = some x := by rfl) (hv : Vis X.env.scope x := by first | exact Or.inl rfl | exact Or.inr (Or.inl rfl) | exact Or.inr (Or.inr rfl)) (hd : (x == ("__debug__" : Str)) = false := by decide)
    (hcd : (x == ("__classdict__" : Str)) = false := by decide) : PD X W (.Name x pos) (eVar i) := (pe_var hN hv hd hcd).up fun σ H Q h => by
  obtain ⟨S, as, M, ρ, st, env, fin⟩ := h
  unfold eVar at fin
  cases e : ρ[i]? with
  | none => simp only [e] at fin; exact fin.elim
  | some o =>
    cases o with
    | none => simp only [e] at fin; exact fin.elim
    | some d =>
      simp only [e] at fin
      obtain ⟨v, h1, h2⟩ := env.2 i d e
      exact ⟨v, h1, fin_ok st h2 fin⟩
theorem pd_c {v : V} (h : PE X e (tC v)) (ok : okV v = true) : PD X W e (eC (.v v)) := h.up fun σ H Q h => by
  obtain ⟨S, as, M, ρ, st, env, fin⟩ := h
  exact fin_ok (d := .v v) st ⟨rfl, ok⟩ fin
theorem pd_int {i : Int} {j} : PD X W (.Constant (.int i) j pos) (eC (.v (.int i))) := pd_c pe_int rfl
theorem pd_bl {b : Bool} {j} : PD X W (.Constant (.bool b) j pos) (eC (.v (.bl b))) := pd_c pe_bl rfl
theorem pd_non {j} : PD X W (.Constant .none j pos) (eC (.v .non)) := pd_c pe_non rfl
theorem pd_str {x : Str} {j} (h : okV (.str x) = true := by decide +kernel) : PD X W (.Constant (.str x) j pos) (eC (.v (.str x))) := pd_c pe_str h
theorem t2_of {r : R2} {g : D → D → C D} (hr : Dr2 X.K r g) {σ : L2.St} {H : Hp} {Q : VK} (h : tD X.K W (e2 g fa fb) σ H Q) : tOp r (tD X.K W fa) (tD X.K W fb) σ H Q := by
  obtain ⟨S, as, M, ρ, st, env, fin⟩ := h
  refine ⟨S, as, M, ρ, st, env, Fin.bind (g := fun x => (fb ρ).bind fun y => g x y) fin env fun S1 as1 M1 x v H1 e1 st1 env1 rx fin1 => ?_⟩
  refine ⟨S1, as1, M1, ρ, st1, env1, Fin.bind (g := fun y => g x y) fin1 env1 fun S2 as2 M2 y u H2 e2 st2 env2 ry fin2 => ?_⟩
  exact hr S2 as2 M2 H2 σ ρ W x y v u Q st2 (Rep.mono e2.same e2.pre x v rx) ry fin2
theorem pd_op {op : Operator} {r : R2} {g : D → D → C D} (ho : OpR X (binaryOp op) r) (hr : Dr2 X.K r g) (ha : PD X W a fa) (hb : PD X W b fb) : PD X W (.BinOp a op b pos) (e2 g fa fb) := (pe_op ho ha hb).up fun _ _ _ h => t2_of hr h
theorem pd_cmp {op : CmpOp} {r : R2} {g : D → D → C D} (ho : OpR X (compareOp op) r) (hr : Dr2 X.K r g) (ha : PD X W a fa) (hb : PD X W b fb) (hm : behindInMarks op b = false := by first | exact nomark _ | rfl) : PD X W (.Compare a [op] [b] pos) (e2 g fa fb) :=
  (pe_cmpR ho ha hb hm).up fun _ _ _ h => t2_of hr h
theorem pd_un {op : UnaryOp} {r : V → Hp → VK → Prop} {g : D → C D} (ho : UnR X (unaryOp op) r) (hr : Dr1 X.K r g) (ha : PD X W a fa) : PD X W (.UnaryOp op a pos) (e1 g fa) := (pe_un ho ha).up fun σ H Q h => by
  obtain ⟨S, as, M, ρ, st, env, fin⟩ := h
  exact ⟨S, as, M, ρ, st, env, Fin.bind (g := g) fin env fun S1 as1 M1 x v H1 e1 st1 env1 rx fin1 => hr S1 as1 M1 H1 σ ρ W x v Q st1 rx fin1⟩
theorem pd_ix {r : R2} {g : D → D → C D} (ho : IxR X r) (hr : Dr2 X.K r g) (ha : PD X W a fa) (hb : PD X W b fb) (hs : PlainIx b := by exact fun _ _ => rfl) : PD X W (.Subscript a b pos) (e2 g fa fb) := (pe_ix ho ha hb hs).up fun _ _ _ h => t2_of hr h
/-! arguments -/
theorem pds_nil : PDs X W [] eNil := pa_nil.up fun σ H Q h => by
  obtain ⟨S, as, M, ρ, st, env, fin⟩ := h
  exact fin S as [] H (Ext.refl _ _ _) st rfl
theorem pds_cons (ha : PD X W e fa) (hr : PDs X W es fs) (hs : starEach (e :: es) X.env = (false, eval e X.env) :: starEach es X.env := by rfl) : PDs X W (e :: es) (eCons fa fs) := (pa_cons ha hr hs).up fun σ H Q h => by
  obtain ⟨S, as, M, ρ, st, env, fin⟩ := h
  refine ⟨S, as, M, ρ, st, env, Fin.bind (g := fun x => (fs ρ).bind fun xs => C.ret (x :: xs)) fin env fun S1 as1 M1 x v H1 e1 st1 env1 rx fin1 => ?_⟩
  refine ⟨S1, as1, M1, ρ, st1, env1, Fin.bind (g := fun xs => C.ret (x :: xs)) fin1 env1 fun S2 as2 M2 xs vs H2 e2 st2 env2 rs fin2 => ?_⟩
  exact fin2 S2 as2 (v :: vs) H2 (Ext.refl _ _ _) st2 (Reps.cons (Rep.mono e2.same e2.pre x v rx) rs)
theorem pd_callB {x : Str} {id : String} {r : List V → Hp → VK → Prop} {g : List D → C D} {p : Pos} (hr : CallR X (.builtin id) r) (hd : DrN X.K r g) (hm : X.mg x = none) (hv : bootBuiltins x = some (.builtin id) := by decide +kernel)
    (ha : PDs X W (e :: es) fs) (hg : Gl X x := by rfl) (hn : x ≠ "__name__" := by decide) (hdb : (x == ("__debug__" : Str)) = false := by decide) (hs : starEach (e :: es) X.env = (false, eval e X.env) :: starEach es X.env := by rfl) (hpl : (backTo pos (starEach es X.env)).any (·.1) = false := by rfl) : PD X W (.Call (.Name x p) (e :: es) [] pos) (eN g fs) :=
  (pe_callB hr hg hm hv ha hn hdb hs hpl).up fun σ H Q h => by
    obtain ⟨S, as, M, ρ, st, env, fin⟩ := h
    exact ⟨S, as, M, ρ, st, env, Fin.bind (g := g) fin env fun S1 as1 M1 xs vs H1 e1 st1 env1 rx fin1 => hd S1 as1 M1 H1 σ ρ W xs vs Q st1 rx fin1⟩
end
end DL
set_option Elab.async false
set_option maxRecDepth 100000
set_option maxHeartbeats 2000000
namespace DL
open PySem PySem.Spec PyProof.Rows L2
theorem line_eq : sizeLine = 16777216 := sizeLine_eq
section
variable {K : PySem.W.Frag} {W : WX} {S : Hp} {as : List Addr} {M : Mem} {H : Hp} {σ : L2.St} {ρ : Env} {Q : VK} {p : Addr}
/-! ### the memory -/
theorem St.notin (st : St K S as M H) (n : H p = none) : p ∉ as := fun hm => by
  obtain ⟨k, hk⟩ := List.getElem?_of_mem hm
  have hl : k < M.length := by
    have := (List.getElem?_eq_some_iff.mp hk).1
    rw [st.len] at this; exact this
  obtain ⟨_, ho, e, _⟩ := st.cell k M[k] p (List.getElem?_eq_getElem hl) hk
  rw [n] at e; cases e
theorem St.sfree (st : St K S as M H) (n : H p = none) : S p = none := by
  cases h : S p with
  | none => rfl
  | some o => rw [st.ex p o h] at n; cases n
/-- a new value object -/
theorem St.frozen {ho : HO} (st : St K S as M H) (n : H p = none) : St K (upd S p ho) as M (upd H p ho) := by
  have sp := st.sfree n
  refine ⟨fun b o e => ?_, st.len, st.nd, fun k c a h1 h2 => ?_⟩
  · by_cases hb : b = p
    · subst hb; rw [upd_same] at e ⊢; exact e
    · rw [upd_ne hb] at e ⊢; exact st.ex b o e
  · obtain ⟨s0, o, e, r⟩ := st.cell k c a h1 h2
    have ha : a ≠ p := ne_of_none e n
    exact ⟨by rw [upd_ne ha]; exact s0, o, by rw [upd_ne ha]; exact e, r.mono fun ds vs h => Reps.mono (Evl.Ex.new sp) (Pre.refl _) ds vs h⟩
theorem Ext.frozen {ho : HO} (st : St K S as M H) (n : H p = none) : Ext S as H (upd S p ho) as (upd H p ho) :=
  ⟨Evl.Ex.new (st.sfree n), Pre.refl _, fun a o h na => by
    have ha : a ≠ p := ne_of_none h n
    exact ⟨by rw [upd_ne ha]; exact h, na, fun z => by rw [upd_ne ha]; exact z⟩⟩
/-- a new cell -/
theorem St.fresh {ho : HO} {c : D} (st : St K S as M H) (n : H p = none) (r : ObjR K (Reps K S as) c ho) : St K S (as ++ [p]) (M ++ [c]) (upd H p ho) := by
  have sp := st.sfree n
  have np := st.notin n
  refine ⟨fun b o e => ?_, by simp [st.len], ?_, fun k c' a h1 h2 => ?_⟩
  · rw [upd_ne (ne_of_none e sp)]; exact st.ex b o e
  · rw [List.nodup_append]
    refine ⟨st.nd, by simp, fun a ha b hb => ?_⟩
    have : b = p := by simpa using hb
    subst this
    rintro rfl
    exact np ha
  · by_cases hk : k < M.length
    · rw [List.getElem?_append_left hk] at h1
      rw [List.getElem?_append_left (by rw [st.len]; exact hk)] at h2
      obtain ⟨s0, o, e, r'⟩ := st.cell k c' a h1 h2
      have ha : a ≠ p := ne_of_none e n
      exact ⟨s0, o, by rw [upd_ne ha]; exact e, r'.mono fun ds vs h => Reps.mono (Same.refl _) (Pre.app _ _) ds vs h⟩
    · have hk' : k = M.length := by
        have := (List.getElem?_eq_some_iff.mp h1).1
        simp at this; omega
      subst hk'
      rw [List.getElem?_concat_length] at h1
      rw [← st.len, List.getElem?_concat_length] at h2
      cases h1; cases h2
      exact ⟨sp, ho, upd_same, r.mono fun ds vs h => Reps.mono (Same.refl _) (Pre.app _ _) ds vs h⟩
theorem Ext.fresh {ho : HO} (st : St K S as M H) (n : H p = none) : Ext S as H S (as ++ [p]) (upd H p ho) :=
  ⟨Same.refl _, Pre.app _ _, fun a o h na => by
    have ha : a ≠ p := ne_of_none h n
    exact ⟨by rw [upd_ne ha]; exact h, by simp [na, ha], fun z => z⟩⟩
theorem nodup_ixA {N : List Addr} (hN : N.Nodup) {i j : Nat} {x : Addr} (a : N[i]? = some x) (b : N[j]? = some x) : i = j := by
  obtain ⟨h1, e1⟩ := List.getElem?_eq_some_iff.mp a
  obtain ⟨h2, e2⟩ := List.getElem?_eq_some_iff.mp b
  exact (List.getElem_inj hN).mp (e1.trans e2.symm)
/-- a cell is written -/
theorem St.write {ho : HO} {k : Nat} {c c0 : D} {a : Addr} (st : St K S as M H) (hM : M[k]? = some c0) (ha : as[k]? = some a) (r : ObjR K (Reps K S as) c ho) : St K S as (M.set k c) (upd H a ho) := by
  have sa := (st.cell k c0 a hM ha).1
  refine ⟨fun b o e => ?_, by simp [st.len], st.nd, fun j c' b h1 h2 => ?_⟩
  · rw [upd_ne (ne_of_none e sa)]; exact st.ex b o e
  · by_cases hj : j = k
    · subst hj
      rw [ha] at h2; cases h2
      rw [List.getElem?_set_self (List.getElem?_eq_some_iff.mp hM).1] at h1
      cases h1
      exact ⟨sa, ho, upd_same, r⟩
    · rw [List.getElem?_set_ne (Ne.symm hj)] at h1
      obtain ⟨s0, o, e, r'⟩ := st.cell j c' b h1 h2
      have hb : b ≠ a := fun z => by
        subst z
        exact hj (nodup_ixA st.nd h2 ha)
      exact ⟨s0, o, by rw [upd_ne hb]; exact e, r'⟩
theorem Ext.write {ho : HO} {k : Nat} {a : Addr} (ha : as[k]? = some a) : Ext S as H S as (upd H a ho) :=
  ⟨Same.refl _, Pre.refl _, fun b o h nb => by
    have hb : b ≠ a := fun z => nb (z ▸ List.mem_of_getElem? ha)
    exact ⟨by rw [upd_ne hb]; exact h, nb, fun z => z⟩⟩
theorem fin_lst {ds : List D} {vs : List V} (st : St K S as M H) (fin : Fin (RepR K) K S as H W σ ρ (.ok (.lst ds) M) Q) (r : Reps K S as ds vs) (hl : ds.length ≤ sizeLine) (n : H p = none) : Q (.ref p) (upd H p (.lst vs)) :=
  fin (upd S p (.lst vs)) as (.ref p) _ (Ext.frozen st n) (st.frozen n) ⟨p, vs, rfl, upd_same, Reps.mono (Evl.Ex.new (st.sfree n)) (Pre.refl _) _ _ r, hl⟩
theorem fin_tup {ds : List D} {vs : List V} (st : St K S as M H) (fin : Fin (RepR K) K S as H W σ ρ (.ok (.tup ds) M) Q) (r : Reps K S as ds vs) (hl : ds.length ≤ sizeLine) (n : H p = none) : Q (.ref p) (upd H p (.tup vs)) :=
  fin (upd S p (.tup vs)) as (.ref p) _ (Ext.frozen st n) (st.frozen n) ⟨p, vs, rfl, SqT.of upd_same, Reps.mono (Evl.Ex.new (st.sfree n)) (Pre.refl _) _ _ r, hl⟩
theorem fin_cell {c : D} {ho : HO} (st : St K S as M H) (fin : Fin (RepR K) K S as H W σ ρ (.ok (.h M.length) (M ++ [c])) Q) (r : ObjR K (Reps K S as) c ho) (n : H p = none) : Q (.ref p) (upd H p ho) :=
  fin S (as ++ [p]) (.ref p) _ (Ext.fresh st n) (st.fresh n r) ⟨p, by rw [← st.len]; simp, rfl⟩

/-! ### what a datum holds -/
def seqOf (M : Mem) : D → Option (List D)
  | .tup ds => some ds
  | .lst ds => some ds
  | .ro ds => some ds
  | .h k => match M[k]? with
    | some (.lst ds) => some ds
    | _ => none
  | _ => none
def lstOf (M : Mem) : D → Option (List D)
  | .lst ds => some ds
  | .ro ds => some ds
  | .h k => match M[k]? with
    | some (.lst ds) => some ds
    | _ => none
  | _ => none
def mlOf (M : Mem) : D → Option (List D)
  | .lst ds => some ds
  | .h k => match M[k]? with
    | some (.lst ds) => some ds
    | _ => none
  | _ => none
theorem cell_lst {k : Nat} {a : Addr} {ds : List D} (st : St K S as M H) (hM : M[k]? = some (.lst ds)) (ha : as[k]? = some a) : ∃ vs, H a = some (.lst vs) ∧ Reps K S as ds vs ∧ ds.length ≤ sizeLine := by
  obtain ⟨_, ho, e, r⟩ := st.cell k _ a hM ha
  cases ho with
  | lst vs => exact ⟨vs, e, r.1, r.2⟩
  | _ => exact r.elim
theorem ml_of {d : D} {v : V} {ds : List D} (st : St K S as M H) (r : Rep K S as d v) (h : mlOf M d = some ds) : ∃ a vs, v = .ref a ∧ H a = some (.lst vs) ∧ Reps K S as ds vs ∧ ds.length ≤ sizeLine := by
  cases d with
  | lst es =>
    cases h
    obtain ⟨a, vs, h1, h2, h3, h4⟩ := r
    exact ⟨a, vs, h1, st.ex _ _ h2, h3, h4⟩
  | h k =>
    obtain ⟨a, h1, h2⟩ := r
    unfold mlOf at h
    cases e : M[k]? with
    | none => simp [e] at h
    | some c =>
      cases c with
      | lst es =>
        simp [e] at h; subst h
        obtain ⟨vs, h3, h4, h5⟩ := cell_lst st e h1
        exact ⟨a, vs, h2, h3, h4, h5⟩
      | _ => simp [e] at h
  | _ => cases h
theorem lst_of {d : D} {v : V} {ds : List D} (st : St K S as M H) (r : Rep K S as d v) (h : lstOf M d = some ds) : ∃ a vs, v = .ref a ∧ SqL K H a vs ∧ Reps K S as ds vs ∧ ds.length ≤ sizeLine := by
  cases d with
  | lst es =>
    obtain ⟨a, vs, h1, h2, h3, h4⟩ := ml_of st r (by exact h)
    exact ⟨a, vs, h1, SqL.of h2, h3, h4⟩
  | h k =>
    obtain ⟨a, vs, h1, h2, h3, h4⟩ := ml_of st r (by exact h)
    exact ⟨a, vs, h1, SqL.of h2, h3, h4⟩
  | ro es =>
    cases h
    obtain ⟨a, vs, h1, h2, h3, h4⟩ := r
    exact ⟨a, vs, h1, Evl.ex_l st.ex h2, h3, h4⟩
  | _ => cases h
theorem seq_of {d : D} {v : V} {ds : List D} (st : St K S as M H) (r : Rep K S as d v) (h : seqOf M d = some ds) : ∃ a vs, v = .ref a ∧ (SqL K H a vs ∨ SqT K H a vs) ∧ Reps K S as ds vs ∧ ds.length ≤ sizeLine := by
  cases d with
  | lst es =>
    obtain ⟨a, vs, h1, h2, h3, h4⟩ := lst_of st r (by exact h)
    exact ⟨a, vs, h1, .inl h2, h3, h4⟩
  | h k =>
    obtain ⟨a, vs, h1, h2, h3, h4⟩ := lst_of st r (by exact h)
    exact ⟨a, vs, h1, .inl h2, h3, h4⟩
  | ro es =>
    obtain ⟨a, vs, h1, h2, h3, h4⟩ := lst_of st r (by exact h)
    exact ⟨a, vs, h1, .inl h2, h3, h4⟩
  | tup es =>
    cases h
    obtain ⟨a, vs, h1, h2, h3, h4⟩ := r
    exact ⟨a, vs, h1, .inr (Evl.ex_t st.ex h2), h3, h4⟩
  | _ => cases h
theorem tup_of {v : V} {ds : List D} (st : St K S as M H) (r : Rep K S as (.tup ds) v) : ∃ a vs, v = .ref a ∧ SqT K H a vs ∧ Reps K S as ds vs ∧ ds.length ≤ sizeLine := by
  obtain ⟨a, vs, h1, h2, h3, h4⟩ := r
  exact ⟨a, vs, h1, Evl.ex_t st.ex h2, h3, h4⟩
theorem Reps.flat : ∀ {ds : List D} {vs : List V} {f : D → Option V}, Reps K S as ds vs → (∀ d x, f d = some x → d = .v x) → ∀ {xs : List V}, ds.mapM f = some xs → vs = xs
  | [], vs, f, h, hf, xs, e => by
    have h : vs = [] := h
    subst h
    simp at e; subst e; rfl
  | d :: ds, vs, f, h, hf, xs, e => by
    obtain ⟨v, r, h1, h2, h3⟩ := h
    subst h1
    rw [List.mapM_cons] at e
    cases e1 : f d with
    | none => simp [e1] at e
    | some x =>
      cases e2 : ds.mapM f with
      | none => simp [e1, e2] at e
      | some ys =>
        simp [e1, e2] at e
        subst e
        have := hf d x e1
        subst this
        rw [h2.1, Reps.flat h3 hf e2]
end

/-! ### operators -/
open Classical in
noncomputable def gI (P : Int → Int → Prop) (f : Int → Int → V) : D → D → C D := fun x y M => match x, y with
  | .v (.int i), .v (.int j) => if P i j then .ok (.v (f i j)) M else .stuck
  | _, _ => .stuck
theorem dr_gI {K : PySem.W.Frag} {P : Int → Int → Prop} {f : Int → Int → V} (hf : ∀ i j, okV (f i j) = true) : Dr2 K (rI P f) (gI P f) := by
  intro S as M H σ ρ W x y v u Q st rx ry fin
  unfold gI at fin
  split at fin
  · rename_i i j
    split at fin
    · rename_i hp
      exact ⟨i, j, rx.1, ry.1, hp, fin_ok (d := .v (f i j)) st ⟨rfl, hf i j⟩ fin⟩
    · exact fin.elim
  · exact fin.elim
theorem dr_gI0 {K : PySem.W.Frag} {f : Int → Int → V} (hf : ∀ i j, okV (f i j) = true) : Dr2 K (rI0 f) (gI (fun _ _ => True) f) := by
  intro S as M H σ ρ W x y v u Q st rx ry fin
  obtain ⟨i, j, h1, h2, _, h3⟩ := dr_gI hf S as M H σ ρ W x y v u Q st rx ry fin
  exact ⟨i, j, h1, h2, h3⟩
/-- + of ints, texts, tuples, lists (a new list: a value) -/
def addD (x y : D) (M : Mem) : Out D := match x with
  | .v (.int i) => match y with
    | .v (.int j) => .ok (.v (.int (i + j))) M
    | .v (.bl k) => .ok (.v (.int (i + b2i k))) M
    | _ => .stuck
  | .v (.str a) => match y with
    | .v (.str b) => if a.length + b.length ≤ 16777216 then .ok (.v (.str (a ++ b))) M else .stuck
    | _ => .stuck
  | .tup xs => match y with
    | .tup ys => if xs.length + ys.length ≤ 16777216 then .ok (.tup (xs ++ ys)) M else .stuck
    | _ => .stuck
  | x => match mlOf M x with
    | some xs => match mlOf M y with
      | some ys => if xs.length + ys.length ≤ 16777216 then .ok (.lst (xs ++ ys)) M else .stuck
      | none => .stuck
    | none => .stuck
def gAdd : D → D → C D := addD
theorem strOk_app {a b : Str} (h : PyData.strOk a = true) (h' : PyData.strOk b = true) : PyData.strOk (a ++ b) = true := by
  unfold PyData.strOk at *
  show (a.cps ++ b.cps).all _ = true
  rw [Array.all_append, h, h']; rfl
theorem len_app (a b : Str) : (a ++ b).length = a.length + b.length := by
  show (a.cps ++ b.cps).size = a.cps.size + b.cps.size
  exact Array.size_append
theorem okV_str {s : Str} (h : okV (.str s) = true) : PyData.strOk s = true ∧ s.length ≤ 16777216 := by
  unfold okV at h
  simpa using h
theorem okV_mk {s : Str} (h : PyData.strOk s = true) (h' : s.length ≤ 16777216) : okV (.str s) = true := by
  unfold okV
  simp [h, h']
abbrev rAddAll (K : PySem.W.Frag) : R2 := fun x y H Q => (rI0 (fun i j => .int (i + j))) x y H Q ∨ ((fun x y H Q => ∃ i k, x = .int i ∧ y = .bl k ∧ Q (.int (i + b2i k)) H) : R2) x y H Q ∨
  ((fun x y H Q => ∃ i j, x = .str i ∧ y = .str j ∧ i.length + j.length ≤ sizeLine ∧ Q (.str (i ++ j)) H) : R2) x y H Q ∨ rCatA K x y H Q ∨ rCat x y H Q
theorem op_addAll {X : Cx} : OpR X (binaryOp .Add) (rAddAll X.K) := op_add.or (op_add_ib.or (op_add_str.or (op_catA.or op_cat)))
theorem dr_cat {K : PySem.W.Frag} {S : Hp} {as : List Addr} {M : Mem} {H : Hp} {σ : L2.St} {ρ : Env} {W : WX} {x y : D} {v u : V} {Q : VK} {xs ys : List D} (st : St K S as M H) (rx : Rep K S as x v) (ry : Rep K S as y u)
    (hx : mlOf M x = some xs) (hy : mlOf M y = some ys) (hl : xs.length + ys.length ≤ 16777216) (fin : Fin (RepR K) K S as H W σ ρ (.ok (.lst (xs ++ ys)) M) Q) : rCat v u H Q := by
  obtain ⟨a, vs, h1, h2, h3, h4⟩ := ml_of st rx hx
  obtain ⟨b, us, k1, k2, k3, k4⟩ := ml_of st ry hy
  have l1 := h3.length
  have l2 := k3.length
  have lq := line_eq
  exact ⟨a, b, vs, us, h1, k1, h2, k2, by omega, fun p n => fin_lst st fin (h3.append k3) (by rw [List.length_append]; omega) n⟩
theorem dr_add {K : PySem.W.Frag} : Dr2 K (rAddAll K) gAdd := by
  intro S as M H σ ρ W x y v u Q st rx ry fin
  have lq := line_eq
  unfold gAdd addD at fin
  split at fin
  · rename_i i
    split at fin
    · rename_i j
      exact .inl ⟨i, j, rx.1, ry.1, fin_ok (d := .v (.int (i + j))) st ⟨rfl, rfl⟩ fin⟩
    · rename_i k
      exact .inr (.inl ⟨i, k, rx.1, ry.1, fin_ok (d := .v (.int (i + b2i k))) st ⟨rfl, rfl⟩ fin⟩)
    · exact fin.elim
  · rename_i a
    split at fin
    · rename_i b
      split at fin
      · rename_i hl
        refine .inr (.inr (.inl ⟨a, b, rx.1, ry.1, by omega, fin_ok (d := .v (.str (a ++ b))) st ⟨rfl, okV_mk (strOk_app (okV_str rx.2).1 (okV_str ry.2).1) (by rw [len_app]; exact hl)⟩ fin⟩))
      · exact fin.elim
    · exact fin.elim
  · rename_i xs
    split at fin
    · rename_i ys
      split at fin
      · rename_i hl
        obtain ⟨a, vs, h1, h2, h3, h4⟩ := tup_of st rx
        obtain ⟨b, us, k1, k2, k3, k4⟩ := tup_of st ry
        have l1 := h3.length
        have l2 := k3.length
        refine .inr (.inr (.inr (.inl ⟨a, b, vs, us, h1, k1, h2, k2, by omega, fun e => ?_, fun e1 e2 => ?_, fun e1 e2 p n => ?_⟩)))
        · subst e
          have : xs = [] := List.length_eq_zero_iff.mp (by simpa using l1)
          subst this
          rw [← k1]
          exact fin_ok (d := .tup ys) st ry fin
        · subst e2
          have : ys = [] := List.length_eq_zero_iff.mp (by simpa using l2)
          subst this
          rw [← h1]
          rw [List.append_nil] at fin
          exact fin_ok (d := .tup xs) st rx fin
        · exact fin_tup st fin (h3.append k3) (by rw [List.length_append]; omega) n
      · exact fin.elim
    · exact fin.elim
  · split at fin
    · rename_i xs hx
      split at fin
      · rename_i ys hy
        split at fin
        · rename_i hl
          exact .inr (.inr (.inr (.inr (dr_cat st rx ry hx hy hl fin))))
        · exact fin.elim
      · exact fin.elim
    · exact fin.elim
theorem pd_add {X : Cx} {W : WX} {pos : Pos} {a b : Expr} {fa fb : Env → C D} (ha : PD X W a fa) (hb : PD X W b fb) : PD X W (.BinOp a .Add b pos) (e2 gAdd fa fb) := pd_op op_addAll dr_add ha hb
noncomputable def gSub : D → D → C D := gI (fun _ _ => True) fun i j => .int (i - j)
theorem pd_sub {X : Cx} {W : WX} {pos : Pos} {a b : Expr} {fa fb : Env → C D} (ha : PD X W a fa) (hb : PD X W b fb) : PD X W (.BinOp a .Sub b pos) (e2 gSub fa fb) := pd_op op_sub (dr_gI0 fun _ _ => rfl) ha hb
def PMul (i j : Int) : Prop := CMul i j ∨ CMulW i j
noncomputable def gMul : D → D → C D := gI PMul fun i j => .int (i * j)
theorem op_mulAll {X : Cx} : OpR X (binaryOp .Mult) (rI PMul fun i j => .int (i * j)) := fun pins s σ H x y v u Q I r1 r2 ⟨i, j, h1, h2, h3, h4⟩ =>
  h3.elim (fun h => op_mul pins s σ H x y v u Q I r1 r2 ⟨i, j, h1, h2, h, h4⟩) fun h => op_mulW pins s σ H x y v u Q I r1 r2 ⟨i, j, h1, h2, h, h4⟩
theorem pd_mul {X : Cx} {W : WX} {pos : Pos} {a b : Expr} {fa fb : Env → C D} (ha : PD X W a fa) (hb : PD X W b fb) : PD X W (.BinOp a .Mult b pos) (e2 gMul fa fb) := pd_op op_mulAll (dr_gI fun _ _ => rfl) ha hb
def PDiv (i j : Int) : Prop := CDiv i j ∨ CDivW i j
noncomputable def gDiv : D → D → C D := gI PDiv fun i j => .int (i / j)
theorem op_divAll {X : Cx} : OpR X (binaryOp .FloorDiv) (rI PDiv fun i j => .int (i / j)) := fun pins s σ H x y v u Q I r1 r2 ⟨i, j, h1, h2, h3, h4⟩ =>
  h3.elim (fun h => op_fdiv pins s σ H x y v u Q I r1 r2 ⟨i, j, h1, h2, h, h4⟩) fun h => op_fdivW pins s σ H x y v u Q I r1 r2 ⟨i, j, h1, h2, h, h4⟩
theorem pd_div {X : Cx} {W : WX} {pos : Pos} {a b : Expr} {fa fb : Env → C D} (ha : PD X W a fa) (hb : PD X W b fb) : PD X W (.BinOp a .FloorDiv b pos) (e2 gDiv fa fb) := pd_op op_divAll (dr_gI fun _ _ => rfl) ha hb
noncomputable def gMod : D → D → C D := gI (fun _ j => 0 < j) fun i j => .int (i % j)
theorem pd_mod {X : Cx} {W : WX} {pos : Pos} {a b : Expr} {fa fb : Env → C D} (ha : PD X W a fa) (hb : PD X W b fb) : PD X W (.BinOp a .Mod b pos) (e2 gMod fa fb) := pd_op op_mod (dr_gI fun _ _ => rfl) ha hb
noncomputable def gPow : D → D → C D := gI CPow fun i j => .int (i ^ j.toNat)
theorem pd_pow {X : Cx} {W : WX} {pos : Pos} {a b : Expr} {fa fb : Env → C D} (ha : PD X W a fa) (hb : PD X W b fb) : PD X W (.BinOp a .Pow b pos) (e2 gPow fa fb) := pd_op op_pow (dr_gI fun _ _ => rfl) ha hb
def gNeg : D → C D := fun x M => match x with
  | .v (.int i) => .ok (.v (.int (-i))) M
  | _ => .stuck
theorem pd_neg {X : Cx} {W : WX} {pos : Pos} {a : Expr} {fa : Env → C D} (ha : PD X W a fa) : PD X W (.UnaryOp .USub a pos) (e1 gNeg fa) := pd_un un_neg (fun S as M H σ ρ W x v Q st rx fin => by
  unfold gNeg at fin
  split at fin
  · rename_i i
    exact ⟨i, rx.1, fin_ok (d := .v (.int (-i))) st ⟨rfl, rfl⟩ fin⟩
  · exact fin.elim) ha
/-! comparisons -/
def strLt (a b : Str) : Bool := decide (a.cps.toList < b.cps.toList)
def gLt : D → D → C D := fun x y M => match x, y with
  | .v (.int i), .v (.int j) => .ok (.v (.bl (decide (i < j)))) M
  | .v (.str i), .v (.str j) => .ok (.v (.bl (strLt i j))) M
  | _, _ => .stuck
def gLe : D → D → C D := fun x y M => match x, y with
  | .v (.int i), .v (.int j) => .ok (.v (.bl (decide (i ≤ j)))) M
  | .v (.str i), .v (.str j) => .ok (.v (.bl (!strLt j i))) M
  | _, _ => .stuck
def gGt : D → D → C D := fun x y M => match x, y with
  | .v (.int i), .v (.int j) => .ok (.v (.bl (decide (j < i)))) M
  | .v (.str i), .v (.str j) => .ok (.v (.bl (strLt j i))) M
  | _, _ => .stuck
def gGe : D → D → C D := fun x y M => match x, y with
  | .v (.int i), .v (.int j) => .ok (.v (.bl (decide (j ≤ i)))) M
  | .v (.str i), .v (.str j) => .ok (.v (.bl (!strLt i j))) M
  | _, _ => .stuck
theorem dr_cmp {K : PySem.W.Frag} {f : Int → Int → Bool} {g : Str → Str → Bool} {G : D → D → C D} (hG : ∀ x y M, G x y M = match x, y with
    | .v (.int i), .v (.int j) => Out.ok (.v (.bl (f i j))) M
    | .v (.str i), .v (.str j) => .ok (.v (.bl (g i j))) M
    | _, _ => .stuck) : Dr2 K (fun x y H Q => (rI0 fun i j => .bl (f i j)) x y H Q ∨ ((fun x y H Q => ∃ i j, x = .str i ∧ y = .str j ∧ Q (.bl (g i j)) H) : R2) x y H Q) G := by
  intro S as M H σ ρ W x y v u Q st rx ry fin
  rw [hG] at fin
  split at fin
  · rename_i i j
    exact .inl ⟨i, j, rx.1, ry.1, fin_ok (d := .v (.bl (f i j))) st ⟨rfl, rfl⟩ fin⟩
  · rename_i i j
    exact .inr ⟨i, j, rx.1, ry.1, fin_ok (d := .v (.bl (g i j))) st ⟨rfl, rfl⟩ fin⟩
  · exact fin.elim
section
variable {X : Cx} {W : WX} {pos : Pos} {a b : Expr} {fa fb : Env → C D}
theorem op_ltAll : OpR X (compareOp .Lt) (fun x y H Q => (rI0 fun i j => .bl (decide (i < j))) x y H Q ∨ ((fun x y H Q => ∃ i j, x = .str i ∧ y = .str j ∧ Q (.bl (strLt i j)) H) : R2) x y H Q) := op_lt.or op_lt_str
theorem op_leAll : OpR X (compareOp .LtE) (fun x y H Q => (rI0 fun i j => .bl (decide (i ≤ j))) x y H Q ∨ ((fun x y H Q => ∃ i j, x = .str i ∧ y = .str j ∧ Q (.bl (!strLt j i)) H) : R2) x y H Q) := op_le.or op_le_str
theorem op_gtAll : OpR X (compareOp .Gt) (fun x y H Q => (rI0 fun i j => .bl (decide (j < i))) x y H Q ∨ ((fun x y H Q => ∃ i j, x = .str i ∧ y = .str j ∧ Q (.bl (strLt j i)) H) : R2) x y H Q) := op_gt.or op_gt_str
theorem op_geAll : OpR X (compareOp .GtE) (fun x y H Q => (rI0 fun i j => .bl (decide (j ≤ i))) x y H Q ∨ ((fun x y H Q => ∃ i j, x = .str i ∧ y = .str j ∧ Q (.bl (!strLt i j)) H) : R2) x y H Q) := op_ge.or op_ge_str
theorem dr_lt {K : PySem.W.Frag} : Dr2 K (fun x y H Q => (rI0 fun i j => .bl (decide (i < j))) x y H Q ∨ ((fun x y H Q => ∃ i j, x = .str i ∧ y = .str j ∧ Q (.bl (strLt i j)) H) : R2) x y H Q) gLt := dr_cmp (f := fun i j => decide (i < j)) (g := strLt) fun _ _ _ => rfl
theorem dr_le {K : PySem.W.Frag} : Dr2 K (fun x y H Q => (rI0 fun i j => .bl (decide (i ≤ j))) x y H Q ∨ ((fun x y H Q => ∃ i j, x = .str i ∧ y = .str j ∧ Q (.bl (!strLt j i)) H) : R2) x y H Q) gLe := dr_cmp (f := fun i j => decide (i ≤ j)) (g := fun i j => !strLt j i) fun _ _ _ => rfl
theorem dr_gt {K : PySem.W.Frag} : Dr2 K (fun x y H Q => (rI0 fun i j => .bl (decide (j < i))) x y H Q ∨ ((fun x y H Q => ∃ i j, x = .str i ∧ y = .str j ∧ Q (.bl (strLt j i)) H) : R2) x y H Q) gGt := dr_cmp (f := fun i j => decide (j < i)) (g := fun i j => strLt j i) fun _ _ _ => rfl
theorem dr_ge {K : PySem.W.Frag} : Dr2 K (fun x y H Q => (rI0 fun i j => .bl (decide (j ≤ i))) x y H Q ∨ ((fun x y H Q => ∃ i j, x = .str i ∧ y = .str j ∧ Q (.bl (!strLt i j)) H) : R2) x y H Q) gGe := dr_cmp (f := fun i j => decide (j ≤ i)) (g := fun i j => !strLt i j) fun _ _ _ => rfl
theorem pd_lt (ha : PD X W a fa) (hb : PD X W b fb) : PD X W (.Compare a [.Lt] [b] pos) (e2 gLt fa fb) := pd_cmp op_ltAll dr_lt ha hb
theorem pd_le (ha : PD X W a fa) (hb : PD X W b fb) : PD X W (.Compare a [.LtE] [b] pos) (e2 gLe fa fb) := pd_cmp op_leAll dr_le ha hb
theorem pd_gt (ha : PD X W a fa) (hb : PD X W b fb) : PD X W (.Compare a [.Gt] [b] pos) (e2 gGt fa fb) := pd_cmp op_gtAll dr_gt ha hb
theorem pd_ge (ha : PD X W a fa) (hb : PD X W b fb) : PD X W (.Compare a [.GtE] [b] pos) (e2 gGe fa fb) := pd_cmp op_geAll dr_ge ha hb
end
end DL
set_option Elab.async false
set_option maxRecDepth 100000
set_option maxHeartbeats 2000000
namespace DL
open PySem PySem.Spec PyProof.Rows L2

/-! ### == of data -/
mutual
def plain : D → Bool
  | .v x => flatV x
  | .tup ds => plains ds
  | .lst ds => plains ds
  | .ro ds => plains ds
  | _ => false
def plains : List D → Bool
  | [] => true
  | d :: ds => plain d && plains ds
end
def pyV : V → PyData
  | .non => .none
  | .bl b => .bool b
  | .int i => .int i
  | .str s => .str s
  | _ => .none
mutual
def toPy : D → PyData
  | .v x => pyV x
  | .tup ds => .tuple (toPys ds)
  | .lst ds => .list (toPys ds)
  | .ro ds => .list (toPys ds)
  | _ => .none
def toPys : List D → List PyData
  | [] => []
  | d :: ds => toPy d :: toPys ds
end
mutual
def dep : D → Nat
  | .v _ => 0
  | .tup ds => deps ds + 1
  | .lst ds => deps ds + 1
  | .ro ds => deps ds + 1
  | _ => 0
def deps : List D → Nat
  | [] => 0
  | d :: ds => max (dep d) (deps ds)
end
def deq (x y : D) : Bool := PyData.eqv (toPy x) (toPy y)
def resM (M : Mem) : D → D
  | .h k => match M[k]? with
    | some c => c
    | none => .h k
  | d => d
theorem pyV_can {x : V} (h : okV x = true) : (pyV x).canLay0 = true := by
  cases x with
  | str s => unfold pyV PyData.canLay0; exact (okV_str h).1
  | _ => first | (unfold pyV; simp [PyData.canLay0])
theorem pyV_dep (x : V) : (pyV x).depth = 0 := by
  cases x <;> simp [pyV, PyData.depth]
section
variable {K : PySem.W.Frag} {W : WX} {S : Hp} {as : List Addr} {M : Mem} {H : Hp} {σ : L2.St} {ρ : Env} {Q : VK} {p : Addr}
mutual
theorem Rep.dp (e : Same S H) : ∀ (d : D) (v : V), Rep K S as d v → plain d = true → Dp K H v (toPy d) ∧ (toPy d).canLay0 = true ∧ (toPy d).depth = dep d
  | .v x, v, r, h => by
    obtain ⟨r1, r2⟩ := r
    subst r1
    refine ⟨?_, by unfold toPy; exact pyV_can r2, by unfold toPy dep; exact pyV_dep _⟩
    unfold plain at h
    cases v with
    | non => exact .non
    | bl b => exact .bl b
    | int i => exact .int i
    | str s => exact .str s
    | _ => cases h
  | .tup ds, v, r, h => by
    obtain ⟨a, vs, h1, h2, h3, h4⟩ := r
    subst h1
    obtain ⟨q1, q2, q3⟩ := Reps.dp e ds vs h3 (by unfold plain at h; exact h)
    unfold toPy
    exact ⟨.tup (Evl.ex_t e h2) q1, by simp [PyData.canLay0, q2], by simp [PyData.depth, q3, dep]⟩
  | .lst ds, v, r, h => by
    obtain ⟨a, vs, h1, h2, h3, h4⟩ := r
    subst h1
    obtain ⟨q1, q2, q3⟩ := Reps.dp e ds vs h3 (by unfold plain at h; exact h)
    unfold toPy
    exact ⟨.lst (SqL.of (e _ _ h2)) q1, by simp [PyData.canLay0, q2], by simp [PyData.depth, q3, dep]⟩
  | .ro ds, v, r, h => by
    obtain ⟨a, vs, h1, h2, h3, h4⟩ := r
    subst h1
    obtain ⟨q1, q2, q3⟩ := Reps.dp e ds vs h3 (by unfold plain at h; exact h)
    unfold toPy
    exact ⟨.lst (Evl.ex_l e h2) q1, by simp [PyData.canLay0, q2], by simp [PyData.depth, q3, dep]⟩
  | .h k, v, r, h => by simp [plain] at h
  | .ins _ _ _, v, r, h => by simp [plain] at h
  | .dK _ _, v, r, h => by simp [plain] at h
  | .dT _ _, v, r, h => by simp [plain] at h
  | .cl _, v, r, h => by simp [plain] at h
theorem Reps.dp (e : Same S H) : ∀ (ds : List D) (vs : List V), Reps K S as ds vs → plains ds = true → DpAll K H vs (toPys ds) ∧ PyData.canLayAll0 (toPys ds) = true ∧ PyData.depthAll (toPys ds) = deps ds
  | [], vs, r, h => by
    have r : vs = [] := r
    subst r
    unfold toPys
    exact ⟨.nil, by simp [PyData.canLayAll0], by simp [PyData.depthAll, deps]⟩
  | d :: ds, vs, r, h => by
    obtain ⟨v, r', h1, h2, h3⟩ := r
    subst h1
    unfold plains at h
    rw [Bool.and_eq_true] at h
    obtain ⟨a1, a2, a3⟩ := Rep.dp e d v h2 h.1
    obtain ⟨b1, b2, b3⟩ := Reps.dp e ds r' h3 h.2
    unfold toPys
    exact ⟨.cons a1 b1, by simp [PyData.canLayAll0, a2, b2], by simp [PyData.depthAll, a3, b3, deps]⟩
end
theorem res_dp {d : D} {v : V} (st : St K S as M H) (r : Rep K S as d v) (h : plain (resM M d) = true) : Dp K H v (toPy (resM M d)) ∧ (toPy (resM M d)).canLay0 = true ∧ (toPy (resM M d)).depth = dep (resM M d) := by
  cases d with
  | h k =>
    obtain ⟨a, h1, h2⟩ := r
    subst h2
    unfold resM at h ⊢
    cases e : M[k]? with
    | none => simp [e, plain] at h
    | some c =>
      simp only [e] at h ⊢
      obtain ⟨_, ho, eh, ro⟩ := st.cell k c a e h1
      cases c with
      | lst ds =>
        cases ho with
        | lst vs =>
          obtain ⟨q1, q2, q3⟩ := Reps.dp st.ex ds vs ro.1 (by unfold plain at h; exact h)
          unfold toPy
          exact ⟨.lst (SqL.of eh) q1, by simp [PyData.canLay0, q2], by simp [PyData.depth, q3, dep]⟩
        | _ => exact ro.elim
      | tup ds =>
        cases ho with
        | tup vs =>
          obtain ⟨q1, q2, q3⟩ := Reps.dp st.ex ds vs ro.1 (by unfold plain at h; exact h)
          unfold toPy
          exact ⟨.tup (SqT.of eh) q1, by simp [PyData.canLay0, q2], by simp [PyData.depth, q3, dep]⟩
        | _ => exact ro.elim
      | v x => exact ro.elim
      | h j => exact ro.elim
      | ro ds => exact ro.elim
      | _ => simp [plain] at h
  | _ => exact Rep.dp st.ex _ v r h
theorem shaped_of {d : PyData} (h1 : d.canLay0 = true) (h2 : d.depth ≤ 64) : SeqAt.shaped d = true := by
  unfold SeqAt.shaped; simp [h1, h2]
def okEq (d : D) : Bool := plain d && decide (dep d ≤ 64)
theorem okEq_of {d : D} {v : V} (st : St K S as M H) (r : Rep K S as d v) (h : okEq (resM M d) = true) : Dp K H v (toPy (resM M d)) ∧ SeqAt.shaped (toPy (resM M d)) = true := by
  unfold okEq at h
  rw [Bool.and_eq_true, decide_eq_true_iff] at h
  obtain ⟨a, b, c⟩ := res_dp st r h.1
  exact ⟨a, shaped_of b (by rw [c]; exact h.2)⟩
def gEq : D → D → C D := fun x y M => if (okEq (resM M x) && okEq (resM M y)) = true then .ok (.v (.bl (deq (resM M x) (resM M y)))) M else .stuck
def gNe : D → D → C D := fun x y M => if (okEq (resM M x) && okEq (resM M y)) = true then .ok (.v (.bl (!deq (resM M x) (resM M y)))) M else .stuck
theorem dr_eq : Dr2 K (rEqD K) gEq := by
  intro S as M H σ ρ W x y v u Q st rx ry fin
  unfold gEq at fin
  split at fin
  · rename_i h
    rw [Bool.and_eq_true] at h
    obtain ⟨a1, a2⟩ := okEq_of st rx h.1
    obtain ⟨b1, b2⟩ := okEq_of st ry h.2
    exact ⟨_, _, a1, b1, a2, b2, fin_ok (d := .v (.bl _)) st ⟨rfl, rfl⟩ fin⟩
  · exact fin.elim
theorem dr_ne : Dr2 K (rNeD K) gNe := by
  intro S as M H σ ρ W x y v u Q st rx ry fin
  unfold gNe at fin
  split at fin
  · rename_i h
    rw [Bool.and_eq_true] at h
    obtain ⟨a1, a2⟩ := okEq_of st rx h.1
    obtain ⟨b1, b2⟩ := okEq_of st ry h.2
    exact ⟨_, _, a1, b1, a2, b2, fin_ok (d := .v (.bl _)) st ⟨rfl, rfl⟩ fin⟩
  · exact fin.elim
end
section
variable {X : Cx} {W : WX} {pos : Pos} {a b : Expr} {fa fb : Env → C D}
theorem pd_eq (hu : X.A.units + 65 < cLine) (ha : PD X W a fa) (hb : PD X W b fb) : PD X W (.Compare a [.Eq] [b] pos) (e2 gEq fa fb) := pd_cmp (op_eqD (by omega)) dr_eq ha hb
theorem pd_ne (hu : X.A.units + 65 < cLine) (ha : PD X W a fa) (hb : PD X W b fb) : PD X W (.Compare a [.NotEq] [b] pos) (e2 gNe fa fb) := pd_cmp (op_neD (by omega)) dr_ne ha hb
/-- is None -/
def isNon : D → Bool
  | .v .non => true
  | _ => false
def gIsN : D → C D := fun x M => .ok (.v (.bl (isNon x))) M
def gNotN : D → C D := fun x M => .ok (.v (.bl (!isNon x))) M
theorem rep_non {K : PySem.W.Frag} {S : Hp} {as : List Addr} : ∀ {d : D} {v : V}, Rep K S as d v → decide (v = .non) = isNon d := fun {d v} r => by
  cases d with
  | v x =>
    obtain ⟨r1, _⟩ := r
    subst r1
    cases v <;> rfl
  | h k => obtain ⟨_, _, r1⟩ := r; subst r1; rfl
  | tup _ => obtain ⟨_, _, r1, _⟩ := r; subst r1; rfl
  | lst _ => obtain ⟨_, _, r1, _⟩ := r; subst r1; rfl
  | ro _ => obtain ⟨_, _, r1, _⟩ := r; subst r1; rfl
  | ins _ _ _ => obtain ⟨_, _, _, r1, _⟩ := r; subst r1; rfl
  | dK _ _ => obtain ⟨_, _, r1, _⟩ := r; subst r1; rfl
  | dT _ _ => obtain ⟨_, _, r1, _⟩ := r; subst r1; rfl
  | cl _ =>
    have r1 : v = V.ref _ := r
    subst r1; rfl
theorem pd_isN {j pos'} (ha : PD X W a fa) : PD X W (.Compare a [.Is] [.Constant .none j pos'] pos) (e1 gIsN fa) := (pe_cmp (pc_isN ha) (by first | rfl | exact nobehind _ (by decide) (by decide))).up fun σ H Q h => by
  obtain ⟨S, as, M, ρ, st, env, fin⟩ := h
  refine ⟨S, as, M, ρ, st, env, Fin.bind (g := gIsN) fin env fun S1 as1 M1 x v H1 e1 st1 env1 rx fin1 => ?_⟩
  rw [rep_non rx]
  exact fin_ok (d := .v (.bl _)) st1 ⟨rfl, rfl⟩ fin1
theorem pd_notN {j pos'} (ha : PD X W a fa) : PD X W (.Compare a [.IsNot] [.Constant .none j pos'] pos) (e1 gNotN fa) := (pe_cmp (pc_notN ha) (by first | rfl | exact nobehind _ (by decide) (by decide))).up fun σ H Q h => by
  obtain ⟨S, as, M, ρ, st, env, fin⟩ := h
  refine ⟨S, as, M, ρ, st, env, Fin.bind (g := gNotN) fin env fun S1 as1 M1 x v H1 e1 st1 env1 rx fin1 => ?_⟩
  rw [rep_non rx]
  exact fin_ok (d := .v (.bl _)) st1 ⟨rfl, rfl⟩ fin1
end

/-! ### in, not in: texts, lists, tuples (dicts: below) -/
def inStr (a b : Str) : Bool := !(Builtin.Str.occurrences b a 0 b.length 1).isEmpty
def flatD : D → Bool
  | .v x => flatV x
  | _ => false
def anyEq (x : D) (ds : List D) : Bool := ds.any fun z => deq z x
/-- the answer of in, if it is known -/
def inD (M : Mem) (x y : D) : Option Bool := match y with
  | .v (.str b) => match x with
    | .v (.str a) => some (inStr a b)
    | _ => none
  | .tup ds => if (flatD x && ds.all flatD) = true then some (anyEq x ds) else none
  | y => match lstOf M y with
    | some ds => if (okEq (resM M x) && okEq (.lst ds)) = true then some (anyEq (resM M x) ds) else none
    | none => none
def gIn : D → D → C D := fun x y M => match inD M x y with
  | some b => .ok (.v (.bl b)) M
  | none => .stuck
def gNotIn : D → D → C D := fun x y M => match inD M x y with
  | some b => .ok (.v (.bl (!b))) M
  | none => .stuck
theorem eqV_flat {x y : V} (hx : flatV x = true) (hy : flatV y = true) : eqV y x = PyData.eqv (pyV y) (pyV x) := by
  cases x <;> cases hx <;> cases y <;> cases hy <;> simp [eqV, pyV, PyData.eqv]
section
variable {K : PySem.W.Frag} {W : WX} {S : Hp} {as : List Addr} {M : Mem} {H : Hp} {σ : L2.St} {ρ : Env} {Q : VK} {p : Addr}
theorem flat_in {x : V} (hx : flatV x = true) : ∀ {ds : List D} {vs : List V}, Reps K S as ds vs → ds.all flatD = true → vs.all flatV = true ∧ inV x vs = anyEq (.v x) ds
  | [], vs, r, h => by
    have r : vs = [] := r
    subst r
    exact ⟨rfl, rfl⟩
  | d :: ds, vs, r, h => by
    obtain ⟨v, r', h1, h2, h3⟩ := r
    subst h1
    rw [List.all_cons, Bool.and_eq_true] at h
    obtain ⟨q1, q2⟩ := flat_in hx h3 h.2
    cases d with
    | v z =>
      obtain ⟨h4, _⟩ := h2
      subst h4
      have hz : flatV v = true := h.1
      refine ⟨by rw [List.all_cons, hz, q1]; rfl, ?_⟩
      unfold inV anyEq at *
      rw [List.any_cons, List.any_cons, q2, eqV_flat hx hz]
      unfold deq toPy
      rfl
    | _ => exact absurd h.1 (by simp [flatD])
theorem dp_any : ∀ {ds : List D} {x : D}, (toPys ds).any (fun z => PyData.eqv z (toPy x)) = anyEq x ds
  | [], x => by unfold toPys anyEq; rfl
  | d :: ds, x => by
    have ih := dp_any (ds := ds) (x := x)
    show ((toPy d :: toPys ds).any fun z => PyData.eqv z (toPy x)) = anyEq x (d :: ds)
    rw [List.any_cons, ih]; rfl
theorem okEq_lst {y : D} {u : V} {ds : List D} (st : St K S as M H) (ry : Rep K S as y u) (hy : lstOf M y = some ds) (h : okEq (.lst ds) = true) : Dp K H u (.list (toPys ds)) ∧ SeqAt.shaped (.list (toPys ds)) = true := by
  obtain ⟨a, vs, h1, h2, h3, h4⟩ := lst_of st ry hy
  unfold okEq at h
  rw [Bool.and_eq_true, decide_eq_true_iff] at h
  unfold plain dep at h
  obtain ⟨q1, q2, q3⟩ := Reps.dp st.ex ds vs h3 h.1
  subst h1
  exact ⟨.lst h2 q1, shaped_of (by simp [PyData.canLay0, q2]) (by simp [PyData.depth, q3]; omega)⟩
abbrev rInAll (K : PySem.W.Frag) : R2 := fun x y H Q => ((fun x y H Q => ∃ i j, x = .str i ∧ y = .str j ∧ Q (.bl (!(Builtin.Str.occurrences j i 0 j.length 1).isEmpty)) H) : R2) x y H Q ∨ rIn K false x y H Q ∨ rInD K x y H Q
abbrev rNotInAll (K : PySem.W.Frag) : R2 := fun x y H Q => ((fun x y H Q => ∃ i j, x = .str i ∧ y = .str j ∧ Q (.bl (!(!(Builtin.Str.occurrences j i 0 j.length 1).isEmpty))) H) : R2) x y H Q ∨ rIn K true x y H Q ∨ rNotInD K x y H Q
theorem dr_in : Dr2 K (rInAll K) gIn := by
  intro S as M H σ ρ W x y v u Q st rx ry fin
  unfold gIn inD at fin
  split at fin
  · rename_i b he
    split at he
    · rename_i j
      split at he
      · rename_i i
        cases he
        exact .inl ⟨i, j, rx.1, ry.1, fin_ok (d := .v (.bl _)) st ⟨rfl, rfl⟩ fin⟩
      · cases he
    · rename_i ds
      split at he
      · rename_i h
        cases he
        rw [Bool.and_eq_true] at h
        obtain ⟨a, vs, h1, h2, h3, h4⟩ := tup_of st ry
        cases x with
        | v z =>
          obtain ⟨r1, r2⟩ := rx
          subst r1
          have hz : flatV v = true := h.1
          obtain ⟨q1, q2⟩ := flat_in hz h3 h.2
          refine .inr (.inl ⟨a, vs, h1, .inr h2, hz, q1, ?_⟩)
          rw [if_neg Bool.false_ne_true, q2]
          exact fin_ok (d := .v (.bl _)) st ⟨rfl, rfl⟩ fin
        | _ => exact absurd h.1 (by simp [flatD])
      · cases he
    · split at he
      · rename_i ds hl
        split at he
        · rename_i h
          cases he
          rw [Bool.and_eq_true] at h
          obtain ⟨a1, a2⟩ := okEq_of st rx h.1
          obtain ⟨b1, b2⟩ := okEq_lst st ry hl h.2
          refine .inr (.inr ⟨_, _, a1, b1, a2, b2, ?_⟩)
          rw [dp_any]
          exact fin_ok (d := .v (.bl _)) st ⟨rfl, rfl⟩ fin
        · cases he
      · cases he
  · exact fin.elim
theorem dr_notIn : Dr2 K (rNotInAll K) gNotIn := by
  intro S as M H σ ρ W x y v u Q st rx ry fin
  unfold gNotIn inD at fin
  split at fin
  · rename_i b he
    split at he
    · rename_i j
      split at he
      · rename_i i
        cases he
        exact .inl ⟨i, j, rx.1, ry.1, fin_ok (d := .v (.bl _)) st ⟨rfl, rfl⟩ fin⟩
      · cases he
    · rename_i ds
      split at he
      · rename_i h
        cases he
        rw [Bool.and_eq_true] at h
        obtain ⟨a, vs, h1, h2, h3, h4⟩ := tup_of st ry
        cases x with
        | v z =>
          obtain ⟨r1, r2⟩ := rx
          subst r1
          have hz : flatV v = true := h.1
          obtain ⟨q1, q2⟩ := flat_in hz h3 h.2
          refine .inr (.inl ⟨a, vs, h1, .inr h2, hz, q1, ?_⟩)
          rw [if_pos rfl, q2]
          exact fin_ok (d := .v (.bl _)) st ⟨rfl, rfl⟩ fin
        | _ => exact absurd h.1 (by simp [flatD])
      · cases he
    · split at he
      · rename_i ds hl
        split at he
        · rename_i h
          cases he
          rw [Bool.and_eq_true] at h
          obtain ⟨a1, a2⟩ := okEq_of st rx h.1
          obtain ⟨b1, b2⟩ := okEq_lst st ry hl h.2
          refine .inr (.inr ⟨_, _, a1, b1, a2, b2, ?_⟩)
          rw [dp_any]
          exact fin_ok (d := .v (.bl _)) st ⟨rfl, rfl⟩ fin
        · cases he
      · cases he
  · exact fin.elim
end
section
variable {X : Cx} {W : WX} {pos : Pos} {a b : Expr} {fa fb : Env → C D}
theorem op_inAll (hu : X.A.units + 65 < cLine) : OpR X (compareOp .In) (rInAll X.K) := op_in_str.or (op_in_seq.or (op_inD hu))
theorem op_notInAll (hu : X.A.units + 65 < cLine) : OpR X (compareOp .NotIn) (rNotInAll X.K) := op_notin_str.or (op_notIn_seq.or (op_notInD hu))
theorem pd_in (hu : X.A.units + 65 < cLine) (ha : PD X W a fa) (hb : PD X W b fb) (hm : behindInMarks .In b = false := by rfl) : PD X W (.Compare a [.In] [b] pos) (e2 gIn fa fb) := pd_cmp (op_inAll hu) dr_in ha hb hm
theorem pd_notIn (hu : X.A.units + 65 < cLine) (ha : PD X W a fa) (hb : PD X W b fb) (hm : behindInMarks .NotIn b = false := by rfl) : PD X W (.Compare a [.NotIn] [b] pos) (e2 gNotIn fa fb) := pd_cmp (op_notInAll hu) dr_notIn ha hb hm
end
end DL
set_option Elab.async false
set_option maxRecDepth 100000
set_option maxHeartbeats 2000000
namespace DL
open PySem PySem.Spec PyProof.Rows L2

/-! ### subscripts -/
def gIx : D → D → C D := fun x y M => match y with
  | .v (.int i) => match x with
    | .v (.str z) => match atI z.cps.toList i with
      | some c => .ok (.v (.str ⟨#[c]⟩)) M
      | none => .stuck
    | x => match seqOf M x with
      | some ds => match atI ds i with
        | some d => .ok d M
        | none => .stuck
      | none => .stuck
  | _ => .stuck
section
variable {K : PySem.W.Frag} {W : WX} {S : Hp} {as : List Addr} {M : Mem} {H : Hp} {σ : L2.St} {ρ : Env} {Q : VK} {p : Addr}
theorem Reps.at {ds : List D} {vs : List V} {i : Int} {d : D} (r : Reps K S as ds vs) (h : atI ds i = some d) : ∃ v, atI vs i = some v ∧ Rep K S as d v := by
  unfold atI at *
  rw [← r.length]
  cases e : ixN ds.length i with
  | none => rw [e] at h; cases h
  | some j =>
    rw [e] at h
    exact r.get h
theorem strOk_at {z : Str} {i : Int} {c : Nat} (h : PyData.strOk z = true) (e : atI z.cps.toList i = some c) : okV (.str ⟨#[c]⟩) = true := by
  obtain ⟨j, _, h2, _⟩ := atI_get e
  unfold PyData.strOk at h
  rw [Array.all_eq_true_iff_forall_mem] at h
  have := h c (by simpa using List.mem_of_getElem? h2)
  exact okV_mk (by unfold PyData.strOk; simpa using this) (by show (#[c] : Array Nat).size ≤ 16777216; simp)
theorem dr_ix : Dr2 K (rIx K) gIx := by
  intro S as M H σ ρ W x y v u Q st rx ry fin
  have lq := line_eq
  unfold gIx at fin
  split at fin
  · rename_i i
    split at fin
    · rename_i z
      split at fin
      · rename_i c hc
        have hz := okV_str rx.2
        exact .inr (.inr ⟨z, i, c, rx.1, ry.1, by omega, hc, fin_ok (d := .v (.str ⟨#[c]⟩)) st ⟨rfl, strOk_at hz.1 hc⟩ fin⟩)
      · exact fin.elim
    · split at fin
      · rename_i ds hd
        split at fin
        · rename_i d hi
          obtain ⟨a, vs, h1, h2, h3, h4⟩ := seq_of st rx hd
          obtain ⟨w', k1, k2⟩ := h3.at hi
          rcases h2 with h2 | h2
          · exact .inl ⟨a, vs, i, w', h1, ry.1, h2, k1, fin_ok st k2 fin⟩
          · exact .inr (.inl ⟨a, vs, i, w', h1, ry.1, h2, k1, fin_ok st k2 fin⟩)
        · exact fin.elim
      · exact fin.elim
  · exact fin.elim
end
/-! ### slices -/
def cutG {α : Type} (xs : List α) (lo hi : Option Int) : List α := (xs.drop (HT.sIx xs.length 0 lo)).take (HT.sIx xs.length xs.length hi - HT.sIx xs.length 0 lo)
abbrev tDo (K : PySem.W.Frag) (W : WX) (f : Env → C (Option Int)) : TO := tG EqR K W f
abbrev PDo (X : Cx) (W : WX) (e : Option Expr) (f : Env → C (Option Int)) : Prop := PO X e (tDo X.K W f)
def oNo : Env → C (Option Int) := fun _ => C.ret none
def oYes (fa : Env → C D) : Env → C (Option Int) := fun ρ => (fa ρ).bind fun x M => match x with
  | .v (.int i) => .ok (some i) M
  | _ => .stuck
theorem _root_.L2.PO.up {X : Cx} {e : Option Expr} {t t' : TO} (h : PO X e t) (i : ∀ σ H Q, t' σ H Q → t σ H Q) : PO X e t' := ⟨fun pins s σ H Q I q => h.run pins s σ H Q I (i σ H Q q)⟩
section
variable {X : Cx} {W : WX} {pos : Pos} {a b e : Expr} {fa fb : Env → C D}
theorem pdo_no : PDo X W none oNo := po_none.up fun σ H Q h => by
  obtain ⟨S, as, M, ρ, st, env, fin⟩ := h
  exact fin S as none H (Ext.refl _ _ _) st rfl
theorem pdo_some (ha : PD X W e fa) : PDo X W (some e) (oYes fa) := (po_some ha).up fun σ H Q h => by
  obtain ⟨S, as, M, ρ, st, env, fin⟩ := h
  refine ⟨S, as, M, ρ, st, env, Fin.bind (R' := EqR) (g := fun x M => match x with
    | .v (.int i) => Out.ok (some i) M
    | _ => .stuck) fin env fun S1 as1 M1 x v H1 e1 st1 env1 rx fin1 => ?_⟩
  split at fin1
  · rename_i i
    exact ⟨i, rx.1, fin1 S1 as1 (some i) H1 (Ext.refl _ _ _) st1 rfl⟩
  · exact fin1.elim
/-- a slice: of a list a new value; of a tuple not the whole; of a text -/
def gSl (x : D) (lo hi : Option Int) : C D := fun M => match x with
  | .v (.str z) => .ok (.v (.str (cutS z lo hi))) M
  | .tup ds => if HT.sIx ds.length 0 lo = 0 ∧ HT.sIx ds.length ds.length hi = ds.length then .stuck else .ok (.tup (cutG ds lo hi)) M
  | x => match lstOf M x with
    | some ds => .ok (.lst (cutG ds lo hi)) M
    | none => .stuck
theorem cutG_len {α : Type} (xs : List α) (lo hi : Option Int) : (cutG xs lo hi).length ≤ xs.length := by
  unfold cutG
  rw [List.length_take, List.length_drop]
  omega
theorem Reps.cut {K : PySem.W.Frag} {S : Hp} {as : List Addr} {ds : List D} {vs : List V} (r : Reps K S as ds vs) (lo hi : Option Int) : Reps K S as (cutG ds lo hi) (cutV vs lo hi) := by
  unfold cutG cutV
  rw [← r.length]
  exact (r.drop _).take _
theorem okV_cut {z : Str} (h : okV (.str z) = true) (lo hi : Option Int) : okV (.str (cutS z lo hi)) = true := by
  obtain ⟨h1, h2⟩ := okV_str h
  refine okV_mk ?_ (Nat.le_trans (cutS_length z lo hi) h2)
  unfold PyData.strOk at *
  rw [Array.all_eq_true_iff_forall_mem] at *
  intro c hc
  refine h1 c ?_
  unfold cutS at hc
  have := List.mem_of_mem_drop (List.mem_of_mem_take (by simpa using hc))
  simpa using this
def eSl (fe : Env → C D) (fl fh : Env → C (Option Int)) : Env → C D := fun ρ => (fe ρ).bind fun x => (fl ρ).bind fun lo => (fh ρ).bind fun hi => gSl x lo hi
theorem pd_slice {fl fh : Env → C (Option Int)} {lo hi : Option Expr} {p2 : Pos} (he : PD X W e fa) (hl : PDo X W lo fl) (hh : PDo X W hi fh) : PD X W (.Subscript e (.Slice lo hi none p2) pos) (eSl fa fl fh) :=
  (pe_slice (sl_list.or (sl_tup.or sl_str)) he hl hh).up fun σ H Q h => by
    have lq := line_eq
    obtain ⟨S, as, M, ρ, st, env, fin⟩ := h
    refine ⟨S, as, M, ρ, st, env, Fin.bind (g := fun x => (fl ρ).bind fun lo => (fh ρ).bind fun hi => gSl x lo hi) fin env fun S1 as1 M1 x v H1 e1 st1 env1 rx fin1 => ?_⟩
    refine ⟨S1, as1, M1, ρ, st1, env1, Fin.bind (g := fun lo => (fh ρ).bind fun hi => gSl x lo hi) fin1 env1 fun S2 as2 M2 l l' H2 e2 st2 env2 rl fin2 => ?_⟩
    refine ⟨S2, as2, M2, ρ, st2, env2, Fin.bind (g := fun hi => gSl x l hi) fin2 env2 fun S3 as3 M3 u u' H3 e3 st3 env3 ru fin3 => ?_⟩
    have rl : l = l' := rl
    have ru : u = u' := ru
    subst rl ru
    have rx3 := Rep.mono (e2.trans e3).same (e2.trans e3).pre x v rx
    unfold gSl at fin3
    split at fin3
    · rename_i z
      exact .inr (.inr ⟨z, rx3.1, by have := (okV_str rx3.2).2; omega, fin_ok (d := .v (.str _)) st3 ⟨rfl, okV_cut rx3.2 l u⟩ fin3⟩)
    · rename_i ds
      split at fin3
      · exact fin3.elim
      · rename_i hn
        obtain ⟨a, vs, h1, h2, h3, h4⟩ := tup_of st3 rx3
        refine .inr (.inl ⟨a, vs, h1, h2, by rw [← h3.length]; exact hn, fun p n => fin_tup st3 fin3 (h3.cut l u) (Nat.le_trans (cutG_len _ _ _) h4) n⟩)
    · split at fin3
      · rename_i ds hd
        obtain ⟨a, vs, h1, h2, h3, h4⟩ := lst_of st3 rx3 hd
        exact .inl ⟨a, vs, h1, h2, fun p n => fin_lst st3 fin3 (h3.cut l u) (Nat.le_trans (cutG_len _ _ _) h4) n⟩
      · exact fin3.elim
/-! ### truth, tests -/
def truD (M : Mem) : D → Option Bool
  | .v .non => some false
  | .v (.bl b) => some b
  | .v (.int i) => some (i != 0)
  | .v (.str y) => some ((y.length : Int) != 0)
  | .tup ds => some (!ds.isEmpty)
  | .lst ds => some (!ds.isEmpty)
  | .ro ds => some (!ds.isEmpty)
  | .dK ks _ => some (!ks.isEmpty)
  | .h k => match M[k]? with
    | some (.lst ds) => some (!ds.isEmpty)
    | some (.dK ks _) => some (!ks.isEmpty)
    | _ => none
  | _ => none
def gTru : D → C Bool := fun x M => match truD M x with
  | some b => .ok b M
  | none => .stuck
def eT (fa : Env → C D) : Env → C Bool := fun ρ => (fa ρ).bind gTru
def asB : D → C Bool := fun x M => match x with
  | .v (.bl b) => .ok b M
  | _ => .stuck
def eB (fa : Env → C D) : Env → C Bool := fun ρ => (fa ρ).bind asB
theorem Reps.empty {K : PySem.W.Frag} {S : Hp} {as : List Addr} {ds : List D} {vs : List V} (r : Reps K S as ds vs) : (!ds.isEmpty) = !vs.isEmpty := by
  have := r.length
  cases ds <;> cases vs <;> first | rfl | (simp at this)
theorem tru_of {K : PySem.W.Frag} {S : Hp} {as : List Addr} {M : Mem} {H : Hp} {d : D} {v : V} {b : Bool} (st : St K S as M H) (r : Rep K S as d v) (h : truD M d = some b) : TruV K v H b := by
  have lq := line_eq
  cases d with
  | v x =>
    obtain ⟨r1, r2⟩ := r
    subst r1
    cases v with
    | non => cases h; rfl
    | bl b => cases h; rfl
    | int i => cases h; rfl
    | str s => cases h; exact ⟨by have := (okV_str r2).2; omega, rfl⟩
    | _ => cases h
  | tup ds =>
    cases h
    obtain ⟨a, vs, h1, h2, h3, h4⟩ := tup_of st r
    subst h1
    exact .inr (.inl ⟨vs, h2, h3.empty⟩)
  | lst ds =>
    cases h
    obtain ⟨a, vs, h1, h2, h3, h4⟩ := lst_of st r rfl
    subst h1
    exact .inl ⟨vs, h2, h3.empty⟩
  | ro ds =>
    cases h
    obtain ⟨a, vs, h1, h2, h3, h4⟩ := lst_of st r rfl
    subst h1
    exact .inl ⟨vs, h2, h3.empty⟩
  | h k =>
    obtain ⟨a, h1, h2⟩ := r
    subst h2
    unfold truD at h
    cases e : M[k]? with
    | none => simp [e] at h
    | some c =>
      obtain ⟨_, ho, eh, ro⟩ := st.cell k c a e h1
      cases c with
      | lst ds =>
        simp only [e] at h
        have h := (Option.some.inj h).symm
        subst h
        cases ho with
        | lst vs => exact .inl ⟨vs, SqL.of eh, by rw [ro.1.empty]⟩
        | _ => exact ro.elim
      | dK ks ds =>
        simp only [e] at h
        have h := (Option.some.inj h).symm
        subst h
        cases ho with
        | dK kvs =>
          refine .inr (.inr ⟨kvs, eh, ?_⟩)
          rw [← ro.1]
          cases kvs <;> rfl
        | _ => exact ro.elim
      | _ => simp [e] at h
  | dK ks ds =>
    cases h
    obtain ⟨a, kvs, h1, h2, h3, _⟩ := r
    subst h1
    refine .inr (.inr ⟨kvs, st.ex _ _ h2, ?_⟩)
    rw [← h3]
    cases kvs <;> rfl
  | _ => cases h
theorem pdb_tru (ha : PD X W a fa) (he : ∀ whole, isTrue a X.env whole = (do let v ← whole; standAt a.pos; holding [v] (truthy v)) := by exact fun _ => rfl) : PDb X W a (eT fa) := (pt_truth ha he).up fun σ H Q h => by
  obtain ⟨S, as, M, ρ, st, env, fin⟩ := h
  refine ⟨S, as, M, ρ, st, env, Fin.bind (g := gTru) fin env fun S1 as1 M1 x v H1 e1 st1 env1 rx fin1 => ?_⟩
  unfold gTru at fin1
  split at fin1
  · rename_i b hb
    exact ⟨b, tru_of st1 rx hb, fin_okb st1 fin1⟩
  · exact fin1.elim
theorem asB_k {S : Hp} {as : List Addr} {M : Mem} {H : Hp} {σ : L2.St} {ρ : Env} {x : D} {v : V} {Q : Bool → Hp → Prop} (st : St X.K S as M H) (rx : Rep X.K S as x v) (fin : Fin EqR X.K S as H W σ ρ (asB x M) Q) : ∃ k, v = .bl k ∧ Q k H := by
  unfold asB at fin
  split at fin
  · rename_i b
    exact ⟨b, rx.1, fin_okb st fin⟩
  · exact fin.elim
/-- a comparison as a test -/
theorem pdb_cmp {op : CmpOp} {r : R2} {g : D → D → C D} (ho : OpR X (compareOp op) r) (hr : Dr2 X.K r g) (ha : PD X W a fa) (hb : PD X W b fb) (hm : behindInMarks op b = false := by first | exact nomark _ | rfl) : PDb X W (.Compare a [op] [b] pos) (eB (e2 g fa fb)) :=
  (pt_cmpR ho ha hb hm).up fun σ H Q h => by
    obtain ⟨S, as, M, ρ, st, env, fin⟩ := h
    refine t2_of hr ⟨S, as, M, ρ, st, env, ?_⟩
    exact Fin.bind (g := asB) fin env fun S1 as1 M1 x v H1 e1 st1 env1 rx fin1 => asB_k st1 rx fin1
theorem pdb_eq (hu : X.A.units + 65 < cLine) (ha : PD X W a fa) (hb : PD X W b fb) : PDb X W (.Compare a [.Eq] [b] pos) (eB (e2 gEq fa fb)) := pdb_cmp (op_eqD (by omega)) dr_eq ha hb
theorem pdb_ne (hu : X.A.units + 65 < cLine) (ha : PD X W a fa) (hb : PD X W b fb) : PDb X W (.Compare a [.NotEq] [b] pos) (eB (e2 gNe fa fb)) := pdb_cmp (op_neD (by omega)) dr_ne ha hb
theorem pdb_lt (ha : PD X W a fa) (hb : PD X W b fb) : PDb X W (.Compare a [.Lt] [b] pos) (eB (e2 gLt fa fb)) := pdb_cmp op_ltAll dr_lt ha hb
theorem pdb_le (ha : PD X W a fa) (hb : PD X W b fb) : PDb X W (.Compare a [.LtE] [b] pos) (eB (e2 gLe fa fb)) := pdb_cmp op_leAll dr_le ha hb
theorem pdb_gt (ha : PD X W a fa) (hb : PD X W b fb) : PDb X W (.Compare a [.Gt] [b] pos) (eB (e2 gGt fa fb)) := pdb_cmp op_gtAll dr_gt ha hb
theorem pdb_ge (ha : PD X W a fa) (hb : PD X W b fb) : PDb X W (.Compare a [.GtE] [b] pos) (eB (e2 gGe fa fb)) := pdb_cmp op_geAll dr_ge ha hb
theorem pdb_in (hu : X.A.units + 65 < cLine) (ha : PD X W a fa) (hb : PD X W b fb) (hm : behindInMarks .In b = false := by rfl) : PDb X W (.Compare a [.In] [b] pos) (eB (e2 gIn fa fb)) := pdb_cmp (op_inAll hu) dr_in ha hb hm
theorem pdb_notIn (hu : X.A.units + 65 < cLine) (ha : PD X W a fa) (hb : PD X W b fb) (hm : behindInMarks .NotIn b = false := by rfl) : PDb X W (.Compare a [.NotIn] [b] pos) (eB (e2 gNotIn fa fb)) := pdb_cmp (op_notInAll hu) dr_notIn ha hb hm
def bIsN (fa : Env → C D) : Env → C Bool := fun ρ => (fa ρ).bind fun x => C.ret (isNon x)
def bNotN (fa : Env → C D) : Env → C Bool := fun ρ => (fa ρ).bind fun x => C.ret (!isNon x)
theorem pdb_isN {j pos'} (ha : PD X W a fa) : PDb X W (.Compare a [.Is] [.Constant .none j pos'] pos) (bIsN fa) := (pt_cmp (pc_isN ha) (by first | rfl | exact nobehind _ (by decide) (by decide))).up fun σ H Q h => by
  obtain ⟨S, as, M, ρ, st, env, fin⟩ := h
  refine ⟨S, as, M, ρ, st, env, Fin.bind (g := fun x => C.ret (isNon x)) fin env fun S1 as1 M1 x v H1 e1 st1 env1 rx fin1 => ?_⟩
  rw [rep_non rx]
  exact ⟨_, rfl, fin_okb st1 fin1⟩
theorem pdb_notN {j pos'} (ha : PD X W a fa) : PDb X W (.Compare a [.IsNot] [.Constant .none j pos'] pos) (bNotN fa) := (pt_cmp (pc_notN ha) (by first | rfl | exact nobehind _ (by decide) (by decide))).up fun σ H Q h => by
  obtain ⟨S, as, M, ρ, st, env, fin⟩ := h
  refine ⟨S, as, M, ρ, st, env, Fin.bind (g := fun x => C.ret (!isNon x)) fin env fun S1 as1 M1 x v H1 e1 st1 env1 rx fin1 => ?_⟩
  rw [rep_non rx]
  exact ⟨_, rfl, fin_okb st1 fin1⟩
/-! and, or, not as tests -/
variable {ba bb bc : Env → C Bool} {rest : List Expr}
def bAnd (fa fb : Env → C Bool) : Env → C Bool := fun ρ => (fa ρ).bind fun c => if c = true then fb ρ else C.ret false
def bOr (fa fb : Env → C Bool) : Env → C Bool := fun ρ => (fa ρ).bind fun c => if c = true then C.ret true else fb ρ
def bNot (fa : Env → C Bool) : Env → C Bool := fun ρ => (fa ρ).bind fun c => C.ret (!c)
theorem pdw_and1 (ha : PDb X W a ba) : PDw X W (.BoolOp .And [a] pos) ba := pw_and1 ha
theorem pdw_or1 (ha : PDb X W a ba) : PDw X W (.BoolOp .Or [a] pos) ba := pw_or1 ha
theorem pdw_and (ha : PDb X W a ba) (hb : PDw X W (.BoolOp .And (b :: rest) pos) bb) : PDw X W (.BoolOp .And (a :: b :: rest) pos) (bAnd ba bb) := (pw_and ha hb).up fun σ H Q h => by
  obtain ⟨S, as, M, ρ, st, env, fin⟩ := h
  refine ⟨S, as, M, ρ, st, env, Fin.bind (R := EqR) (g := fun c => if c = true then bb ρ else C.ret false) fin env fun S1 as1 M1 x v H1 e1 st1 env1 rx fin1 => ?_⟩
  have rx : x = v := rx
  subst rx
  cases x with
  | true => rw [if_pos rfl] at fin1 ⊢; exact ⟨S1, as1, M1, ρ, st1, env1, fin1⟩
  | false => rw [if_neg Bool.false_ne_true] at fin1 ⊢; exact fin_okb st1 fin1
theorem pdw_or (ha : PDb X W a ba) (hb : PDw X W (.BoolOp .Or (b :: rest) pos) bb) : PDw X W (.BoolOp .Or (a :: b :: rest) pos) (bOr ba bb) := (pw_or ha hb).up fun σ H Q h => by
  obtain ⟨S, as, M, ρ, st, env, fin⟩ := h
  refine ⟨S, as, M, ρ, st, env, Fin.bind (R := EqR) (g := fun c => if c = true then C.ret true else bb ρ) fin env fun S1 as1 M1 x v H1 e1 st1 env1 rx fin1 => ?_⟩
  have rx : x = v := rx
  subst rx
  cases x with
  | true => rw [if_pos rfl] at fin1 ⊢; exact fin_okb st1 fin1
  | false => rw [if_neg Bool.false_ne_true] at fin1 ⊢; exact ⟨S1, as1, M1, ρ, st1, env1, fin1⟩
theorem pdb_w (h : PDw X W e ba) : PDb X W e ba := h.pt
theorem pdb_not (ha : PDb X W a ba) : PDb X W (.UnaryOp .Not a pos) (bNot ba) := (pt_not ha).up fun σ H Q h => by
  obtain ⟨S, as, M, ρ, st, env, fin⟩ := h
  refine ⟨S, as, M, ρ, st, env, Fin.bind (R := EqR) (g := fun c => C.ret (!c)) fin env fun S1 as1 M1 x v H1 e1 st1 env1 rx fin1 => ?_⟩
  have rx : x = v := rx
  subst rx
  exact fin_okb st1 fin1
/-! .. as values, by truth -/
def eAndV (fa fb : Env → C D) : Env → C D := fun ρ => (fa ρ).bind fun x => (gTru x).bind fun c => if c = true then fb ρ else C.ret x
def eOrV (fa fb : Env → C D) : Env → C D := fun ρ => (fa ρ).bind fun x => (gTru x).bind fun c => if c = true then C.ret x else fb ρ
def eNotV (fa : Env → C D) : Env → C D := fun ρ => (fa ρ).bind fun x => (gTru x).bind fun c => C.ret (.v (.bl (!c)))
theorem tru_bind {α : Type} {S : Hp} {as : List Addr} {M : Mem} {H : Hp} {σ : L2.St} {ρ : Env} {x : D} {v : V} {β : Type} {R : Hp → List Addr → α → β → Prop} {Q : β → Hp → Prop} {g : Bool → C α} (st : St X.K S as M H) (rx : Rep X.K S as x v) (fin : Fin R X.K S as H W σ ρ (((gTru x).bind g) M) Q) :
    ∃ k, TruV X.K v H k ∧ Fin R X.K S as H W σ ρ (g k M) Q := by
  unfold C.bind gTru at fin
  cases e : truD M x with
  | none => simp only [e] at fin; exact fin.elim
  | some k => simp only [e] at fin; exact ⟨k, tru_of st rx e, fin⟩
theorem pd_and1 {op} {fa : Env → C D} (ha : PD X W a fa) : PD X W (.BoolOp op [a] pos) fa := pe_one ha
theorem pd_andV (ha : PD X W a fa) (hb : PD X W (.BoolOp .And (b :: rest) pos) fb) : PD X W (.BoolOp .And (a :: b :: rest) pos) (eAndV fa fb) := (pe_andT ha hb).up fun σ H Q h => by
  obtain ⟨S, as, M, ρ, st, env, fin⟩ := h
  refine ⟨S, as, M, ρ, st, env, Fin.bind (g := fun x => (gTru x).bind fun c => if c = true then fb ρ else C.ret x) fin env fun S1 as1 M1 x v H1 e1 st1 env1 rx fin1 => ?_⟩
  obtain ⟨k, h1, h2⟩ := tru_bind st1 rx fin1
  refine ⟨k, h1, ?_⟩
  cases k with
  | true => rw [if_pos rfl] at h2 ⊢; exact ⟨S1, as1, M1, ρ, st1, env1, h2⟩
  | false => rw [if_neg Bool.false_ne_true] at h2 ⊢; exact fin_ok st1 rx h2
theorem pd_orV (ha : PD X W a fa) (hb : PD X W (.BoolOp .Or (b :: rest) pos) fb) : PD X W (.BoolOp .Or (a :: b :: rest) pos) (eOrV fa fb) := (pe_orT ha hb).up fun σ H Q h => by
  obtain ⟨S, as, M, ρ, st, env, fin⟩ := h
  refine ⟨S, as, M, ρ, st, env, Fin.bind (g := fun x => (gTru x).bind fun c => if c = true then C.ret x else fb ρ) fin env fun S1 as1 M1 x v H1 e1 st1 env1 rx fin1 => ?_⟩
  obtain ⟨k, h1, h2⟩ := tru_bind st1 rx fin1
  refine ⟨k, h1, ?_⟩
  cases k with
  | true => rw [if_pos rfl] at h2 ⊢; exact fin_ok st1 rx h2
  | false => rw [if_neg Bool.false_ne_true] at h2 ⊢; exact ⟨S1, as1, M1, ρ, st1, env1, h2⟩
theorem pd_notV (ha : PD X W a fa) : PD X W (.UnaryOp .Not a pos) (eNotV fa) := (pe_notT ha).up fun σ H Q h => by
  obtain ⟨S, as, M, ρ, st, env, fin⟩ := h
  refine ⟨S, as, M, ρ, st, env, Fin.bind (g := fun x => (gTru x).bind fun c => C.ret (D.v (.bl (!c)))) fin env fun S1 as1 M1 x v H1 e1 st1 env1 rx fin1 => ?_⟩
  obtain ⟨k, h1, h2⟩ := tru_bind st1 rx fin1
  exact ⟨k, h1, fin_ok (d := .v (.bl _)) st1 ⟨rfl, rfl⟩ h2⟩
def eIf (fc : Env → C Bool) (fa fb : Env → C D) : Env → C D := fun ρ => (fc ρ).bind fun c => if c = true then fa ρ else fb ρ
theorem pd_ifExp {c : Expr} (hc : PDb X W c bc) (ha : PD X W a fa) (hb : PD X W b fb) : PD X W (.IfExp c a b pos) (eIf bc fa fb) := (pe_ifExp hc ha hb).up fun σ H Q h => by
  obtain ⟨S, as, M, ρ, st, env, fin⟩ := h
  refine ⟨S, as, M, ρ, st, env, Fin.bind (R := EqR) (g := fun c => if c = true then fa ρ else fb ρ) fin env fun S1 as1 M1 x v H1 e1 st1 env1 rx fin1 => ?_⟩
  have rx : x = v := rx
  subst rx
  cases x with
  | true => rw [if_pos rfl] at fin1 ⊢; exact ⟨S1, as1, M1, ρ, st1, env1, fin1⟩
  | false => rw [if_neg Bool.false_ne_true] at fin1 ⊢; exact ⟨S1, as1, M1, ρ, st1, env1, fin1⟩
theorem asB_bind {α : Type} {S : Hp} {as : List Addr} {M : Mem} {H : Hp} {σ : L2.St} {ρ : Env} {x : D} {v : V} {β : Type} {R : Hp → List Addr → α → β → Prop} {Q : β → Hp → Prop} {g : Bool → C α} (rx : Rep X.K S as x v) (fin : Fin R X.K S as H W σ ρ (((asB x).bind g) M) Q) :
    ∃ k, v = .bl k ∧ Fin R X.K S as H W σ ρ (g k M) Q := by
  cases x with
  | v z =>
    cases z with
    | bl k => exact ⟨k, rx.1, fin⟩
    | _ => exact fin.elim
  | _ => exact fin.elim
/-- a op b op' c -/
def eChain (g g' : D → D → C D) (fa fb fc : Env → C D) : Env → C D := fun ρ => (fa ρ).bind fun x => (fb ρ).bind fun y => (g x y).bind fun z => (asB z).bind fun k => if k = true then (fc ρ).bind fun w => g' y w else C.ret (.v (.bl false))
theorem chain_of {r r' : R2} {g g' : D → D → C D} {fc : Env → C D} {σ : L2.St} {H : Hp} {Q : VK} (hr : Dr2 X.K r g) (hr' : Dr2 X.K r' g') (h : tD X.K W (eChain g g' fa fb fc) σ H Q) : tChain r r' (tD X.K W fa) (tD X.K W fb) (tD X.K W fc) σ H Q := by
  obtain ⟨S, as, M, ρ, st, env, fin⟩ := h
  refine ⟨S, as, M, ρ, st, env, Fin.bind (g := fun x => (fb ρ).bind fun y => (g x y).bind fun z => (asB z).bind fun k => if k = true then (fc ρ).bind fun w => g' y w else C.ret (.v (.bl false))) fin env fun S1 as1 M1 x v H1 e1 st1 env1 rx fin1 => ?_⟩
  refine ⟨S1, as1, M1, ρ, st1, env1, Fin.bind (g := fun y => (g x y).bind fun z => (asB z).bind fun k => if k = true then (fc ρ).bind fun w => g' y w else C.ret (.v (.bl false))) fin1 env1 fun S2 as2 M2 y u H2 e2 st2 env2 ry fin2 => ?_⟩
  refine hr S2 as2 M2 H2 σ ρ W x y v u _ st2 (Rep.mono e2.same e2.pre x v rx) ry ?_
  refine Fin.bind (g := fun z => (asB z).bind fun k => if k = true then (fc ρ).bind fun w => g' y w else C.ret (.v (.bl false))) fin2 env2 fun S3 as3 M3 z z' H3 e3 st3 env3 rz fin3 => ?_
  obtain ⟨k, h1, h2⟩ := asB_bind rz fin3
  refine ⟨k, h1, ?_⟩
  cases k with
  | true =>
    rw [if_pos rfl] at h2 ⊢
    refine ⟨S3, as3, M3, ρ, st3, env3, Fin.bind (g := fun w => g' y w) h2 env3 fun S4 as4 M4 w w' H4 e4 st4 env4 rw4 fin4 => ?_⟩
    exact hr' S4 as4 M4 H4 σ ρ W y w u w' Q st4 (Rep.mono (e3.trans e4).same (e3.trans e4).pre y u ry) rw4 fin4
  | false =>
    rw [if_neg Bool.false_ne_true] at h2 ⊢
    exact fin_ok (d := .v (.bl false)) st3 ⟨rfl, rfl⟩ h2
theorem pd_chain {op op' : CmpOp} {r r' : R2} {g g' : D → D → C D} {c : Expr} {fc : Env → C D} (ho : OpR X (compareOp op) r) (hr : Dr2 X.K r g) (ho' : OpR X (compareOp op') r') (hr' : Dr2 X.K r' g') (ha : PD X W a fa) (hb : PD X W b fb) (hc : PD X W c fc)
    (hm : lastMarks [op, op'] [b, c] = false := by with_unfolding_all rfl) : PD X W (.Compare a [op, op'] [b, c] pos) (eChain g g' fa fb fc) := (pe_chain ho ho' ha hb hc hm).up fun _ _ _ h => chain_of hr hr' h
theorem pdb_chain {op op' : CmpOp} {r r' : R2} {g g' : D → D → C D} {c : Expr} {fc : Env → C D} (ho : OpR X (compareOp op) r) (hr : Dr2 X.K r g) (ho' : OpR X (compareOp op') r') (hr' : Dr2 X.K r' g') (ha : PD X W a fa) (hb : PD X W b fb) (hc : PD X W c fc)
    (hm : lastMarks [op, op'] [b, c] = false := by with_unfolding_all rfl) : PDb X W (.Compare a [op, op'] [b, c] pos) (eB (eChain g g' fa fb fc)) := (pt_chain ho ho' ha hb hc hm).up fun σ H Q h => by
  obtain ⟨S, as, M, ρ, st, env, fin⟩ := h
  refine chain_of (W := W) hr hr' ⟨S, as, M, ρ, st, env, ?_⟩
  exact Fin.bind (g := asB) fin env fun S1 as1 M1 x v H1 e1 st1 env1 rx fin1 => asB_k st1 rx fin1
end
end DL
set_option Elab.async false
set_option maxRecDepth 100000
set_option maxHeartbeats 2000000
namespace DL
open PySem PySem.Spec PyProof.Rows L2

/-! ### statements -/
inductive SOut where
  | nx (ρ : Env) (M : Mem)
  | rt (d : D) (M : Mem)
  | bk (ρ : Env) (M : Mem)
  | ct (ρ : Env) (M : Mem)
  | er (x : Exn) (ρ : Env) (M : Mem)
  | stuck
abbrev Cs := Env → Mem → SOut
def FinS (K : PySem.W.Frag) (S : Hp) (as : List Addr) (H : Hp) (W : WX) (o : SOut) (De : Ends) : Prop := match o with
  | .nx ρ' M' => ∀ S' as' σ' H', Ext S as H S' as' H' → St K S' as' M' H' → EnvOk K S' as' σ' ρ' → De.nx σ' H'
  | .bk ρ' M' => ∀ S' as' σ' H', Ext S as H S' as' H' → St K S' as' M' H' → EnvOk K S' as' σ' ρ' → De.bk σ' H'
  | .ct ρ' M' => ∀ S' as' σ' H', Ext S as H S' as' H' → St K S' as' M' H' → EnvOk K S' as' σ' ρ' → De.ct σ' H'
  | .rt d M' => ∀ S' as' v H', Ext S as H S' as' H' → St K S' as' M' H' → Rep K S' as' d v → De.rt v H'
  | .er x ρ' M' => ∀ S' as' σ' H' dd, Ext S as H S' as' H' → St K S' as' M' H' → EnvOk K S' as' σ' ρ' → ErOk K S' as' H' x dd → W x.cls dd σ' H'
  | .stuck => False
def tS (K : PySem.W.Frag) (W : WX) (f : Cs) : TS := fun De σ H => ∃ S as M ρ, St K S as M H ∧ EnvOk K S as σ ρ ∧ FinS K S as H W (f ρ M) De
abbrev SD (X : Cx) (W : WX) (st : Stmt) (f : Cs) : Prop := PS X st (tS X.K W f)
abbrev SDs (X : Cx) (W : WX) (sts : List Stmt) (f : Cs) : Prop := PSs X sts (tS X.K W f)
def sE {α : Type} (c : C α) (ρ : Env) (g : α → Mem → SOut) : Mem → SOut := fun M => match c M with
  | .ok a M1 => g a M1
  | .er x M1 => .er x ρ M1
  | .stuck => .stuck
section
variable {K : PySem.W.Frag} {W : WX} {S S0 : Hp} {as as0 : List Addr} {M : Mem} {H H0 : Hp} {σ : L2.St} {ρ : Env} {De : Ends} {α β : Type} {R : Hp → List Addr → α → β → Prop}
theorem FinS.pre {o : SOut} (e : Ext S0 as0 H0 S as H) (h : FinS K S0 as0 H0 W o De) : FinS K S as H W o De := by
  cases o with
  | nx ρ' M' => exact fun S' as' σ' H' e' => h S' as' σ' H' (e.trans e')
  | bk ρ' M' => exact fun S' as' σ' H' e' => h S' as' σ' H' (e.trans e')
  | ct ρ' M' => exact fun S' as' σ' H' e' => h S' as' σ' H' (e.trans e')
  | rt d M' => exact fun S' as' v H' e' => h S' as' v H' (e.trans e')
  | er x ρ' M' => exact fun S' as' σ' H' dd e' => h S' as' σ' H' dd (e.trans e')
  | stuck => exact h
theorem FinS.bindE {c : C α} {g : α → Mem → SOut} {Q1 : β → Hp → Prop} (fin : FinS K S as H W (sE c ρ g M) De) (env : EnvOk K S as σ ρ)
    (k : ∀ S' as' M' a b H', Ext S as H S' as' H' → St K S' as' M' H' → EnvOk K S' as' σ ρ → R S' as' a b → FinS K S' as' H' W (g a M') De → Q1 b H') : Fin R K S as H W σ ρ (c M) Q1 := by
  unfold sE at fin
  cases e : c M with
  | ok a M' =>
    simp only [e] at fin
    intro S' as' b H' e' s' r
    exact k S' as' M' a b H' e' s' (env.mono e'.same e'.pre) r (fin.pre e')
  | er x M' =>
    simp only [e] at fin
    intro S' as' H' dd e' s' env' eo
    exact fin S' as' σ H' dd e' s' env' eo
  | stuck =>
    simp only [e] at fin
    exact fin.elim
theorem fin_nx (st : St K S as M H) (env : EnvOk K S as σ ρ) (fin : FinS K S as H W (.nx ρ M) De) : De.nx σ H := fin S as σ H (Ext.refl _ _ _) st env
theorem fin_rt {d : D} {v : V} (st : St K S as M H) (r : Rep K S as d v) (fin : FinS K S as H W (.rt d M) De) : De.rt v H := fin S as v H (Ext.refl _ _ _) st r
end
def sSet (i : Nat) (fe : Env → C D) : Cs := fun ρ => sE (fe ρ) ρ fun d M => .nx (ρ.set i (some d)) M
def sRet (fe : Env → C D) : Cs := fun ρ => sE (fe ρ) ρ fun d M => .rt d M
def sRetN : Cs := fun ρ M => .rt (.v .non) M
def sExpr (fe : Env → C D) : Cs := fun ρ => sE (fe ρ) ρ fun _ M => .nx ρ M
def sIf (fc : Env → C Bool) (f g : Cs) : Cs := fun ρ => sE (fc ρ) ρ fun b M => if b = true then f ρ M else g ρ M
def sSeq (f g : Cs) : Cs := fun ρ M => match f ρ M with
  | .nx ρ1 M1 => g ρ1 M1
  | o => o
def sPass : Cs := fun ρ M => .nx ρ M
def sBreak : Cs := fun ρ M => .bk ρ M
def sCont : Cs := fun ρ M => .ct ρ M
section
variable {X : Cx} {W : WX} {pos : Pos} {a b e : Expr} {es : List Expr} {fa fb : Env → C D} {fs : Env → C (List D)} {f g : Cs} {bc : Env → C Bool} {st : Stmt} {rest A B : List Stmt}
theorem sd_set {i : Nat} {x : Str} {pos' : Pos} (hN : X.N.Nodup) (he : PD X W e fa) (hi : X.N[i]? = some x := by rfl) (hx : Loc X.env.scope x := by first | exact Or.inl rfl | exact Or.inr rfl) (hs : swapsWith e (some (.Name x pos')) pos.line X.env = pure false := by rfl)
    (hf : X.fn x = true ∨ X.env.scope.names.lookup x = some .local := by first | exact .inl rfl | exact .inr rfl) : SD X W (.Assign [.Name x pos'] e pos) (sSet i fa) := (ps_set hN hi hx he hs hf).up fun De σ H h => by
  obtain ⟨S, as, M, ρ, st, env, fin⟩ := h
  exact ⟨S, as, M, ρ, st, env, FinS.bindE (g := fun d M => .nx (ρ.set i (some d)) M) fin env fun S1 as1 M1 d v H1 e1 st1 env1 rx fin1 => fin_nx st1 (env1.set rx) fin1⟩
theorem sd_ret (he : PD X W e fa) : SD X W (.Return (some e) pos) (sRet fa) := (ps_ret he).up fun De σ H h => by
  obtain ⟨S, as, M, ρ, st, env, fin⟩ := h
  exact ⟨S, as, M, ρ, st, env, FinS.bindE (g := fun d M => .rt d M) fin env fun S1 as1 M1 d v H1 e1 st1 env1 rx fin1 => fin_rt st1 rx fin1⟩
theorem sd_retN : SD X W (.Return none pos) sRetN := ps_retN.up fun De σ H h => by
  obtain ⟨S, as, M, ρ, st, env, fin⟩ := h
  exact fin_rt (d := .v .non) st ⟨rfl, rfl⟩ fin
theorem sd_expr (he : PD X W e fa) (hs : swapsWith e none pos.line X.env = pure false := by rfl) : SD X W (.Expr e pos) (sExpr fa) := (ps_expr he hs).up fun De σ H h => by
  obtain ⟨S, as, M, ρ, st, env, fin⟩ := h
  exact ⟨S, as, M, ρ, st, env, FinS.bindE (g := fun d M => .nx ρ M) fin env fun S1 as1 M1 d v H1 e1 st1 env1 rx fin1 => fin_nx st1 env1 fin1⟩
theorem sd_if {c : Expr} (hc : PDb X W c bc) (ha : SDs X W A f) (hb : SDs X W B g) : SD X W (.If c A B pos) (sIf bc f g) := (ps_if hc ha hb).up fun De σ H h => by
  obtain ⟨S, as, M, ρ, st, env, fin⟩ := h
  refine ⟨S, as, M, ρ, st, env, FinS.bindE (R := EqR) (g := fun b M => if b = true then f ρ M else g ρ M) fin env fun S1 as1 M1 x v H1 e1 st1 env1 rx fin1 => ?_⟩
  have rx : x = v := rx
  subst rx
  cases x with
  | true => rw [if_pos rfl] at fin1 ⊢; exact ⟨S1, as1, M1, ρ, st1, env1, fin1⟩
  | false => rw [if_neg Bool.false_ne_true] at fin1 ⊢; exact ⟨S1, as1, M1, ρ, st1, env1, fin1⟩
theorem sds_nil : SDs X W [] sPass := pss_nil.up fun De σ H h => by
  obtain ⟨S, as, M, ρ, st, env, fin⟩ := h
  exact fin_nx st env fin
theorem sds_one (h : SD X W st f) : SDs X W [st] f := pss_one h
theorem sds_cons (h1 : SD X W st f) (h2 : SDs X W rest g) : SDs X W (st :: rest) (sSeq f g) := (pss_cons h1 h2).up fun De σ H h => by
  obtain ⟨S, as, M, ρ, st, env, fin⟩ := h
  refine ⟨S, as, M, ρ, st, env, ?_⟩
  unfold sSeq at fin
  cases e : f ρ M with
  | nx ρ1 M1 =>
    simp only [e] at fin
    intro S' as' σ' H' e' st' env'
    exact ⟨S', as', M1, ρ1, st', env', fin.pre e'⟩
  | bk ρ1 M1 => simp only [e] at fin; exact fin
  | ct ρ1 M1 => simp only [e] at fin; exact fin
  | rt d M1 => simp only [e] at fin; exact fin
  | er x ρ1 M1 => simp only [e] at fin; exact fin
  | stuck => simp only [e] at fin; exact fin.elim
theorem sd_pass : SD X W (.Pass pos) sPass := ps_pass.up fun De σ H h => by
  obtain ⟨S, as, M, ρ, st, env, fin⟩ := h
  exact fin_nx st env fin
theorem sd_break : SD X W (.Break pos) sBreak := ps_break.up fun De σ H h => by
  obtain ⟨S, as, M, ρ, st, env, fin⟩ := h
  exact fin S as σ H (Ext.refl _ _ _) st env
theorem sd_cont : SD X W (.Continue pos) sCont := ps_continue.up fun De σ H h => by
  obtain ⟨S, as, M, ρ, st, env, fin⟩ := h
  exact fin S as σ H (Ext.refl _ _ _) st env
end

/-! ### targets -/
inductive Tg where
  | nm (i : Nat)
  | tp (ts : List Tg)
mutual
def Tg.run : Tg → D → Env → Option Env
  | .nm i, d, ρ => some (ρ.set i (some d))
  | .tp ts, .tup ds, ρ => Tg.runs ts ds ρ
  | .tp _, _, _ => none
def Tg.runs : List Tg → List D → Env → Option Env
  | [], [], ρ => some ρ
  | t :: ts, d :: ds, ρ => (t.run d ρ).bind fun ρ1 => Tg.runs ts ds ρ1
  | _, _, _ => none
end
mutual
def Tg.slots : Tg → List Nat
  | .nm i => [i]
  | .tp ts => Tg.slotss ts
def Tg.slotss : List Tg → List Nat
  | [] => []
  | t :: ts => t.slots ++ Tg.slotss ts
end
mutual
def Tg.tg (K : PySem.W.Frag) : Tg → TG
  | .nm i => gName i
  | .tp ts => gTup K ts.length (Tg.tgs K ts)
def Tg.tgs (K : PySem.W.Frag) : List Tg → TGs
  | [] => gNil
  | t :: ts => gCons (t.tg K) (Tg.tgs K ts)
end
theorem wipe_set {σ : L2.St} {i : Nat} {x : Option V} : ∀ {vs : List Nat}, i ∈ vs → wipe (σ.set i x) vs = wipe σ vs
  | [], h => by cases h
  | v :: vs, h => by
    unfold wipe
    by_cases hi : i ∈ vs
    · rw [wipe_set hi]
    · have e : i = v := by
        rcases List.mem_cons.mp h with z | z
        · exact z
        · exact absurd z hi
      subst e
      rw [wipe_setN hi, List.set_set]
where wipe_setN {σ : L2.St} {i : Nat} {x : Option V} : ∀ {vs : List Nat}, i ∉ vs → wipe (σ.set i x) vs = (wipe σ vs).set i x
  | [], h => rfl
  | v :: vs, h => by
    unfold wipe
    have h1 : i ≠ v := fun z => h (z ▸ List.mem_cons_self)
    rw [wipe_setN fun z => h (List.mem_cons_of_mem _ z), List.set_comm _ _ h1]
section
variable {K : PySem.W.Frag} {S : Hp} {as : List Addr} {M : Mem} {H : Hp}
mutual
theorem Tg.ok (vs : List Nat) (e : Same S H) : ∀ (t : Tg) (d : D) (v : V) (σ : L2.St) (ρ ρ' : Env) (Q : L2.St → Hp → Prop), Rep K S as d v → EnvOk K S as σ ρ → t.run d ρ = some ρ' → (∀ i ∈ t.slots, i ∈ vs) →
    (∀ σ', EnvOk K S as σ' ρ' → wipe σ' vs = wipe σ vs → Q σ' H) → t.tg K v σ H Q
  | .nm i, d, v, σ, ρ, ρ', Q, r, env, h, hs, k => by
    unfold Tg.run at h
    cases h
    unfold Tg.tg
    exact k _ (env.set r) (wipe_set (hs i (by simp [Tg.slots])))
  | .tp ts, .tup ds, v, σ, ρ, ρ', Q, r, env, h, hs, k => by
    obtain ⟨a, us, h1, h2, h3, h4⟩ := r
    unfold Tg.run at h
    unfold Tg.tg
    have hl : us.length = ts.length := by rw [← h3.length]; exact (Tg.runs_len h).symm
    exact ⟨a, us, h1, Evl.ex_t e h2, hl, Tg.oks vs e ts ds us σ ρ ρ' Q h3 env h (by unfold Tg.slots at hs; exact hs) k⟩
  | .tp _, .v _, v, σ, ρ, ρ', Q, r, env, h, hs, k => by simp [Tg.run] at h
  | .tp _, .h _, v, σ, ρ, ρ', Q, r, env, h, hs, k => by simp [Tg.run] at h
  | .tp _, .lst _, v, σ, ρ, ρ', Q, r, env, h, hs, k => by simp [Tg.run] at h
  | .tp _, .ro _, v, σ, ρ, ρ', Q, r, env, h, hs, k => by simp [Tg.run] at h
  | .tp _, .ins _ _ _, v, σ, ρ, ρ', Q, r, env, h, hs, k => by simp [Tg.run] at h
  | .tp _, .dK _ _, v, σ, ρ, ρ', Q, r, env, h, hs, k => by simp [Tg.run] at h
  | .tp _, .dT _ _, v, σ, ρ, ρ', Q, r, env, h, hs, k => by simp [Tg.run] at h
  | .tp _, .cl _, v, σ, ρ, ρ', Q, r, env, h, hs, k => by simp [Tg.run] at h
theorem Tg.oks (vs : List Nat) (e : Same S H) : ∀ (ts : List Tg) (ds : List D) (us : List V) (σ : L2.St) (ρ ρ' : Env) (Q : L2.St → Hp → Prop), Reps K S as ds us → EnvOk K S as σ ρ → Tg.runs ts ds ρ = some ρ' → (∀ i ∈ Tg.slotss ts, i ∈ vs) →
    (∀ σ', EnvOk K S as σ' ρ' → wipe σ' vs = wipe σ vs → Q σ' H) → Tg.tgs K ts us σ H Q
  | [], [], us, σ, ρ, ρ', Q, r, env, h, hs, k => by
    have r : us = [] := r
    subst r
    unfold Tg.runs at h
    cases h
    unfold Tg.tgs
    exact ⟨rfl, k σ env rfl⟩
  | t :: ts, d :: ds, us, σ, ρ, ρ', Q, r, env, h, hs, k => by
    obtain ⟨v, r', h1, h2, h3⟩ := r
    subst h1
    unfold Tg.runs at h
    cases e1 : t.run d ρ with
    | none => simp [e1] at h
    | some ρ1 =>
      simp only [e1, Option.bind_some] at h
      unfold Tg.slotss at hs
      unfold Tg.tgs
      refine ⟨v, r', rfl, Tg.ok vs e t d v σ ρ ρ1 _ h2 env e1 (fun i hi => hs i (List.mem_append_left _ hi)) fun σ1 env1 w1 => ?_⟩
      exact Tg.oks vs e ts ds r' σ1 ρ1 ρ' Q h3 env1 h (fun i hi => hs i (List.mem_append_right _ hi)) fun σ' env' w' => k σ' env' (w'.trans w1)
  | [], _ :: _, us, σ, ρ, ρ', Q, r, env, h, hs, k => by simp [Tg.runs] at h
  | _ :: _, [], us, σ, ρ, ρ', Q, r, env, h, hs, k => by simp [Tg.runs] at h
theorem Tg.runs_len : ∀ {ts : List Tg} {ds : List D} {ρ ρ' : Env}, Tg.runs ts ds ρ = some ρ' → ts.length = ds.length
  | [], [], _, _, _ => rfl
  | t :: ts, d :: ds, ρ, ρ', h => by
    unfold Tg.runs at h
    cases e1 : t.run d ρ with
    | none => simp [e1] at h
    | some ρ1 =>
      simp only [e1, Option.bind_some] at h
      simp [Tg.runs_len h]
  | [], _ :: _, _, _, h => by simp [Tg.runs] at h
  | _ :: _, [], _, _, h => by simp [Tg.runs] at h
end
end
abbrev PGd (X : Cx) (target : Expr) (t : Tg) : Prop := PG X target (t.tg X.K)
abbrev PGds (X : Cx) (ts : List Expr) (t : List Tg) : Prop := PGs X ts (Tg.tgs X.K t)
section
variable {X : Cx} {W : WX} {pos : Pos}
theorem pgd_nm {i : Nat} {x : Str} (hN : X.N.Nodup) (hi : X.N[i]? = some x := by rfl) (hx : Loc X.env.scope x := by first | exact Or.inl rfl | exact Or.inr rfl) (hf : X.fn x = true ∨ X.env.scope.names.lookup x = some .local := by first | exact .inl rfl | exact .inr rfl) : PGd X (.Name x pos) (.nm i) := by
  unfold PGd Tg.tg; exact pg_name hN hi hx hf
theorem pgds_nil : PGds X [] [] := by unfold PGds Tg.tgs; exact pgs_nil
theorem pgds_cons {e : Expr} {es : List Expr} {t : Tg} {ts : List Tg} (h1 : PGd X e t) (h2 : PGds X es ts) (hs : (assignEach (e :: es) X.env).map (·.2) = assign e X.env :: (assignEach es X.env).map (·.2) := by rfl) : PGds X (e :: es) (t :: ts) := by
  unfold PGds Tg.tgs; exact pgs_cons h1 h2 hs
theorem pgd_tp {es : List Expr} {k : Nat} {ts : List Tg} (hc : X.calm = true) (h : PGds X es ts) (hn : (assignEach es X.env).length = ts.length := by rfl) (hst : (assignEach es X.env).findIdx? (·.1) = none := by rfl) : PGd X (.Tuple es k pos) (.tp ts) := by
  unfold PGd Tg.tg; exact pg_tup hc h hn hst
/-- target = e -/
def sAsg (t : Tg) (fe : Env → C D) : Cs := fun ρ => sE (fe ρ) ρ fun d M => match t.run d ρ with
  | some ρ1 => .nx ρ1 M
  | none => .stuck
theorem sd_asg {tg e : Expr} {t : Tg} {fe : Env → C D} (he : PD X W e fe) (hg : PGd X tg t) (hs : swapsWithSole [tg] e pos.line X.env = pure false := by rfl) (hw : swappedStores [tg] e X.env = pure none := by rfl)
    (h1 : (assignEach [tg] X.env).map (·.2) = [assign tg X.env] := by rfl) : SD X W (.Assign [tg] e pos) (sAsg t fe) := (ps_asg he hg hs hw h1).up fun De σ H h => by
  obtain ⟨S, as, M, ρ, st, env, fin⟩ := h
  refine ⟨S, as, M, ρ, st, env, FinS.bindE (g := fun d M => match t.run d ρ with
    | some ρ1 => SOut.nx ρ1 M
    | none => .stuck) fin env fun S1 as1 M1 d v H1 e1 st1 env1 rx fin1 => ?_⟩
  cases e : t.run d ρ with
  | none => simp only [e] at fin1; exact fin1.elim
  | some ρ1 =>
    simp only [e] at fin1
    exact Tg.ok t.slots st1.ex t d v σ ρ ρ1 _ rx env1 e (fun _ h => h) fun σ' env' _ => fin_nx st1 env' fin1
end
end DL
set_option Elab.async false
set_option maxRecDepth 100000
set_option maxHeartbeats 2000000
namespace DL
open PySem PySem.Spec PyProof.Rows L2

/-! ### what is walked -/
structure ItS where
  ds : List D
  g : Option (Nat × List D)
def gOk : Option (Nat × List D) → Mem → Prop
  | none, _ => True
  | some (k, c), M => M[k]? = some (.lst c)
structure ItOk (K : PySem.W.Frag) (S : Hp) (as : List Addr) (I : ItS) (J : It) : Prop where
  go : ∀ S' as' M H i, Same S S' → Pre as as' → St K S' as' M H → gOk I.g M → i < I.ds.length → J.go i H
  stop : ∀ S' as' M H i, Same S S' → Pre as as' → St K S' as' M H → gOk I.g M → I.ds.length ≤ i → J.stop i H
  yld : ∀ S' as' M H i d x H', Same S S' → Pre as as' → St K S' as' M H → gOk I.g M → I.ds[i]? = some d → J.yld i H x H' → ∃ S'', Ext S' as' H S'' as' H' ∧ St K S'' as' M H' ∧ Rep K S'' as' d x
def ItR (K : PySem.W.Frag) : Hp → List Addr → ItS → It → Prop := ItOk K
abbrev tI (K : PySem.W.Frag) (W : WX) (f : Env → C ItS) : TI := tG (ItR K) K W f
abbrev PId (X : Cx) (W : WX) (tg iter : Expr) (f : Env → C ItS) : Prop := PI X tg iter (tI X.K W f)
theorem _root_.L2.PI.up {X : Cx} {tg e : Expr} {t t' : TI} (h : PI X tg e t) (i : ∀ σ H Q, t' σ H Q → t σ H Q) : PI X tg e t' := ⟨fun pins s σ H Q I q => h.run pins s σ H Q I (i σ H Q q)⟩
theorem _root_.L2.PI.orr {X : Cx} {tg e : Expr} {t t' : TI} (h : PI X tg e t) (h' : PI X tg e t') : PI X tg e (fun σ H Q => t σ H Q ∨ t' σ H Q) := ⟨fun pins s σ H Q I q => q.elim (h.run pins s σ H Q I) (h'.run pins s σ H Q I)⟩
theorem fin_it {K : PySem.W.Frag} {W : WX} {S : Hp} {as : List Addr} {M : Mem} {H : Hp} {σ : L2.St} {ρ : Env} {I : ItS} {J : It} {Q : It → Hp → Prop} (st : St K S as M H) (r : ItOk K S as I J) (fin : Fin (ItR K) K S as H W σ ρ (.ok I M) Q) : Q J H := fin S as J H (Ext.refl _ _ _) st r
def charsD (z : Str) : List D := z.cps.toList.map fun c => .v (.str ⟨#[c]⟩)
def itOf (M : Mem) : D → Option ItS
  | .v (.str z) => some ⟨charsD z, none⟩
  | .tup ds => some ⟨ds, none⟩
  | .lst ds => some ⟨ds, none⟩
  | .ro ds => some ⟨ds, none⟩
  | .h k => match M[k]? with
    | some (.lst ds) => some ⟨ds, some (k, ds)⟩
    | _ => none
  | _ => none
def gIt : D → C ItS := fun x M => match itOf M x with
  | some I => .ok I M
  | none => .stuck
def eIt (fa : Env → C D) : Env → C ItS := fun ρ => (fa ρ).bind gIt
section
variable {K : PySem.W.Frag} {S : Hp} {as : List Addr} {M : Mem} {H : Hp}
theorem it_str {z : Str} (h : okV (.str z) = true) : ItOk K S as ⟨charsD z, none⟩ (Its z) := by
  have hl : (charsD z).length = z.cps.size := by unfold charsD; simp
  refine ⟨fun S' as' M H i e p st g hi => ?_, fun S' as' M H i e p st g hi => ?_, fun S' as' M H i d x H' e p st g hd y => ?_⟩
  · show i < z.cps.size; simp only at hi; omega
  · show z.cps.size ≤ i; simp only at hi; omega
  · obtain ⟨e1, c, hc, e2⟩ := y
    subst e1 e2
    refine ⟨S', Ext.refl _ _ _, st, ?_⟩
    unfold charsD at hd
    simp only [List.getElem?_map, Array.getElem?_toList, hc] at hd
    cases hd
    exact ⟨rfl, strOk_at (okV_str h).1 (atI_nat (xs := z.cps.toList) (j := i) (by simpa using hc))⟩
theorem it_lst {ds : List D} {a : Addr} {vs : List V} (h : ∀ S' H, Same S S' → Same S' H → SqL K H a vs) (r : Reps K S as ds vs) : ItOk K S as ⟨ds, none⟩ (Itl K a) := by
  refine ⟨fun S' as' M H i e p st g hi => ?_, fun S' as' M H i e p st g hi => ?_, fun S' as' M H i d x H' e p st g hd y => ?_⟩
  · have hi' : i < vs.length := by rw [← r.length]; exact hi
    exact ⟨vs, vs[i], h S' H e st.ex, List.getElem?_eq_getElem hi'⟩
  · exact ⟨vs, h S' H e st.ex, by rw [← r.length]; exact hi⟩
  · obtain ⟨e1, e2⟩ := y
    subst e1
    refine ⟨S', Ext.refl _ _ _, st, ?_⟩
    obtain ⟨v, h1, h2⟩ := r.get hd
    have h3 := e2 vs (h S' _ e st.ex)
    rw [h1] at h3; cases h3
    exact Rep.mono e p _ _ h2
theorem it_tup {ds : List D} {a : Addr} {vs : List V} (h : ∀ S' H, Same S S' → Same S' H → SqT K H a vs) (r : Reps K S as ds vs) : ItOk K S as ⟨ds, none⟩ (Itt K a) := by
  refine ⟨fun S' as' M H i e p st g hi => ?_, fun S' as' M H i e p st g hi => ?_, fun S' as' M H i d x H' e p st g hd y => ?_⟩
  · have hi' : i < vs.length := by rw [← r.length]; exact hi
    exact ⟨vs, vs[i], h S' H e st.ex, List.getElem?_eq_getElem hi'⟩
  · exact ⟨vs, h S' H e st.ex, by rw [← r.length]; exact hi⟩
  · obtain ⟨e1, e2⟩ := y
    subst e1
    refine ⟨S', Ext.refl _ _ _, st, ?_⟩
    obtain ⟨v, h1, h2⟩ := r.get hd
    have h3 := e2 vs (h S' _ e st.ex)
    rw [h1] at h3; cases h3
    exact Rep.mono e p _ _ h2
theorem it_cell {ds : List D} {k : Nat} {a : Addr} (ha : as[k]? = some a) : ItOk K S as ⟨ds, some (k, ds)⟩ (Itl K a) := by
  refine ⟨fun S' as' M H i e p st g hi => ?_, fun S' as' M H i e p st g hi => ?_, fun S' as' M H i d x H' e p st g hd y => ?_⟩
  · obtain ⟨vs, h1, h2, _⟩ := cell_lst st g (p _ _ ha)
    have hi' : i < vs.length := by rw [← h2.length]; exact hi
    exact ⟨vs, vs[i], SqL.of h1, List.getElem?_eq_getElem hi'⟩
  · obtain ⟨vs, h1, h2, _⟩ := cell_lst st g (p _ _ ha)
    exact ⟨vs, SqL.of h1, by rw [← h2.length]; exact hi⟩
  · obtain ⟨e1, e2⟩ := y
    subst e1
    refine ⟨S', Ext.refl _ _ _, st, ?_⟩
    obtain ⟨vs, h1, h2, _⟩ := cell_lst st g (p _ _ ha)
    obtain ⟨v, h4, h5⟩ := h2.get hd
    have h3 := e2 vs (SqL.of h1)
    rw [h4] at h3; cases h3
    exact h5
end
section
variable {X : Cx} {W : WX} {pos : Pos} {tg a b e : Expr} {es : List Expr} {fa fb : Env → C D} {fs : Env → C (List D)}
/-- a list, a tuple, a text -/
theorem pid_seq (ha : PD X W e fa) : PId X W tg e (eIt fa) := ((pi_list ha).orr ((pi_tup ha).orr (pi_str ha))).up fun σ H Q h => by
  obtain ⟨S, as, M, ρ, st, env, fin⟩ := h
  cases e0 : fa ρ M with
  | er x M' =>
    refine .inl ⟨S, as, M, ρ, st, env, ?_⟩
    unfold eIt C.bind at fin
    simp only [e0] at fin
    rw [e0]
    exact fin
  | stuck =>
    unfold eIt C.bind at fin
    simp only [e0] at fin
    exact fin.elim
  | ok d M' =>
    unfold eIt C.bind gIt at fin
    simp only [e0] at fin
    have go : ∀ {R1 : VK}, (∀ S' as' v H', Ext S as H S' as' H' → St X.K S' as' M' H' → Rep X.K S' as' d v → R1 v H') → tD X.K W fa σ H R1 := fun {R1} k => ⟨S, as, M, ρ, st, env, by
      rw [e0]
      exact fun S' as' v H' e' s' r => k S' as' v H' e' s' r⟩
    cases d with
    | v z =>
      cases z with
      | str z =>
        refine .inr (.inr (go fun S' as' v H' e' s' r => ⟨z, r.1, ?_⟩))
        exact fin_it s' (it_str r.2) (fin.pre e')
      | _ => exact fin.elim
    | tup ds =>
      refine .inr (.inl (go fun S' as' v H' e' s' r => ?_))
      obtain ⟨a, vs, h1, h2, h3, h4⟩ := r
      refine ⟨a, h1, ⟨vs, Evl.ex_t s'.ex h2⟩, ?_⟩
      exact fin_it s' (it_tup (fun S2 H2 e e2 => Evl.ex_t e2 (Evl.ex_t e h2)) h3) (fin.pre e')
    | lst ds =>
      refine .inl (go fun S' as' v H' e' s' r => ?_)
      obtain ⟨a, vs, h1, h2, h3, h4⟩ := r
      refine ⟨a, h1, ⟨vs, SqL.of (s'.ex _ _ h2)⟩, ?_⟩
      exact fin_it s' (it_lst (fun S2 H2 e e2 => SqL.of (e2 _ _ (e _ _ h2))) h3) (fin.pre e')
    | ro ds =>
      refine .inl (go fun S' as' v H' e' s' r => ?_)
      obtain ⟨a, vs, h1, h2, h3, h4⟩ := r
      refine ⟨a, h1, ⟨vs, Evl.ex_l s'.ex h2⟩, ?_⟩
      exact fin_it s' (it_lst (fun S2 H2 e e2 => Evl.ex_l e2 (Evl.ex_l e h2)) h3) (fin.pre e')
    | h k =>
      refine .inl (go fun S' as' v H' e' s' r => ?_)
      obtain ⟨a, h1, h2⟩ := r
      simp only [itOf] at fin
      cases ec : M'[k]? with
      | none => simp only [ec] at fin; exact fin.elim
      | some c =>
        cases c with
        | lst ds =>
          simp only [ec] at fin
          obtain ⟨vs, h3, h4, _⟩ := cell_lst s' ec h1
          exact ⟨a, h2, ⟨vs, SqL.of h3⟩, fin_it s' (it_cell h1) (fin.pre e')⟩
        | _ => simp only [ec] at fin; exact fin.elim
    | ins _ _ _ => exact fin.elim
    | dK _ _ => exact fin.elim
    | dT _ _ => exact fin.elim
    | cl _ => exact fin.elim
/-- range -/
def rangeD (lo : Int) (n : Nat) : List D := (List.range n).map fun (i : Nat) => .v (.int (lo + (i : Int)))
def gRange1 : List D → C ItS := fun xs M => match xs with
  | [.v (.int j)] => if -(2 ^ 62) ≤ j ∧ j < 2 ^ 62 then .ok ⟨rangeD 0 j.toNat, none⟩ M else .stuck
  | _ => .stuck
def gRange2 : List D → C ItS := fun xs M => match xs with
  | [.v (.int i), .v (.int j)] => if -(2 ^ 62) ≤ i ∧ i < 2 ^ 62 ∧ -(2 ^ 62) ≤ j ∧ j < 2 ^ 62 then .ok ⟨rangeD i (j - i).toNat, none⟩ M else .stuck
  | _ => .stuck
def eRange1 (fs : Env → C (List D)) : Env → C ItS := fun ρ => (fs ρ).bind gRange1
def eRange2 (fs : Env → C (List D)) : Env → C ItS := fun ρ => (fs ρ).bind gRange2
theorem it_range {K : PySem.W.Frag} {S : Hp} {as : List Addr} (lo : Int) (n : Nat) : ItOk K S as ⟨rangeD lo n, none⟩ (Itr lo n) := by
  have hl : (rangeD lo n).length = n := by unfold rangeD; simp
  refine ⟨fun S' as' M H i e p st g hi => ?_, fun S' as' M H i e p st g hi => ?_, fun S' as' M H i d x H' e p st g hd y => ?_⟩
  · show i < n; simp only [hl] at hi; exact hi
  · show n ≤ i; simp only [hl] at hi; exact hi
  · obtain ⟨e1, e2⟩ := y
    subst e1 e2
    refine ⟨S', Ext.refl _ _ _, st, ?_⟩
    unfold rangeD at hd
    have hi : i < n := by
      have := (List.getElem?_eq_some_iff.mp hd).1
      simpa using this
    simp only [List.getElem?_map, List.getElem?_range hi] at hd
    cases hd
    exact ⟨rfl, rfl⟩
theorem reps1 {K : PySem.W.Frag} {S : Hp} {as : List Addr} {d : D} {vs : List V} (r : Reps K S as [d] vs) : ∃ v, vs = [v] ∧ Rep K S as d v := by
  obtain ⟨v, r', e, h, h2⟩ := r
  have h2 : r' = [] := h2
  subst h2
  exact ⟨v, e, h⟩
theorem reps2 {K : PySem.W.Frag} {S : Hp} {as : List Addr} {d d' : D} {vs : List V} (r : Reps K S as [d, d'] vs) : ∃ v v', vs = [v, v'] ∧ Rep K S as d v ∧ Rep K S as d' v' := by
  obtain ⟨v, r', e, h, h2⟩ := r
  obtain ⟨v', e', h'⟩ := reps1 h2
  subst e'
  exact ⟨v, v', e, h, h'⟩
theorem pid_range1 {p : Pos} (hm : X.mg "range" = none) (ha : PDs X W [a] fs) (hg : Gl X "range" := by rfl) (hs : starEach [a] X.env = [(false, eval a X.env)] := by rfl) : PId X W tg (.Call (.Name "range" p) [a] [] pos) (eRange1 fs) := (pi_range1 hg hm ha hs).up fun σ H Q h => by
  obtain ⟨S, as, M, ρ, st, env, fin⟩ := h
  refine ⟨S, as, M, ρ, st, env, Fin.bind (g := gRange1) fin env fun S1 as1 M1 xs vs H1 e1 st1 env1 rx fin1 => ?_⟩
  unfold gRange1 at fin1
  split at fin1
  · rename_i j
    split at fin1
    · rename_i hj
      obtain ⟨v, e2, r1⟩ := reps1 rx
      obtain ⟨r1, _⟩ := r1
      subst r1
      exact ⟨j, e2, hj.1, hj.2, fin_it st1 (it_range 0 _) fin1⟩
    · exact fin1.elim
  · exact fin1.elim
theorem pid_range2 {p : Pos} (hm : X.mg "range" = none) (ha : PDs X W [a, b] fs) (hg : Gl X "range" := by rfl) (hs : starEach [a, b] X.env = [(false, eval a X.env), (false, eval b X.env)] := by rfl) (hs2 : starEach [b] X.env = [(false, eval b X.env)] := by rfl) : PId X W tg (.Call (.Name "range" p) [a, b] [] pos) (eRange2 fs) := (pi_range2 hg hm ha hs hs2).up fun σ H Q h => by
  obtain ⟨S, as, M, ρ, st, env, fin⟩ := h
  refine ⟨S, as, M, ρ, st, env, Fin.bind (g := gRange2) fin env fun S1 as1 M1 xs vs H1 e1 st1 env1 rx fin1 => ?_⟩
  unfold gRange2 at fin1
  split at fin1
  · rename_i i j
    split at fin1
    · rename_i hj
      obtain ⟨v, v', e2, r1, r2⟩ := reps2 rx
      obtain ⟨r1, _⟩ := r1
      obtain ⟨r2, _⟩ := r2
      subst r1 r2
      exact ⟨i, j, e2, hj, fin_it st1 (it_range i _) fin1⟩
    · exact fin1.elim
  · exact fin1.elim
def grd (x : D) (ds : List D) : Option (Nat × List D) := match x with
  | .h k => some (k, ds)
  | _ => none
/-- enumerate of a list -/
def enumD (ds : List D) : List D := ds.zipIdx.map fun p => .tup [.v (.int (p.2 : Int)), p.1]
def gEnum : List D → C ItS := fun xs M => match xs with
  | [x] => match lstOf M x with
    | some ds => .ok ⟨enumD ds, grd x ds⟩ M
    | none => .stuck
  | _ => .stuck
def eEnum (fs : Env → C (List D)) : Env → C ItS := fun ρ => (fs ρ).bind gEnum
/-- the list that stands at a, through all later states -/
def Stands (K : PySem.W.Frag) (S : Hp) (as : List Addr) (g : Option (Nat × List D)) (ds : List D) (a : Addr) : Prop :=
  ∀ S' as' M H, Same S S' → Pre as as' → St K S' as' M H → gOk g M → ∃ vs, SqL K H a vs ∧ Reps K S' as' ds vs
theorem it_enum {K : PySem.W.Frag} {S : Hp} {as : List Addr} {ds : List D} {a : Addr} {g : Option (Nat × List D)} (h : Stands K S as g ds a) : ItOk K S as ⟨enumD ds, g⟩ (Ite K a) := by
  have hl : (enumD ds).length = ds.length := by unfold enumD; simp
  refine ⟨fun S' as' M H i e p st g hi => ?_, fun S' as' M H i e p st g hi => ?_, fun S' as' M H i d x H' e p st g hd y => ?_⟩
  · obtain ⟨vs, h1, h2⟩ := h S' as' M H e p st g
    simp only [hl] at hi
    have hi' : i < vs.length := by rw [← h2.length]; exact hi
    exact ⟨vs, vs[i], h1, List.getElem?_eq_getElem hi'⟩
  · obtain ⟨vs, h1, h2⟩ := h S' as' M H e p st g
    simp only [hl] at hi
    exact ⟨vs, h1, by rw [← h2.length]; exact hi⟩
  · obtain ⟨vs, h1, h2⟩ := h S' as' M H e p st g
    obtain ⟨T, z, e1, n, e2, k⟩ := y
    subst e1 e2
    have hi : i < ds.length := by
      have := (List.getElem?_eq_some_iff.mp hd).1
      simpa [hl] using this
    unfold enumD at hd
    simp only [List.getElem?_map, List.getElem?_zipIdx, List.getElem?_eq_getElem hi] at hd
    have hd := Option.some.inj hd
    subst hd
    obtain ⟨v, h4, h5⟩ := h2.get (List.getElem?_eq_getElem hi)
    have h3 := k vs h1
    rw [h4] at h3; cases h3
    refine ⟨upd S' T _, Ext.frozen st n, st.frozen n, T, [.int (i : Nat), z], rfl, SqT.of upd_same, ?_, by show 2 ≤ sizeLine; rw [sizeLine_eq]; decide⟩
    exact Reps.cons ⟨by simp, rfl⟩ (Reps.cons (Rep.mono (Evl.Ex.new (st.sfree n)) (Pre.refl _) _ _ h5) Reps.nil)
theorem stands_of {K : PySem.W.Frag} {S : Hp} {as : List Addr} {M : Mem} {H : Hp} {x : D} {v : V} {ds : List D} (st : St K S as M H) (r : Rep K S as x v) (h : lstOf M x = some ds) : ∃ a vs, v = .ref a ∧ SqL K H a vs ∧ Reps K S as ds vs ∧ Stands K S as (grd x ds) ds a := by
  cases x with
  | lst es =>
    cases h
    obtain ⟨a, vs, h1, h2, h3, h4⟩ := r
    exact ⟨a, vs, h1, SqL.of (st.ex _ _ h2), h3, fun S' as' M H e p st' _ => ⟨vs, SqL.of (st'.ex _ _ (e _ _ h2)), Reps.mono e p _ _ h3⟩⟩
  | ro es =>
    cases h
    obtain ⟨a, vs, h1, h2, h3, h4⟩ := r
    exact ⟨a, vs, h1, Evl.ex_l st.ex h2, h3, fun S' as' M H e p st' _ => ⟨vs, Evl.ex_l st'.ex (Evl.ex_l e h2), Reps.mono e p _ _ h3⟩⟩
  | h k =>
    obtain ⟨a, h1, h2⟩ := r
    unfold lstOf at h
    cases ec : M[k]? with
    | none => simp [ec] at h
    | some c =>
      cases c with
      | lst es =>
        simp only [ec] at h
        cases h
        obtain ⟨vs, h3, h4, _⟩ := cell_lst st ec h1
        exact ⟨a, vs, h2, SqL.of h3, h4, fun S' as' M' H' e p st' g => by
          obtain ⟨vs', h5, h6, _⟩ := cell_lst st' g (p _ _ h1)
          exact ⟨vs', SqL.of h5, h6⟩⟩
      | _ => simp [ec] at h
  | _ => cases h
theorem pid_enum {p tpos : Pos} {elts : List Expr} {kk : Nat} (hm : X.mg "enumerate" = none) (ha : PDs X W [a] fs) (hg : Gl X "enumerate" := by rfl) (hs : starEach [a] X.env = [(false, eval a X.env)] := by rfl) : PId X W (.Tuple elts kk tpos) (.Call (.Name "enumerate" p) [a] [] pos) (eEnum fs) := (pi_enum hg hm ha hs).up fun σ H Q h => by
  obtain ⟨S, as, M, ρ, st, env, fin⟩ := h
  refine ⟨S, as, M, ρ, st, env, Fin.bind (g := gEnum) fin env fun S1 as1 M1 xs vs H1 e1 st1 env1 rx fin1 => ?_⟩
  unfold gEnum at fin1
  split at fin1
  · rename_i x
    obtain ⟨v, e2, r1⟩ := reps1 rx
    split at fin1
    · rename_i ds hd
      obtain ⟨a, us, h1, h2, h3, h4⟩ := stands_of st1 r1 hd
      subst h1
      exact ⟨a, us, e2, h2, fin_it st1 (it_enum h4) fin1⟩
    · exact fin1.elim
  · exact fin1.elim
/-- reversed of a list -/
def gRev : List D → C ItS := fun xs M => match xs with
  | [x] => match lstOf M x with
    | some ds => .ok ⟨ds.reverse, grd x ds⟩ M
    | none => .stuck
  | _ => .stuck
def eRev (fs : Env → C (List D)) : Env → C ItS := fun ρ => (fs ρ).bind gRev
theorem it_rev {K : PySem.W.Frag} {S : Hp} {as : List Addr} {ds : List D} {a : Addr} {g : Option (Nat × List D)} (h : Stands K S as g ds a) : ItOk K S as ⟨ds.reverse, g⟩ (Itv K a ds.length) := by
  refine ⟨fun S' as' M H i e p st g hi => ?_, fun S' as' M H i e p st g hi => ?_, fun S' as' M H i d x H' e p st g hd y => ?_⟩
  · obtain ⟨vs, h1, h2⟩ := h S' as' M H e p st g
    simp only [List.length_reverse] at hi
    have hl := h2.length
    have hi' : ds.length - 1 - i < vs.length := by omega
    exact ⟨hi, vs, vs[ds.length - 1 - i], h1, List.getElem?_eq_getElem hi'⟩
  · simp only [List.length_reverse] at hi
    exact hi
  · obtain ⟨vs, h1, h2⟩ := h S' as' M H e p st g
    obtain ⟨e1, k⟩ := y
    subst e1
    refine ⟨S', Ext.refl _ _ _, st, ?_⟩
    have hi : i < ds.length := by
      have := (List.getElem?_eq_some_iff.mp hd).1
      simpa using this
    have hd2 : ds[ds.length - 1 - i]? = some d := by
      rw [List.getElem?_reverse (by simpa using hi)] at hd
      exact hd
    obtain ⟨v, h4, h5⟩ := h2.get hd2
    have h3 := k vs h1
    rw [h4] at h3; cases h3
    exact h5
theorem pid_rev {p : Pos} (hm : X.mg "reversed" = none) (ha : PDs X W [a] fs) (hg : Gl X "reversed" := by rfl) (hs : starEach [a] X.env = [(false, eval a X.env)] := by rfl) : PId X W tg (.Call (.Name "reversed" p) [a] [] pos) (eRev fs) := (pi_reversed hg hm ha hs).up fun σ H Q h => by
  obtain ⟨S, as, M, ρ, st, env, fin⟩ := h
  refine ⟨S, as, M, ρ, st, env, Fin.bind (g := gRev) fin env fun S1 as1 M1 xs vs H1 e1 st1 env1 rx fin1 => ?_⟩
  unfold gRev at fin1
  split at fin1
  · rename_i x
    obtain ⟨v, e2, r1⟩ := reps1 rx
    split at fin1
    · rename_i ds hd
      obtain ⟨a, us, h1, h2, h3, h4⟩ := stands_of st1 r1 hd
      subst h1
      refine ⟨a, us, e2, h2, ?_⟩
      rw [← h3.length]
      exact fin_it st1 (it_rev h4) fin1
    · exact fin1.elim
  · exact fin1.elim
end

/-! ### for -/
open Classical in
noncomputable def forL (g : Option (Nat × List D)) (t : Tg) (body : Cs) : List D → Env → Mem → SOut
  | [], ρ, M => if gOk g M then .nx ρ M else .stuck
  | d :: ds, ρ, M => if gOk g M then (match t.run d ρ with
    | none => .stuck
    | some ρ1 => match body ρ1 M with
      | .nx ρ2 M2 => forL g t body ds ρ2 M2
      | .ct ρ2 M2 => forL g t body ds ρ2 M2
      | .bk ρ2 M2 => .nx ρ2 M2
      | o => o) else .stuck
noncomputable def sFor (fi : Env → C ItS) (t : Tg) (body : Cs) : Cs := fun ρ => sE (fi ρ) ρ fun I M => forL I.g t body I.ds ρ M
section
variable {X : Cx} {W : WX} {pos : Pos} {tg iter e : Expr} {body : List Stmt} {f : Cs} {fi : Env → C ItS} {t : Tg}
theorem sd_for (hp : PassesOwn (model X.prog X.w) X.A X.env X.xe) (hc : X.calm = true) (hi : PId X W tg iter fi) (hg : PGd X tg t) (hb : SDs X W body f) (hs : ∀ x, foldedSetIterable iter X.env x = pure x := by intro _; rfl) : SD X W (.For tg iter body [] pos) (sFor fi t f) :=
  (ps_for hp hc hi hg hb hs).up fun De σ H h => by
    obtain ⟨S, as, M, ρ, st, env, fin⟩ := h
    refine ⟨S, as, M, ρ, st, env, FinS.bindE (g := fun (I : ItS) M => forL I.g t f I.ds ρ M) fin env fun S1 as1 M1 I J H1 e1 st1 env1 ok fin1 => ?_⟩
    refine ⟨fun i m σ' H' => m + i = I.ds.length ∧ ∃ S' as' M' ρ', Same S1 S' ∧ Pre as1 as' ∧ St X.K S' as' M' H' ∧ EnvOk X.K S' as' σ' ρ' ∧ FinS X.K S' as' H' W (forL I.g t f (I.ds.drop i) ρ' M') De,
      ⟨I.ds.length, by simp, S1, as1, M1, ρ, Same.refl _, Pre.refl _, st1, env1, fin1⟩, ?_⟩
    rintro i m σ' H' ⟨hm, S', as', M', ρ', e', p', st', env', fin'⟩
    by_cases hi : i < I.ds.length
    · have hd : I.ds.drop i = I.ds[i] :: I.ds.drop (i + 1) := List.drop_eq_getElem_cons hi
      rw [hd] at fin'
      unfold forL at fin'
      split at fin'
      · rename_i hgk
        refine .inr ⟨ok.go S' as' M' H' i e' p' st' hgk hi, fun σ2 H2 => ∃ S2 as2 M2 ρ2, Same S1 S2 ∧ Pre as1 as2 ∧ St X.K S2 as2 M2 H2 ∧ EnvOk X.K S2 as2 σ2 ρ2 ∧ FinS X.K S2 as2 H2 W (forL I.g t f (I.ds.drop (i + 1)) ρ2 M2) De, fun σ2 H2 q => ⟨m - 1, by omega, by omega, q⟩, fun x H2 hy => ?_⟩
        obtain ⟨S2, x2, st2, rx⟩ := ok.yld S' as' M' H' i I.ds[i] x H2 e' p' st' hgk (List.getElem?_eq_getElem hi) hy
        split at fin'
        · exact fin'.elim
        · rename_i ρ1 hr
          refine Tg.ok t.slots st2.ex t _ x σ' ρ' ρ1 _ rx (env'.mono x2.same x2.pre) hr (fun _ h => h) fun σ3 env3 _ => ?_
          refine ⟨S2, as', M', ρ1, st2, env3, ?_⟩
          have fin2 := fin'.pre x2
          cases eb : f ρ1 M' with
          | nx ρ2 M2 =>
            simp only [eb] at fin2
            intro S3 as3 σ4 H4 e4 st4 env4
            exact ⟨S3, as3, M2, ρ2, e'.trans (x2.same.trans e4.same), p'.trans (x2.pre.trans e4.pre), st4, env4, fin2.pre e4⟩
          | ct ρ2 M2 =>
            simp only [eb] at fin2
            intro S3 as3 σ4 H4 e4 st4 env4
            exact ⟨S3, as3, M2, ρ2, e'.trans (x2.same.trans e4.same), p'.trans (x2.pre.trans e4.pre), st4, env4, fin2.pre e4⟩
          | bk ρ2 M2 => simp only [eb] at fin2; exact fin2
          | rt d M2 => simp only [eb] at fin2; exact fin2
          | er y ρ2 M2 => simp only [eb] at fin2; exact fin2
          | stuck => simp only [eb] at fin2; exact fin2.elim
      · exact fin'.elim
    · have hd : I.ds.drop i = [] := List.drop_eq_nil_of_le (by omega)
      rw [hd] at fin'
      unfold forL at fin'
      split at fin'
      · rename_i hgk
        exact .inl ⟨ok.stop S' as' M' H' i e' p' st' hgk (by omega), fin_nx st' env' fin'⟩
      · exact fin'.elim
end
/-! ### while -/
def whileN (c : Env → C Bool) (body : Cs) : Nat → Env → Mem → SOut
  | 0, _, _ => .stuck
  | n + 1, ρ, M => sE (c ρ) ρ (fun b M1 => if b = true then (match body ρ M1 with
      | .nx ρ2 M2 => whileN c body n ρ2 M2
      | .ct ρ2 M2 => whileN c body n ρ2 M2
      | .bk ρ2 M2 => .nx ρ2 M2
      | o => o) else .nx ρ M1) M
/-- the loop, given enough turns -/
def sWhile (n : Env → Mem → Nat) (c : Env → C Bool) (body : Cs) : Cs := fun ρ M => whileN c body (n ρ M) ρ M
section
variable {X : Cx} {W : WX} {pos : Pos} {e : Expr} {body : List Stmt} {f : Cs} {bc : Env → C Bool}
theorem sd_while (n : Env → Mem → Nat) (hp : PassesOwn (model X.prog X.w) X.A X.env X.xe) (hc : PDb X W e bc) (hb : SDs X W body f) : SD X W (.While e body [] pos) (sWhile n bc f) := (ps_while hp hc hb).up fun De σ H h => by
  obtain ⟨S, as, M, ρ, st, env, fin⟩ := h
  refine ⟨fun m σ' H' => ∃ S' as' M' ρ', St X.K S' as' M' H' ∧ EnvOk X.K S' as' σ' ρ' ∧ FinS X.K S' as' H' W (whileN bc f m ρ' M') De, ⟨n ρ M, S, as, M, ρ, st, env, fin⟩, ?_⟩
  rintro m σ' H' ⟨S', as', M', ρ', st', env', fin'⟩
  cases m with
  | zero => exact fin'.elim
  | succ m =>
    unfold whileN at fin'
    refine ⟨S', as', M', ρ', st', env', FinS.bindE (R := EqR) fin' env' fun S1 as1 M1 b v H1 e1 st1 env1 rx fin1 => ?_⟩
    have rx : b = v := rx
    subst rx
    cases b with
    | false => rw [if_neg Bool.false_ne_true] at fin1 ⊢; exact fin_nx st1 env1 fin1
    | true =>
      rw [if_pos rfl] at fin1 ⊢
      refine ⟨fun σ2 H2 => ∃ S2 as2 M2 ρ2, St X.K S2 as2 M2 H2 ∧ EnvOk X.K S2 as2 σ2 ρ2 ∧ FinS X.K S2 as2 H2 W (whileN bc f m ρ2 M2) De, fun σ2 H2 q => ⟨m, by omega, q⟩, S1, as1, M1, ρ', st1, env1, ?_⟩
      cases eb : f ρ' M1 with
      | nx ρ2 M2 =>
        simp only [eb] at fin1
        exact fun S3 as3 σ4 H4 e4 st4 env4 => ⟨S3, as3, M2, ρ2, st4, env4, fin1.pre e4⟩
      | ct ρ2 M2 =>
        simp only [eb] at fin1
        exact fun S3 as3 σ4 H4 e4 st4 env4 => ⟨S3, as3, M2, ρ2, st4, env4, fin1.pre e4⟩
      | bk ρ2 M2 => simp only [eb] at fin1; exact fin1
      | rt d M2 => simp only [eb] at fin1; exact fin1
      | er y ρ2 M2 => simp only [eb] at fin1; exact fin1
      | stuck => simp only [eb] at fin1; exact fin1.elim
end
end DL
set_option Elab.async false
set_option maxRecDepth 100000
set_option maxHeartbeats 2000000
namespace DL
open PySem PySem.Spec PyProof.Rows L2

/-! ### list comprehensions -/
def W0 : WX := fun _ _ _ _ => False
def wipeD (ρ : Env) : List Nat → Env
  | [] => ρ
  | v :: vs => (wipeD ρ vs).set v none
theorem EnvOk.unset {K : PySem.W.Frag} {S : Hp} {as : List Addr} {σ : L2.St} {ρ : Env} {i : Nat} (h : EnvOk K S as σ ρ) : EnvOk K S as (σ.set i none) (ρ.set i none) := by
  refine ⟨by simp [h.1], fun j d q => ?_⟩
  by_cases hj : j = i
  · subst hj
    have hl : j < ρ.length := by
      have := (List.getElem?_eq_some_iff.mp q).1
      simpa using this
    rw [List.getElem?_set_self hl] at q
    cases q
  · rw [List.getElem?_set_ne (Ne.symm hj)] at q
    obtain ⟨u, h1, h2⟩ := h.2 j d q
    exact ⟨u, by rw [List.getElem?_set_ne (Ne.symm hj)]; exact h1, h2⟩
theorem EnvOk.wipe {K : PySem.W.Frag} {S : Hp} {as : List Addr} {σ : L2.St} {ρ : Env} (h : EnvOk K S as σ ρ) : ∀ vs : List Nat, EnvOk K S as (wipe σ vs) (wipeD ρ vs)
  | [] => h
  | v :: vs => by
    unfold L2.wipe wipeD
    exact (h.wipe vs).unset
open Classical in
noncomputable def lcL (g : Option (Nat × List D)) (t : Tg) (test : Env → C Bool) (elt : Env → C D) : List D → List D → Env → Mem → Out (List D)
  | [], acc, _, M => if gOk g M then .ok acc M else .stuck
  | d :: ds, acc, ρ, M => if gOk g M then (match t.run d ρ with
    | none => .stuck
    | some ρ1 => match test ρ1 M with
      | .ok true M1 => (match elt ρ1 M1 with
        | .ok y M2 => lcL g t test elt ds (acc ++ [y]) ρ M2
        | _ => .stuck)
      | .ok false M1 => lcL g t test elt ds acc ρ M1
      | _ => .stuck) else .stuck
/-- mk: what becomes of the items -/
noncomputable def eLcG (mk : List D → Mem → Out D) (fi : Env → C ItS) (t : Tg) (test : Env → C Bool) (elt : Env → C D) (vs : List Nat) : Env → C D := fun ρ => (fi ρ).bind fun I M => if I.ds.length ≤ 16777216 then (match lcL I.g t test elt I.ds [] (wipeD ρ vs) M with
  | .ok acc M' => mk acc M'
  | _ => .stuck) else .stuck
def mkV : List D → Mem → Out D := fun acc M => .ok (.lst acc) M
def mkH : List D → Mem → Out D := fun acc M => .ok (.h M.length) (M ++ [.lst acc])
def bYes : Env → C Bool := fun _ => C.ret true
abbrev PDbs (X : Cx) (W : WX) (ifs : List Expr) (f : Env → C Bool) : Prop := PTs X ifs (tDb X.K W f)
section
variable {K : PySem.W.Frag} {S : Hp} {as : List Addr} {M : Mem} {H : Hp} {p : Addr}
/-- an object outside is changed -/
theorem St.off {ho : HO} (st : St K S as M H) (n1 : p ∉ as) (n2 : S p = none) : St K S as M (upd H p ho) := by
  refine ⟨fun b o e => ?_, st.len, st.nd, fun k c a h1 h2 => ?_⟩
  · rw [upd_ne (ne_of_none e n2)]; exact st.ex b o e
  · obtain ⟨s0, o, e, r⟩ := st.cell k c a h1 h2
    have ha : a ≠ p := fun z => n1 (z ▸ List.mem_of_getElem? h2)
    exact ⟨s0, o, by rw [upd_ne ha]; exact e, r⟩
theorem Ext.off {S' H' : Hp} {as' : List Addr} {ho : HO} (x : Ext S as H S' as' H') (n : H p = none) : Ext S as H S' as' (upd H' p ho) :=
  ⟨x.same, x.pre, fun a o h na => by
    obtain ⟨h1, h2, h3⟩ := x.fr a o h na
    exact ⟨by rw [upd_ne (ne_of_none h n)]; exact h1, h2, h3⟩⟩
/-- an object outside becomes a value, a cell -/
theorem St.take {ho : HO} (st : St K S as M H) (n1 : p ∉ as) (n2 : S p = none) (h : H p = some ho) : St K (upd S p ho) as M H := by
  refine ⟨fun b o e => ?_, st.len, st.nd, fun k c a h1 h2 => ?_⟩
  · by_cases hb : b = p
    · subst hb; rw [upd_same] at e; cases e; exact h
    · rw [upd_ne hb] at e; exact st.ex b o e
  · obtain ⟨s0, o, e, r⟩ := st.cell k c a h1 h2
    have ha : a ≠ p := fun z => n1 (z ▸ List.mem_of_getElem? h2)
    exact ⟨by rw [upd_ne ha]; exact s0, o, e, r.mono fun ds vs h => Reps.mono (Evl.Ex.new n2) (Pre.refl _) ds vs h⟩
theorem Ext.take {S' H' : Hp} {as' : List Addr} {ho : HO} (x : Ext S as H S' as' H') (n : H p = none) (n2 : S' p = none) : Ext S as H (upd S' p ho) as' H' :=
  ⟨x.same.trans (Evl.Ex.new n2), x.pre, fun a o h na => by
    obtain ⟨h1, h2, h3⟩ := x.fr a o h na
    exact ⟨h1, h2, fun z => by rw [upd_ne (ne_of_none h n)]; exact h3 z⟩⟩
theorem St.adopt {ho : HO} {c : D} (st : St K S as M H) (n1 : p ∉ as) (n2 : S p = none) (h : H p = some ho) (r : ObjR K (Reps K S as) c ho) : St K S (as ++ [p]) (M ++ [c]) H := by
  refine ⟨st.ex, by simp [st.len], ?_, fun k c' a h1 h2 => ?_⟩
  · rw [List.nodup_append]
    refine ⟨st.nd, by simp, fun a ha b hb => ?_⟩
    have : b = p := by simpa using hb
    subst this
    rintro rfl
    exact n1 ha
  · by_cases hk : k < M.length
    · rw [List.getElem?_append_left hk] at h1
      rw [List.getElem?_append_left (by rw [st.len]; exact hk)] at h2
      obtain ⟨s0, o, e, r'⟩ := st.cell k c' a h1 h2
      exact ⟨s0, o, e, r'.mono fun ds vs h => Reps.mono (Same.refl _) (Pre.app _ _) ds vs h⟩
    · have hk' : k = M.length := by
        have := (List.getElem?_eq_some_iff.mp h1).1
        simp at this; omega
      subst hk'
      rw [List.getElem?_concat_length] at h1
      rw [← st.len, List.getElem?_concat_length] at h2
      cases h1; cases h2
      exact ⟨n2, ho, h, r.mono fun ds vs h => Reps.mono (Same.refl _) (Pre.app _ _) ds vs h⟩
theorem Ext.adopt {S' H' : Hp} {as' : List Addr} (x : Ext S as H S' as' H') (n : H p = none) : Ext S as H S' (as' ++ [p]) H' :=
  ⟨x.same, x.pre.trans (Pre.app _ _), fun a o h na => by
    obtain ⟨h1, h2, h3⟩ := x.fr a o h na
    exact ⟨h1, by simp [h2, ne_of_none h n], h3⟩⟩
end
/-- mk may be done with the list that stands at p -/
def MkOk (K : PySem.W.Frag) (mk : List D → Mem → Out D) : Prop := ∀ S as H S' as' H' W σ ρ M acc vs p Q, Ext S as H S' as' H' → St K S' as' M H' → H p = none → p ∉ as' → S' p = none → H' p = some (.lst vs) → Reps K S' as' acc vs → acc.length ≤ sizeLine →
  Fin (RepR K) K S as H W σ ρ (mk acc M) Q → Q (.ref p) H'
theorem mkV_ok {K : PySem.W.Frag} : MkOk K mkV := fun S as H S' as' H' W σ ρ M acc vs p Q x st n n1 n2 hp r hl fin =>
  fin (upd S' p (.lst vs)) as' (.ref p) H' (x.take n n2) (st.take n1 n2 hp) ⟨p, vs, rfl, upd_same, Reps.mono (Evl.Ex.new n2) (Pre.refl _) _ _ r, hl⟩
theorem mkH_ok {K : PySem.W.Frag} : MkOk K mkH := fun S as H S' as' H' W σ ρ M acc vs p Q x st n n1 n2 hp r hl fin =>
  fin S' (as' ++ [p]) (.ref p) H' (x.adopt n) (st.adopt n1 n2 hp ⟨r, hl⟩) ⟨p, by rw [← st.len]; simp, rfl⟩
section
variable {X : Cx} {W : WX} {pos : Pos} {tg iter elt : Expr} {ifs : List Expr} {fi : Env → C ItS} {t : Tg} {test : Env → C Bool} {fe : Env → C D}
theorem pdbs_nil : PDbs X W [] bYes := ⟨fun pins s σ H Q I h => pts_nil.run pins s σ H Q I (by
  obtain ⟨S, as, M, ρ, st, env, fin⟩ := h
  exact fin_okb st fin)⟩
theorem pdbs_one {c : Expr} (h : PDb X W c test) : PDbs X W [c] test := pts_one h
theorem lc_of {mk : List D → Mem → Out D} (hmk : MkOk X.K mk) {vs : List Nat} {σ : L2.St} {H : Hp} {Q : VK} (hv : ∀ i ∈ t.slots, i ∈ vs) (h : tD X.K W (eLcG mk fi t test fe vs) σ H Q) : tLc (tI X.K W fi) (t.tg X.K) (tDb X.K W0 test) (tD X.K W0 fe) vs σ H Q := by
  obtain ⟨S, as, M, ρ, st, env, fin⟩ := h
  have lq := line_eq
  refine ⟨S, as, M, ρ, st, env, Fin.bind (g := fun (I : ItS) M => if I.ds.length ≤ 16777216 then (match lcL I.g t test fe I.ds [] (wipeD ρ vs) M with
    | .ok acc M' => mk acc M'
    | _ => .stuck) else .stuck) fin env fun S1 as1 M1 I J H1 e1 st1 env1 ok fin1 => ?_⟩
  intro Dp nD
  split at fin1
  · rename_i hlim
    cases el : lcL I.g t test fe I.ds [] (wipeD ρ vs) M1 with
    | er x M' => simp only [el] at fin1; exact fin1.elim
    | stuck => simp only [el] at fin1; exact fin1.elim
    | ok accF MF =>
      simp only [el] at fin1
      refine ⟨fun i m H' => m + i = I.ds.length ∧ ∃ S' as' M' acc us, Ext S1 as1 H1 S' as' H' ∧ St X.K S' as' M' H' ∧ H' Dp = some (.lst us) ∧ Dp ∉ as' ∧ S' Dp = none ∧ Reps X.K S' as' acc us ∧ acc.length ≤ i ∧ lcL I.g t test fe (I.ds.drop i) acc (wipeD ρ vs) M' = .ok accF MF,
        ⟨I.ds.length, by simp, S1, as1, M1, [], [], (Ext.refl _ _ _).off nD, st1.off (st1.notin nD) (st1.sfree nD), upd_same, st1.notin nD, st1.sfree nD, Reps.nil, by simp, el⟩, ?_⟩
      rintro i m H' ⟨hm, S', as', M', acc, us, x', st', hD, nD1, nD2, r', hacc, heq⟩
      by_cases hi : i < I.ds.length
      · have hd : I.ds.drop i = I.ds[i] :: I.ds.drop (i + 1) := List.drop_eq_getElem_cons hi
        rw [hd] at heq
        unfold lcL at heq
        split at heq
        · rename_i hgk
          refine .inr ⟨ok.go S' as' M' H' i x'.same x'.pre st' hgk hi, fun H2 => ∃ S2 as2 M2 acc2 us2, Ext S1 as1 H1 S2 as2 H2 ∧ St X.K S2 as2 M2 H2 ∧ H2 Dp = some (.lst us2) ∧ Dp ∉ as2 ∧ S2 Dp = none ∧ Reps X.K S2 as2 acc2 us2 ∧ acc2.length ≤ i + 1 ∧ lcL I.g t test fe (I.ds.drop (i + 1)) acc2 (wipeD ρ vs) M2 = .ok accF MF, fun H2 q => ⟨m - 1, by omega, by omega, q⟩, fun x H2 hy => ?_⟩
          obtain ⟨S2, x2, st2, rx⟩ := ok.yld S' as' M' H' i I.ds[i] x H2 x'.same x'.pre st' hgk (List.getElem?_eq_getElem hi) hy
          split at heq
          · cases heq
          · rename_i ρ1 hr
            have env2 : EnvOk X.K S2 as' (wipe σ vs) (wipeD ρ vs) := (env1.wipe vs).mono (x'.same.trans x2.same) x'.pre
            refine Tg.ok vs st2.ex t _ x _ _ ρ1 _ rx env2 hr hv fun σ3 env3 w3 => ?_
            refine ⟨by
              have : wipe (wipe σ vs) vs = wipe σ vs := wipe_wipe σ vs
              rw [w3, this], ?_⟩
            have hD2 := x2.fr Dp _ hD nD1
            cases et : test ρ1 M' with
            | er y M3 => simp only [et] at heq; cases heq
            | stuck => simp only [et] at heq; cases heq
            | ok b M3 =>
              refine ⟨S2, as', M', ρ1, st2, env3, ?_⟩
              rw [et]
              intro S4 as4 b4 H4 e4 st4 eb
              have eb : b = b4 := eb
              subst eb
              have hD4 := e4.fr Dp _ hD2.1 hD2.2.1
              cases b with
              | false =>
                simp only [et] at heq
                rw [if_neg Bool.false_ne_true]
                exact ⟨S4, as4, M3, acc, us, x'.trans (x2.trans e4), st4, hD4.1, hD4.2.1, hD4.2.2 (hD2.2.2 nD2), Reps.mono (x2.same.trans e4.same) e4.pre _ _ r', by omega, heq⟩
              | true =>
                simp only [et] at heq
                rw [if_pos rfl]
                refine ⟨S4, as4, M3, ρ1, st4, env3.mono e4.same e4.pre, ?_⟩
                cases ee : fe ρ1 M3 with
                | er y M5 => simp only [ee] at heq; cases heq
                | stuck => simp only [ee] at heq; cases heq
                | ok y M5 =>
                  simp only [ee] at heq
                  intro S5 as5 yv H5 e5 st5 ry
                  have hD5 := e5.fr Dp _ hD4.1 hD4.2.1
                  have nS5 := hD5.2.2 (hD4.2.2 (hD2.2.2 nD2))
                  have rr := Reps.mono (x2.same.trans (e4.same.trans e5.same)) (e4.pre.trans e5.pre) _ _ r'
                  have hul := rr.length
                  refine ⟨us, hD5.1, by omega, S5, as5, M5, acc ++ [y], us ++ [yv], (x'.trans (x2.trans (e4.trans e5))).off nD, st5.off hD5.2.1 nS5, upd_same, hD5.2.1, nS5, rr.append (Reps.cons ry Reps.nil), by simp; omega, heq⟩
        · cases heq
      · have hd : I.ds.drop i = [] := List.drop_eq_nil_of_le (by omega)
        rw [hd] at heq
        unfold lcL at heq
        split at heq
        · rename_i hgk
          cases heq
          exact .inl ⟨ok.stop S' as' MF H' i x'.same x'.pre st' hgk (by omega), hmk S1 as1 H1 S' as' H' W σ ρ MF accF us Dp Q x' st' nD nD1 nD2 hD r' (by omega) fin1⟩
        · cases heq
  · exact fin1.elim
where wipe_wipe (σ : L2.St) : ∀ vs : List Nat, wipe (wipe σ vs) vs = wipe σ vs
  | [] => rfl
  | v :: vs => by
    have h : ∀ us : List Nat, ∀ τ : L2.St, wipe (τ.set v none) us = (wipe τ us).set v none := by
      intro us
      induction us with
      | nil => intro τ; rfl
      | cons u us ih =>
        intro τ
        unfold wipe
        rw [ih]
        by_cases hu : v = u
        · subst hu; rfl
        · rw [List.set_comm _ _ hu]
    show (wipe ((wipe σ vs).set v none) vs).set v none = (wipe σ vs).set v none
    rw [h vs, wipe_wipe σ vs, List.set_set]
theorem pd_lc {mk : List D → Mem → Out D} {vs : List Nat} (hmk : MkOk X.K mk) {scope : Scope} (own : List (Str × Nat)) (hc : X.calm = true) (hN : X.N.Nodup) (hi : PId X W tg iter fi) (ok : BlkOk X.N X.env.scope scope own)
    (hg : ∀ (s : Shared) (H : Hp) (C : Addr) (cl : List (Str × Addr)) (fp : List Addr), PGd (X.blk s H scope (compEnvC scope cl C X.env) fp) tg t) (ht : ∀ (s : Shared) (H : Hp) (C : Addr) (cl : List (Str × Addr)) (fp : List Addr), PDbs (X.blk s H scope (compEnvC scope cl C X.env) fp) W0 ifs test)
    (he : ∀ (s : Shared) (H : Hp) (C : Addr) (cl : List (Str × Addr)) (fp : List Addr), PD (X.blk s H scope (compEnvC scope cl C X.env) fp) W0 elt fe) (hvs : own.map (·.2) = vs := by rfl) (hv : ∀ i ∈ t.slots, i ∈ vs := by decide) (hs : ∀ x, foldedSetIterable iter X.env x = pure x := by intro _; rfl) :
    PD X W (.ListComp elt [⟨tg, iter, ifs, 0⟩] scope pos) (eLcG mk fi t test fe vs) := by
  subst hvs
  exact (pe_lc hc hN hi ok hg ht he hs).up fun _ _ _ h => lc_of hmk hv h
theorem sd_setLc {mk : List D → Mem → Out D} {vs : List Nat} (hmk : MkOk X.K mk) {i : Nat} {y : Str} {py spos : Pos} {scope : Scope} (own : List (Str × Nat)) (hc : X.calm = true) (hN : X.N.Nodup) (hi : PId X W tg iter fi) (ok : BlkOk X.N X.env.scope scope own)
    (hg : ∀ (s : Shared) (H : Hp) (C : Addr) (cl : List (Str × Addr)) (fp : List Addr), PGd (X.blk s H scope (compEnvC scope cl C X.env) fp) tg t) (ht : ∀ (s : Shared) (H : Hp) (C : Addr) (cl : List (Str × Addr)) (fp : List Addr), PDbs (X.blk s H scope (compEnvC scope cl C X.env) fp) W0 ifs test)
    (he : ∀ (s : Shared) (H : Hp) (C : Addr) (cl : List (Str × Addr)) (fp : List Addr), PD (X.blk s H scope (compEnvC scope cl C X.env) fp) W0 elt fe) (hvs : own.map (·.2) = vs := by rfl) (hv : ∀ i ∈ t.slots, i ∈ vs := by decide)
    (hy : X.N[i]? = some y := by rfl) (hyl : X.env.scope.names.lookup y = some .local := by rfl) (hsw : swapsWith (.ListComp elt [⟨tg, iter, ifs, 0⟩] scope pos) (some (.Name y py)) spos.line X.env = pure true := by exact sw_true rfl rfl rfl (by decide +kernel)) (hs : ∀ x, foldedSetIterable iter X.env x = pure x := by intro _; rfl) :
    SD X W (.Assign [.Name y py] (.ListComp elt [⟨tg, iter, ifs, 0⟩] scope pos) spos) (sSet i (eLcG mk fi t test fe vs)) := by
  subst hvs
  exact (ps_setLc hc hN hy hyl hsw hi ok hg ht he hs).up fun De σ H h => by
    obtain ⟨S, as, M, ρ, st, env, fin⟩ := h
    refine lc_of (W := W) (fi := fi) (test := test) (fe := fe) hmk hv ⟨S, as, M, ρ, st, env, ?_⟩
    exact FinS.bindE (g := fun d M => .nx (ρ.set i (some d)) M) fin env fun S1 as1 M1 d v H1 e1 st1 env1 rx fin1 => fin_nx st1 (env1.set rx) fin1
end
end DL
set_option Elab.async false
set_option maxRecDepth 100000
set_option maxHeartbeats 2000000
namespace DL
open PySem PySem.Spec PyProof.Rows L2

/-! ### calls of built-ins -/
theorem _root_.L2.CallR.orr {X : Cx} {f : Value} {r r' : List V → Hp → VK → Prop} (h : CallR X f r) (h' : CallR X f r') : CallR X f (fun xs H Q => r xs H Q ∨ r' xs H Q) := by
  intro pins s σ H xs us Q I rv q
  rcases q with q | q
  · exact h pins s σ H xs us Q I rv q
  · exact h' pins s σ H xs us Q I rv q
section
variable {X : Cx} {W : WX} {pos : Pos} {tg a b e : Expr} {es : List Expr} {fa fb fe : Env → C D} {fs : Env → C (List D)} {p : Pos} {x : Str}
theorem pd_callTy {T : String} {r : List V → Hp → VK → Prop} {g : List D → C D} (hr : CallR X (.type T) r) (hd : DrN X.K r g) (hm : X.mg x = none) (ha : PDs X W (e :: es) fs) (hv : bootBuiltins x = some (.type T) := by decide +kernel)
    (hg : Gl X x := by rfl) (hn : x ≠ "__name__" := by decide) (hdb : (x == ("__debug__" : Str)) = false := by decide) (hs : starEach (e :: es) X.env = (false, eval e X.env) :: starEach es X.env := by rfl) (hpl : (backTo pos (starEach es X.env)).any (·.1) = false := by rfl) : PD X W (.Call (.Name x p) (e :: es) [] pos) (eN g fs) :=
  (pe_callTy hr hg hm hv ha hn hdb hs hpl).up fun σ H Q h => by
    obtain ⟨S, as, M, ρ, st, env, fin⟩ := h
    exact ⟨S, as, M, ρ, st, env, Fin.bind (g := g) fin env fun S1 as1 M1 xs vs H1 e1 st1 env1 rx fin1 => hd S1 as1 M1 H1 σ ρ W xs vs Q st1 rx fin1⟩
/-- len -/
def lenD (M : Mem) : D → Option Nat
  | .v (.str z) => some z.length
  | .dK ks _ => some ks.length
  | .dT ks _ => some ks.length
  | .h k => match M[k]? with
    | some (.lst ds) => some ds.length
    | some (.dK ks _) => some ks.length
    | some (.dT ks _) => some ks.length
    | _ => none
  | .tup ds => some ds.length
  | .lst ds => some ds.length
  | .ro ds => some ds.length
  | _ => none
def gLen : List D → C D := fun xs M => match xs with
  | [x] => match lenD M x with
    | some n => .ok (.v (.int (n : Int))) M
    | none => .stuck
  | _ => .stuck
abbrev rLenAll (K : PySem.W.Frag) : List V → Hp → VK → Prop := fun xs H Q => (∃ x n, xs = [x] ∧ LenV K x H n ∧ Q (.int n) H) ∨ (∃ a kvs, xs = [V.ref a] ∧ H a = some (.dK kvs) ∧ Q (.int kvs.length) H) ∨ rLenT xs H Q
theorem dr_len {K : PySem.W.Frag} : DrN K (rLenAll K) gLen := by
  intro S as M H σ ρ W xs vs Q st rx fin
  have lq := line_eq
  unfold gLen at fin
  split at fin
  · rename_i x
    obtain ⟨v, e2, r1⟩ := reps1 rx
    subst e2
    split at fin
    · rename_i n hn
      have hQ : Q (.int (n : Int)) H := fin_ok (d := .v (.int (n : Int))) st ⟨rfl, rfl⟩ fin
      cases x with
      | v z =>
        cases z with
        | str z =>
          cases hn
          obtain ⟨r1, r2⟩ := r1
          subst r1
          exact .inl ⟨_, _, rfl, ⟨by have := (okV_str r2).2; omega, rfl⟩, hQ⟩
        | _ => cases hn
      | tup ds =>
        cases hn
        obtain ⟨a, vs, h1, h2, h3, h4⟩ := tup_of st r1
        subst h1
        exact .inl ⟨_, _, rfl, .inr ⟨vs, h2, h3.length⟩, hQ⟩
      | lst ds =>
        cases hn
        obtain ⟨a, vs, h1, h2, h3, h4⟩ := lst_of st r1 rfl
        subst h1
        exact .inl ⟨_, _, rfl, .inl ⟨vs, h2, h3.length⟩, hQ⟩
      | ro ds =>
        cases hn
        obtain ⟨a, vs, h1, h2, h3, h4⟩ := lst_of st r1 rfl
        subst h1
        exact .inl ⟨_, _, rfl, .inl ⟨vs, h2, h3.length⟩, hQ⟩
      | dK ks ds =>
        cases hn
        obtain ⟨a, kvs, h1, h2, h3, h4⟩ := r1
        subst h1 h3
        refine .inr (.inl ⟨a, kvs, rfl, st.ex _ _ h2, ?_⟩)
        simpa using hQ
      | dT ks ds =>
        cases hn
        obtain ⟨a, kvs, h1, h2, h3, h4⟩ := r1
        subst h1 h3
        refine .inr (.inr ⟨a, kvs, rfl, st.ex _ _ h2, ?_⟩)
        simpa using hQ
      | h k =>
        obtain ⟨a, h1, h2⟩ := r1
        subst h2
        unfold lenD at hn
        cases ec : M[k]? with
        | none => simp [ec] at hn
        | some c =>
          obtain ⟨_, ho, eh, ro⟩ := st.cell k c a ec h1
          cases c with
          | lst ds =>
            simp only [ec] at hn
            cases hn
            cases ho with
            | lst vs => exact .inl ⟨_, _, rfl, .inl ⟨vs, SqL.of eh, ro.1.length⟩, hQ⟩
            | _ => exact ro.elim
          | dK ks ds =>
            simp only [ec] at hn
            cases hn
            cases ho with
            | dK kvs =>
              obtain ⟨q1, q2⟩ := ro
              subst q1
              refine .inr (.inl ⟨a, kvs, rfl, eh, ?_⟩)
              simpa using hQ
            | _ => exact ro.elim
          | dT ks ds =>
            simp only [ec] at hn
            cases hn
            cases ho with
            | dT kvs =>
              obtain ⟨q1, q2⟩ := ro
              subst q1
              refine .inr (.inr ⟨a, kvs, rfl, eh, ?_⟩)
              simpa using hQ
            | _ => exact ro.elim
          | _ => simp [ec] at hn
      | ins _ _ _ => cases hn
      | cl _ => cases hn
    · exact fin.elim
  · exact fin.elim
theorem pd_len (hm : X.mg "len" = none) (ha : PDs X W [a] fs) (hg : Gl X "len" := by rfl) (hs : starEach [a] X.env = (false, eval a X.env) :: starEach [] X.env := by rfl) (hpl : (backTo pos (starEach [] X.env)).any (·.1) = false := by rfl) : PD X W (.Call (.Name "len" p) [a] [] pos) (eN gLen fs) :=
  pd_callB (call_len.orr (call_lenD.orr call_len_dT)) dr_len hm boot_len ha hg (by decide) (by decide) hs hpl
/-- abs -/
def gAbs : List D → C D := fun xs M => match xs with
  | [.v (.int i)] => .ok (.v (.int (if i < 0 then -i else i))) M
  | _ => .stuck
theorem pd_abs (hm : X.mg "abs" = none) (ha : PDs X W [a] fs) (hg : Gl X "abs" := by rfl) (hs : starEach [a] X.env = (false, eval a X.env) :: starEach [] X.env := by rfl) (hpl : (backTo pos (starEach [] X.env)).any (·.1) = false := by rfl) : PD X W (.Call (.Name "abs" p) [a] [] pos) (eN gAbs fs) :=
  pd_callB call_abs (fun S as M H σ ρ W xs vs Q st rx fin => by
    unfold gAbs at fin
    split at fin
    · rename_i i
      obtain ⟨v, e2, r1⟩ := reps1 rx
      obtain ⟨r1, _⟩ := r1
      subst r1
      exact ⟨i, e2, fin_ok (d := .v (.int _)) st ⟨rfl, rfl⟩ fin⟩
    · exact fin.elim) hm (by decide +kernel) ha hg (by decide) (by decide) hs hpl
/-- int of an int, of a bool -/
def gInt : List D → C D := fun xs M => match xs with
  | [.v (.int i)] => .ok (.v (.int i)) M
  | [.v (.bl k)] => .ok (.v (.int (if k = true then 1 else 0))) M
  | _ => .stuck
theorem pd_intOf (hm : X.mg "int" = none) (ha : PDs X W [a] fs) (hg : Gl X "int" := by rfl) (hs : starEach [a] X.env = (false, eval a X.env) :: starEach [] X.env := by rfl) (hpl : (backTo pos (starEach [] X.env)).any (·.1) = false := by rfl) : PD X W (.Call (.Name "int" p) [a] [] pos) (eN gInt fs) :=
  pd_callTy call_int1 (fun S as M H σ ρ W xs vs Q st rx fin => by
    unfold gInt at fin
    split at fin
    · rename_i i
      obtain ⟨v, e2, r1⟩ := reps1 rx
      obtain ⟨r1, _⟩ := r1
      subst r1
      exact .inl ⟨i, e2, fin_ok (d := .v (.int _)) st ⟨rfl, rfl⟩ fin⟩
    · rename_i k
      obtain ⟨v, e2, r1⟩ := reps1 rx
      obtain ⟨r1, _⟩ := r1
      subst r1
      exact .inr ⟨k, e2, fin_ok (d := .v (.int _)) st ⟨rfl, rfl⟩ fin⟩
    · exact fin.elim) hm ha (by decide +kernel) hg (by decide) (by decide) hs hpl
/-- min, max of two ints -/
def gMax2 : List D → C D := fun xs M => match xs with
  | [.v (.int i), .v (.int j)] => .ok (.v (.int (if j > i then j else i))) M
  | _ => .stuck
def gMin2 : List D → C D := fun xs M => match xs with
  | [.v (.int i), .v (.int j)] => .ok (.v (.int (if j < i then j else i))) M
  | _ => .stuck
theorem pd_max2 (hc : X.calm = true) (hm : X.mg "max" = none) (ha : PDs X W [a, b] fs) (hg : Gl X "max" := by rfl) (hs : starEach [a, b] X.env = (false, eval a X.env) :: starEach [b] X.env := by rfl) (hpl : (backTo pos (starEach [b] X.env)).any (·.1) = false := by rfl) : PD X W (.Call (.Name "max" p) [a, b] [] pos) (eN gMax2 fs) :=
  pd_callB (call_max2 hc) (fun S as M H σ ρ W xs vs Q st rx fin => by
    unfold gMax2 at fin
    split at fin
    · rename_i i j
      obtain ⟨v, v', e2, r1, r2⟩ := reps2 rx
      obtain ⟨r1, _⟩ := r1
      obtain ⟨r2, _⟩ := r2
      subst r1 r2
      exact ⟨i, j, e2, fin_ok (d := .v (.int _)) st ⟨rfl, rfl⟩ fin⟩
    · exact fin.elim) hm (by decide +kernel) ha hg (by decide) (by decide) hs hpl
theorem pd_min2 (hc : X.calm = true) (hm : X.mg "min" = none) (ha : PDs X W [a, b] fs) (hg : Gl X "min" := by rfl) (hs : starEach [a, b] X.env = (false, eval a X.env) :: starEach [b] X.env := by rfl) (hpl : (backTo pos (starEach [b] X.env)).any (·.1) = false := by rfl) : PD X W (.Call (.Name "min" p) [a, b] [] pos) (eN gMin2 fs) :=
  pd_callB (call_min2 hc) (fun S as M H σ ρ W xs vs Q st rx fin => by
    unfold gMin2 at fin
    split at fin
    · rename_i i j
      obtain ⟨v, v', e2, r1, r2⟩ := reps2 rx
      obtain ⟨r1, _⟩ := r1
      obtain ⟨r2, _⟩ := r2
      subst r1 r2
      exact ⟨i, j, e2, fin_ok (d := .v (.int _)) st ⟨rfl, rfl⟩ fin⟩
    · exact fin.elim) hm (by decide +kernel) ha hg (by decide) (by decide) hs hpl
/-- sum of a list of ints -/
def intOf : D → Option Int
  | .v (.int i) => some i
  | _ => none
def intsOf (ds : List D) : Option (List Int) := ds.mapM intOf
theorem Reps.ints {K : PySem.W.Frag} {S : Hp} {as : List Addr} : ∀ {ds : List D} {vs : List V} {ns : List Int}, Reps K S as ds vs → intsOf ds = some ns → vs = ns.map V.int
  | [], vs, ns, h, e => by
    have h : vs = [] := h
    subst h
    simp [intsOf] at e; subst e; rfl
  | d :: ds, vs, ns, h, e => by
    obtain ⟨v, r, h1, h2, h3⟩ := h
    subst h1
    unfold intsOf at e
    rw [List.mapM_cons] at e
    cases d with
    | v z =>
      cases z with
      | int i =>
        cases e2 : ds.mapM intOf with
        | none => simp [intOf, e2] at e
        | some ys =>
          simp [intOf, e2] at e
          subst e
          obtain ⟨h2, _⟩ := h2
          subst h2
          rw [Reps.ints h3 e2]; rfl
      | _ => simp [intOf] at e
    | _ => simp [intOf] at e
def gSum : List D → C D := fun xs M => match xs with
  | [x] => match lstOf M x with
    | some ds => match intsOf ds with
      | some ns => .ok (.v (.int ns.sum)) M
      | none => .stuck
    | none => .stuck
  | _ => .stuck
theorem pd_sum (hc : X.calm = true) (hm : X.mg "sum" = none) (ha : PDs X W [a] fs) (hg : Gl X "sum" := by rfl) (hs : starEach [a] X.env = (false, eval a X.env) :: starEach [] X.env := by rfl) (hpl : (backTo pos (starEach [] X.env)).any (·.1) = false := by rfl) : PD X W (.Call (.Name "sum" p) [a] [] pos) (eN gSum fs) :=
  pd_callB (cr_sum hc) (fun S as M H σ ρ W xs vs Q st rx fin => by
    unfold gSum at fin
    split at fin
    · obtain ⟨v, e2, r1⟩ := reps1 rx
      subst e2
      split at fin
      · rename_i ds hd
        split at fin
        · rename_i ns hn
          obtain ⟨a, us, h1, h2, h3, h4⟩ := lst_of st r1 hd
          subst h1
          have := h3.ints hn
          subst this
          exact ⟨a, ns, rfl, h2, fin_ok (d := .v (.int _)) st ⟨rfl, rfl⟩ fin⟩
        · exact fin.elim
      · exact fin.elim
    · exact fin.elim) hm (by decide +kernel) ha hg (by decide) (by decide) hs hpl
/-- list of a list, of a tuple: mk says whether a value or a cell -/
def gListOf (mk : List D → Mem → Out D) : List D → C D := fun xs M => match xs with
  | [x] => match seqOf M x with
    | some ds => mk ds M
    | none => .stuck
  | _ => .stuck
/-- mk may be done with a new list -/
def MkN (K : PySem.W.Frag) (mk : List D → Mem → Out D) : Prop := ∀ S as H W σ ρ M ds vs p Q, St K S as M H → H p = none → Reps K S as ds vs → ds.length ≤ sizeLine → Fin (RepR K) K S as H W σ ρ (mk ds M) Q → Q (.ref p) (upd H p (.lst vs))
theorem mkV_n {K : PySem.W.Frag} : MkN K mkV := fun S as H W σ ρ M ds vs p Q st n r hl fin => fin_lst st fin r hl n
theorem mkH_n {K : PySem.W.Frag} : MkN K mkH := fun S as H W σ ρ M ds vs p Q st n r hl fin => fin_cell st fin ⟨r, hl⟩ n
theorem pd_listOf {mk : List D → Mem → Out D} (hmk : MkN X.K mk) (hm : X.mg "list" = none) (ha : PDs X W [a] fs) (hg : Gl X "list" := by rfl) (hs : starEach [a] X.env = (false, eval a X.env) :: starEach [] X.env := by rfl) (hpl : (backTo pos (starEach [] X.env)).any (·.1) = false := by rfl) : PD X W (.Call (.Name "list" p) [a] [] pos) (eN (gListOf mk) fs) :=
  pd_callTy call_list_of (fun S as M H σ ρ W xs vs Q st rx fin => by
    unfold gListOf at fin
    split at fin
    · obtain ⟨v, e2, r1⟩ := reps1 rx
      subst e2
      split at fin
      · rename_i ds hd
        obtain ⟨a, us, h1, h2, h3, h4⟩ := seq_of st r1 hd
        subst h1
        exact ⟨a, us, rfl, h2, fun l n => hmk S as H W σ ρ M ds us l Q st n h3 h4 fin⟩
      · exact fin.elim
    · exact fin.elim) hm ha (by decide +kernel) hg (by decide) (by decide) hs hpl
/-- displays -/
def gLst (mk : List D → Mem → Out D) : List D → C D := fun xs M => if xs.length ≤ 16777216 then mk xs M else .stuck
def gTup : List D → C D := fun xs M => if xs.length ≤ 16777216 then .ok (.tup xs) M else .stuck
theorem pd_lst {mk : List D → Mem → Out D} (hmk : MkN X.K mk) (ha : PDs X W es fs) : PD X W (.List es pos) (eN (gLst mk) fs) := (pe_lst ha).up fun σ H Q h => by
  obtain ⟨S, as, M, ρ, st, env, fin⟩ := h
  have lq := line_eq
  refine ⟨S, as, M, ρ, st, env, Fin.bind (g := gLst mk) fin env fun S1 as1 M1 xs vs H1 e1 st1 env1 rx fin1 => ?_⟩
  unfold gLst at fin1
  split at fin1
  · rename_i hl
    exact ⟨by rw [← Reps.length rx]; omega, fun p n => hmk S1 as1 H1 W σ ρ M1 xs vs p Q st1 n rx (by omega) fin1⟩
  · exact fin1.elim
theorem pd_tup {k} (ha : PDs X W es fs) : PD X W (.Tuple es k pos) (eN gTup fs) := (pe_tup ha).up fun σ H Q h => by
  obtain ⟨S, as, M, ρ, st, env, fin⟩ := h
  have lq := line_eq
  refine ⟨S, as, M, ρ, st, env, Fin.bind (g := gTup) fin env fun S1 as1 M1 xs vs H1 e1 st1 env1 rx fin1 => ?_⟩
  unfold gTup at fin1
  split at fin1
  · rename_i hl
    exact ⟨by rw [← Reps.length rx]; omega, fun p n => fin_tup st1 fin1 rx (by omega) n⟩
  · exact fin1.elim
/-! isinstance of data, built-in classes -/
def tyN (M : Mem) : D → Option String
  | .v .non => some "NoneType"
  | .v (.bl _) => some "bool"
  | .v (.int _) => some "int"
  | .v (.str _) => some "str"
  | .tup _ => some "tuple"
  | .lst _ => some "list"
  | .dK _ _ => some "dict"
  | .dT _ _ => some "dict"
  | .h k => match M[k]? with
    | some (.lst _) => some "list"
    | some (.dK _ _) => some "dict"
    | some (.dT _ _) => some "dict"
    | _ => none
  | _ => none
def gIsi : List D → C D := fun xs M => match xs with
  | [x, .v (.ty c)] => match tyN M x with
    | some t => match kitB t c with
      | some b => .ok (.v (.bl b)) M
      | none => .stuck
    | none => .stuck
  | _ => .stuck
theorem ty_of {K : PySem.W.Frag} {S : Hp} {as : List Addr} {M : Mem} {H : Hp} {d : D} {v : V} {t : String} (st : St K S as M H) (r : Rep K S as d v) (h : tyN M d = some t) : TyX K H v (.type t) := by
  cases d with
  | v z =>
    obtain ⟨r1, _⟩ := r
    subst r1
    cases v with
    | non => cases h; exact .base .non
    | bl b => cases h; exact .base (.bl b)
    | int i => cases h; exact .base (.int i)
    | str s => cases h; exact .base (.str s)
    | _ => cases h
  | tup ds =>
    cases h
    obtain ⟨a, vs, h1, h2, h3, h4⟩ := tup_of st r
    subst h1
    rcases h2 with (h2 | ⟨o, h2⟩) | ⟨o, its, n, h2, h5, _⟩
    · exact .base (.tup h2)
    · exact .fTuple h2
    · exact .kTuple h2 h5
  | lst ds =>
    cases h
    obtain ⟨a, vs, h1, h2, h3, h4⟩ := ml_of st r rfl
    subst h1
    exact .base (.lst h2)
  | dK ks ds =>
    cases h
    obtain ⟨a, kvs, h1, h2, _⟩ := r
    subst h1
    exact .base (.dK (st.ex _ _ h2))
  | dT ks ds =>
    cases h
    obtain ⟨a, kvs, h1, h2, _⟩ := r
    subst h1
    exact .base (.dT (st.ex _ _ h2))
  | h k =>
    obtain ⟨a, h1, h2⟩ := r
    subst h2
    unfold tyN at h
    cases ec : M[k]? with
    | none => simp [ec] at h
    | some c =>
      obtain ⟨_, ho, eh, ro⟩ := st.cell k c a ec h1
      cases c with
      | lst ds =>
        simp only [ec] at h
        cases h
        cases ho with
        | lst vs => exact .base (.lst eh)
        | _ => exact ro.elim
      | dK ks ds =>
        simp only [ec] at h
        cases h
        cases ho with
        | dK kvs => exact .base (.dK eh)
        | _ => exact ro.elim
      | dT ks ds =>
        simp only [ec] at h
        cases h
        cases ho with
        | dT kvs => exact .base (.dT eh)
        | _ => exact ro.elim
      | _ => simp [ec] at h
  | _ => cases h
theorem pd_isi (hm : X.mg "isinstance" = none) (ha : PDs X W [a, b] fs) (hg : Gl X "isinstance" := by rfl) (hs : starEach [a, b] X.env = (false, eval a X.env) :: starEach [b] X.env := by rfl) (hpl : (backTo pos (starEach [b] X.env)).any (·.1) = false := by rfl) : PD X W (.Call (.Name "isinstance" p) [a, b] [] pos) (eN gIsi fs) :=
  pd_callB call_isi (fun S as M H σ ρ W xs vs Q st rx fin => by
    unfold gIsi at fin
    split at fin
    · rename_i x c
      obtain ⟨v, v', e2, r1, r2⟩ := reps2 rx
      obtain ⟨r2, _⟩ := r2
      subst r2
      split at fin
      · rename_i t ht
        split at fin
        · rename_i bb hb
          exact ⟨v, .ty c, .type t, .type c, bb, e2, .ty c, ty_of st r1 ht, kit_ty hb, fin_ok (d := .v (.bl _)) st ⟨rfl, rfl⟩ fin⟩
        · exact fin.elim
      · exact fin.elim
    · exact fin.elim) hm (by decide +kernel) ha hg (by decide) (by decide) hs hpl
/-- the name of a built-in class as a value -/
theorem pd_tyName {T : String} (hm : X.mg x = none) (hv : bootBuiltins x = some (.type T) := by decide +kernel) (hg : Gl X x := by rfl) (hn : x ≠ "__name__" := by decide) (hdb : (x == ("__debug__" : Str)) = false := by decide) : PD X W (.Name x pos) (eC (.v (.ty T))) := pd_c (pe_bltn hg hm hv rfl hn hdb) rfl
/-- a module's int -/
theorem pd_gInt {i : Int} {t : Tok} (hm : X.mg x = some (.int i t)) (hg : Gl X x := by rfl) (hdb : (x == ("__debug__" : Str)) = false := by decide) : PD X W (.Name x pos) (eC (.v (.int i))) := pd_c (pe_glob hg hm ⟨t, rfl⟩ hdb) rfl
theorem pd_gStr {i : Str} {t : Tok} (hm : X.mg x = some (.str i t)) (ok : okV (.str i) = true := by decide +kernel) (hg : Gl X x := by rfl) (hdb : (x == ("__debug__" : Str)) = false := by decide) : PD X W (.Name x pos) (eC (.v (.str i))) := pd_c (pe_glob hg hm ⟨t, rfl⟩ hdb) ok

/-! ### stores, methods that change a list -/
def storeD (M : Mem) (o i d : D) : Option Mem := match o with
  | .h k => match i with
    | .v (.int z) => match M[k]? with
      | some (.lst ds) => match ixN ds.length z with
        | some j => some (M.set k (.lst (ds.set j d)))
        | none => none
      | _ => none
    | _ => none
  | _ => none
def sStore (fo fi fe : Env → C D) : Cs := fun ρ => sE (fe ρ) ρ fun d => sE (fo ρ) ρ fun o => sE (fi ρ) ρ fun i M => match storeD M o i d with
  | some M' => .nx ρ M'
  | none => .stuck
theorem sd_store {o i : Expr} {fo fi : Env → C D} {tp : Pos} (ho : PD X W o fo) (hi : PD X W i fi) (he : PD X W e fe)
    (ha : ∀ v, assign (.Subscript o i tp) X.env v = (do
      let ov ← holding [v] (eval o X.env)
      let iv ← holding [v, ov] (eval i X.env)
      standAt tp
      holding [v, ov, iv] (setItem ov iv v)
      release [v, ov, iv] []) := by intro _; rfl)
    (hs : swapsWithSole [.Subscript o i tp] e pos.line X.env = pure false := by rfl) (hw : swappedStores [.Subscript o i tp] e X.env = pure none := by rfl)
    (h1 : (assignEach [.Subscript o i tp] X.env).map (·.2) = [assign (.Subscript o i tp) X.env] := by rfl) : SD X W (.Assign [.Subscript o i tp] e pos) (sStore fo fi fe) :=
  (ps_asg he (pg_sub ho hi set_list ha) hs hw h1).up fun De σ H h => by
    obtain ⟨S, as, M, ρ, st, env, fin⟩ := h
    refine ⟨S, as, M, ρ, st, env, FinS.bindE (g := fun d => sE (fo ρ) ρ fun o => sE (fi ρ) ρ fun i M => match storeD M o i d with
      | some M' => .nx ρ M'
      | none => .stuck) fin env fun S1 as1 M1 d v H1 e1 st1 env1 rd fin1 => ?_⟩
    refine ⟨S1, as1, M1, ρ, st1, env1, FinS.bindE (g := fun o => sE (fi ρ) ρ fun i M => match storeD M o i d with
      | some M' => .nx ρ M'
      | none => .stuck) fin1 env1 fun S2 as2 M2 o' ov H2 e2 st2 env2 ro fin2 => ?_⟩
    refine ⟨S2, as2, M2, ρ, st2, env2, FinS.bindE (g := fun i M => match storeD M o' i d with
      | some M' => .nx ρ M'
      | none => .stuck) fin2 env2 fun S3 as3 M3 i' iv H3 e3 st3 env3 ri fin3 => ?_⟩
    have ro3 := Rep.mono e3.same e3.pre _ _ ro
    have rd3 := Rep.mono (e2.trans e3).same (e2.trans e3).pre _ _ rd
    split at fin3
    · rename_i M' hM
      unfold storeD at hM
      split at hM
      · rename_i k
        split at hM
        · rename_i z
          split at hM
          · rename_i ds hk
            split at hM
            · rename_i j hj
              cases hM
              obtain ⟨a, h1, h2⟩ := ro3
              subst h2
              obtain ⟨us, h3, h4, h5⟩ := cell_lst st3 hk h1
              refine ⟨a, us, z, j, rfl, ri.1, h3, by rw [← h4.length]; exact hj, ?_⟩
              have stw := st3.write (c := .lst (ds.set j d)) (ho := .lst (us.set j v)) hk h1 ⟨h4.set j rd3, by simpa using h5⟩
              exact fin3 S3 as3 σ _ (Ext.write h1) stw env3
            · cases hM
          · cases hM
        · cases hM
      · cases hM
    · exact fin3.elim
/-- a method of a built-in type -/
def tyOk (T : String) (M : Mem) : D → Bool
  | .v (.str _) => T == "str"
  | .lst _ => T == "list"
  | .ro _ => T == "list"
  | .h k => match M[k]? with
    | some (.lst _) => T == "list"
    | some (.dK _ _) => T == "dict"
    | some (.dT _ _) => T == "dict"
    | _ => false
  | _ => false
def eM (T : String) (g : D → List D → C D) (fo : Env → C D) (fs : Env → C (List D)) : Env → C D := fun ρ => (fo ρ).bind fun x M => if tyOk T M x = true then (fs ρ).bind (g x) M else .stuck
def DrM (K : PySem.W.Frag) (r : V → List V → Hp → VK → Prop) (g : D → List D → C D) : Prop := ∀ S as M H σ ρ W x v xs vs Q, St K S as M H → Rep K S as x v → Reps K S as xs vs → Fin (RepR K) K S as H W σ ρ (g x xs M) Q → r v vs H Q
theorem tyOk_of {K : PySem.W.Frag} {S : Hp} {as : List Addr} {M : Mem} {H : Hp} {T : String} {d : D} {v : V} (st : St K S as M H) (r : Rep K S as d v) (h : tyOk T M d = true) : tyV K T v H := by
  cases d with
  | v z =>
    obtain ⟨r1, _⟩ := r
    subst r1
    cases v with
    | str s =>
      have h' : T = "str" := by simpa [tyOk] using h
      exact h'
    | _ => simp [tyOk] at h
  | lst ds =>
    obtain ⟨a, vs, h1, h2, h3, h4⟩ := lst_of st r rfl
    subst h1
    exact .inl ⟨by simpa [tyOk] using h, vs, h2⟩
  | ro ds =>
    obtain ⟨a, vs, h1, h2, h3, h4⟩ := lst_of st r rfl
    subst h1
    exact .inl ⟨by simpa [tyOk] using h, vs, h2⟩
  | h k =>
    obtain ⟨a, h1, h2⟩ := r
    subst h2
    unfold tyOk at h
    cases ec : M[k]? with
    | none => simp [ec] at h
    | some c =>
      obtain ⟨_, ho, eh, ro⟩ := st.cell k c a ec h1
      cases c with
      | lst ds =>
        simp only [ec] at h
        cases ho with
        | lst vs => exact .inl ⟨by simpa using h, vs, SqL.of eh⟩
        | _ => exact ro.elim
      | dK ks ds =>
        simp only [ec] at h
        cases ho with
        | dK kvs => exact .inr (.inr (.inl ⟨by simpa using h, .inl ⟨kvs, eh⟩⟩))
        | _ => exact ro.elim
      | dT ks ds =>
        simp only [ec] at h
        cases ho with
        | dT kvs => exact .inr (.inr (.inl ⟨by simpa using h, .inr ⟨kvs, eh⟩⟩))
        | _ => exact ro.elim
      | _ => simp [ec] at h
  | _ => simp [tyOk] at h
theorem pd_bm {o : Expr} {fo : Env → C D} {name : Str} {apos cpos : Pos} {T id : String} {r : V → List V → Hp → VK → Prop} {g : D → List D → C D} (pa : PlainAttrs T) (slot : Slot T name id) (hty : typeOf (.builtin id) = pure (.type "method_descriptor")) (hm : MtR X id r) (hd : DrM X.K r g) (ho : PD X W o fo) (ha : PDs X W (e :: es) fs)
    (hbase : attributeBase o name X.env (eval o X.env) = eval o X.env := by rfl)
    (hfew : ((backTo cpos (starEach (e :: es) X.env)).all (fun x => !x.1) && (backToKw cpos (keywordEach [] X.env)).all (fun x => x.1.isSome)
      && decide ((e :: es).length + ([] : List Keyword).length + (if ([] : List Keyword).isEmpty then 0 else 1) < 30)) = true := by rfl)
    (hline : (apos.endLine == cpos.line) = true := by rfl) (hs : starEach (e :: es) X.env = (false, eval e X.env) :: starEach es X.env := by rfl) (hplain : (backTo cpos (starEach es X.env)).any (·.1) = false := by rfl) : PD X W (.Call (.Attribute o name apos) (e :: es) [] cpos) (eM T g fo fs) :=
  (pe_bm pa slot hty hm ho ha hbase hfew hline hs hplain).up fun σ H Q h => by
    obtain ⟨S, as, M, ρ, st, env, fin⟩ := h
    refine ⟨S, as, M, ρ, st, env, Fin.bind (g := fun x M => if tyOk T M x = true then (fs ρ).bind (g x) M else .stuck) fin env fun S1 as1 M1 x v H1 e1 st1 env1 rx fin1 => ?_⟩
    split at fin1
    · rename_i ht
      refine ⟨tyOk_of st1 rx ht, S1, as1, M1, ρ, st1, env1, Fin.bind (g := g x) fin1 env1 fun S2 as2 M2 xs vs H2 e2 st2 env2 rs fin2 => ?_⟩
      exact hd S2 as2 M2 H2 σ ρ W x v xs vs Q st2 (Rep.mono e2.same e2.pre _ _ rx) rs fin2
    · exact fin1.elim
theorem pd_bm0 {o : Expr} {fo : Env → C D} {name : Str} {apos cpos : Pos} {T id : String} {r : V → List V → Hp → VK → Prop} {g : D → List D → C D} (pa : PlainAttrs T) (slot : Slot T name id) (hty : typeOf (.builtin id) = pure (.type "method_descriptor")) (hm : MtR X id r) (hd : DrM X.K r g) (ho : PD X W o fo)
    (hbase : attributeBase o name X.env (eval o X.env) = eval o X.env := by rfl) (hline : (apos.endLine == cpos.line) = true := by rfl) : PD X W (.Call (.Attribute o name apos) [] [] cpos) (eM T g fo eNil) :=
  (pe_bm0 pa slot hty hm ho hbase hline).up fun σ H Q h => by
    obtain ⟨S, as, M, ρ, st, env, fin⟩ := h
    refine ⟨S, as, M, ρ, st, env, Fin.bind (g := fun x M => if tyOk T M x = true then (eNil ρ).bind (g x) M else .stuck) fin env fun S1 as1 M1 x v H1 e1 st1 env1 rx fin1 => ?_⟩
    split at fin1
    · rename_i ht
      exact ⟨tyOk_of st1 rx ht, hd S1 as1 M1 H1 σ ρ W x v [] [] Q st1 rx Reps.nil fin1⟩
    · exact fin1.elim
/-- xs.append(d) -/
def gAppend : D → List D → C D := fun x xs M => match x with
  | .h k => match xs with
    | [d] => match M[k]? with
      | some (.lst ds) => if ds.length < 16777216 then .ok (.v .non) (M.set k (.lst (ds ++ [d]))) else .stuck
      | _ => .stuck
    | _ => .stuck
  | _ => .stuck
theorem dr_append {K : PySem.W.Frag} : DrM K rAppend gAppend := by
  intro S as M H σ ρ W x v xs vs Q st rx rs fin
  have lq := line_eq
  unfold gAppend at fin
  split at fin
  · rename_i k
    split at fin
    · rename_i d
      split at fin
      · rename_i ds hk
        split at fin
        · rename_i hl
          obtain ⟨a, h1, h2⟩ := rx
          subst h2
          obtain ⟨u, e2, r1⟩ := reps1 rs
          obtain ⟨us, h3, h4, h5⟩ := cell_lst st hk h1
          refine ⟨a, us, u, rfl, e2, h3, by rw [← h4.length]; omega, ?_⟩
          exact fin S as .non _ (Ext.write h1) (st.write (c := .lst (ds ++ [d])) hk h1 ⟨h4.append (Reps.cons r1 Reps.nil), by simp; omega⟩) ⟨rfl, rfl⟩
        · exact fin.elim
      · exact fin.elim
    · exact fin.elim
  · exact fin.elim
theorem pd_append {o : Expr} {fo : Env → C D} {apos cpos : Pos} (ho : PD X W o fo) (ha : PDs X W [e] fs) (hbase : attributeBase o "append" X.env (eval o X.env) = eval o X.env := by rfl)
    (hfew : ((backTo cpos (starEach [e] X.env)).all (fun x => !x.1) && (backToKw cpos (keywordEach [] X.env)).all (fun x => x.1.isSome)
      && decide (([e] : List Expr).length + ([] : List Keyword).length + (if ([] : List Keyword).isEmpty then 0 else 1) < 30)) = true := by rfl)
    (hline : (apos.endLine == cpos.line) = true := by rfl) (hs : starEach [e] X.env = (false, eval e X.env) :: starEach [] X.env := by rfl) (hplain : (backTo cpos (starEach [] X.env)).any (·.1) = false := by rfl) : PD X W (.Call (.Attribute o "append" apos) [e] [] cpos) (eM "list" gAppend fo fs) :=
  pd_bm PySem.F.plainAttrs_list PySem.F.slot_list_append PySem.F.type_list_append mt_append dr_append ho ha hbase hfew hline hs hplain
/-! name op= e -/
def sAug (i : Nat) (g : D → D → C D) (fe : Env → C D) : Cs := fun ρ => match ρ[i]? with
  | some (some x) => sE (fe ρ) ρ fun y => sE (g x y) ρ fun z M => .nx (ρ.set i (some z)) M
  | _ => fun _ => .stuck
theorem sd_aug {i : Nat} {op : Operator} {r : R2} {g : D → D → C D} {pos' : Pos} (hN : X.N.Nodup) (ho : OpR X (inplaceOp op) r) (hr : Dr2 X.K r g) (he : PD X W e fe) (hi : X.N[i]? = some x := by rfl) (hx : Loc X.env.scope x := by first | exact Or.inl rfl | exact Or.inr rfl)
    (hf : X.fn x = true ∨ X.env.scope.names.lookup x = some .local := by first | exact .inl rfl | exact .inr rfl) : SD X W (.AugAssign (.Name x pos') op e pos) (sAug i g fe) :=
  (ps_aug hN hi hx he ho hf).up fun De σ H h => by
    obtain ⟨S, as, M, ρ, st, env, fin⟩ := h
    unfold sAug at fin
    cases er : ρ[i]? with
    | none => simp only [er] at fin; exact fin.elim
    | some o =>
      cases o with
      | none => simp only [er] at fin; exact fin.elim
      | some d =>
        simp only [er] at fin
        obtain ⟨v, h1, h2⟩ := env.2 i d er
        refine ⟨v, h1, ?_⟩
        refine ⟨S, as, M, ρ, st, env, FinS.bindE (g := fun y => sE (g d y) ρ fun z M => .nx (ρ.set i (some z)) M) fin env fun S1 as1 M1 y u H1 e1 st1 env1 ry fin1 => ?_⟩
        refine hr S1 as1 M1 H1 σ ρ W d y v u _ st1 (Rep.mono e1.same e1.pre _ _ h2) ry ?_
        exact FinS.bindE (g := fun z M => .nx (ρ.set i (some z)) M) fin1 env1 fun S2 as2 M2 z w' H2 e2 st2 env2 rz fin2 => fin_nx st2 (env2.set rz) fin2
end
def iAdd : D → D → C D := fun x y M => match x with
  | .v (.int i) => match y with
    | .v (.int j) => .ok (.v (.int (i + j))) M
    | _ => .stuck
  | .v (.str a) => match y with
    | .v (.str b) => if a.length + b.length ≤ 16777216 then .ok (.v (.str (a ++ b))) M else .stuck
    | _ => .stuck
  | _ => .stuck
theorem iop_addAll {X : Cx} : OpR X (inplaceOp .Add) (fun x y H Q => (rI0 fun i j => .int (i + j)) x y H Q ∨ ((fun x y H Q => ∃ i j, x = .str i ∧ y = .str j ∧ i.length + j.length ≤ sizeLine ∧ Q (.str (i ++ j)) H) : R2) x y H Q) := iop_add.or iop_add_str
theorem dr_iadd {K : PySem.W.Frag} : Dr2 K (fun x y H Q => (rI0 fun i j => .int (i + j)) x y H Q ∨ ((fun x y H Q => ∃ i j, x = .str i ∧ y = .str j ∧ i.length + j.length ≤ sizeLine ∧ Q (.str (i ++ j)) H) : R2) x y H Q) iAdd := by
  intro S as M H σ ρ W x y v u Q st rx ry fin
  have lq := line_eq
  unfold iAdd at fin
  split at fin
  · rename_i i
    split at fin
    · rename_i j
      exact .inl ⟨i, j, rx.1, ry.1, fin_ok (d := .v (.int (i + j))) st ⟨rfl, rfl⟩ fin⟩
    · exact fin.elim
  · rename_i a
    split at fin
    · rename_i b
      split at fin
      · rename_i hl
        exact .inr ⟨a, b, rx.1, ry.1, by omega, fin_ok (d := .v (.str (a ++ b))) st ⟨rfl, okV_mk (strOk_app (okV_str rx.2).1 (okV_str ry.2).1) (by rw [len_app]; exact hl)⟩ fin⟩
      · exact fin.elim
    · exact fin.elim
  · exact fin.elim
end DL
set_option Elab.async false
set_option maxRecDepth 100000
set_option maxHeartbeats 2000000
namespace DL
open PySem PySem.Spec PyProof.Rows L2

/-! ### what leaves a def -/
mutual
def hb (n : Nat) : D → Bool
  | .v _ => true
  | .h k => decide (k < n)
  | .tup ds => hbs n ds
  | .lst ds => hbs n ds
  | .ro ds => hbs n ds
  | .ins _ _ ds => hbs n ds
  | .dK _ ds => hbs n ds
  | .dT _ ds => hbs n ds
  | .cl _ => true
def hbs (n : Nat) : List D → Bool
  | [] => true
  | d :: ds => hb n d && hbs n ds
end
section
variable {K : PySem.W.Frag} {S S1 : Hp} {as as' : List Addr} {M M1 : Mem} {H H1 : Hp}
mutual
theorem Rep.hb_of : ∀ (d : D) (v : V), Rep K S as d v → hb as.length d = true
  | .v _, _, _ => rfl
  | .h k, v, r => by
    obtain ⟨a, h1, _⟩ := r
    unfold hb
    exact decide_eq_true (List.getElem?_eq_some_iff.mp h1).1
  | .tup ds, v, r => by obtain ⟨a, vs, _, _, h, _⟩ := r; unfold hb; exact Reps.hb_of ds vs h
  | .lst ds, v, r => by obtain ⟨a, vs, _, _, h, _⟩ := r; unfold hb; exact Reps.hb_of ds vs h
  | .ro ds, v, r => by obtain ⟨a, vs, _, _, h, _⟩ := r; unfold hb; exact Reps.hb_of ds vs h
  | .ins _ _ ds, v, r => by obtain ⟨a, dx, fs, _, _, _, h⟩ := r; unfold hb; exact Reps.hb_of ds _ h
  | .dK _ ds, v, r => by obtain ⟨a, kvs, _, _, _, h, _⟩ := r; unfold hb; exact Reps.hb_of ds _ h
  | .dT _ ds, v, r => by obtain ⟨a, kvs, _, _, _, h, _⟩ := r; unfold hb; exact Reps.hb_of ds _ h
  | .cl _, _, _ => by unfold hb; rfl
theorem Reps.hb_of : ∀ (ds : List D) (vs : List V), Reps K S as ds vs → hbs as.length ds = true
  | [], _, _ => rfl
  | d :: ds, vs, r => by
    obtain ⟨v, r', _, h1, h2⟩ := r
    unfold hbs
    rw [Rep.hb_of d v h1, Reps.hb_of ds r' h2]; rfl
end
mutual
theorem Rep.cutA {n : Nat} (e : ∀ k : Nat, k < n → as[k]? = as'[k]?) : ∀ (d : D) (v : V), Rep K S as' d v → hb n d = true → Rep K S as d v
  | .v _, _, r, _ => r
  | .h k, v, r, q => by
    obtain ⟨a, h1, h2⟩ := r
    unfold hb at q
    exact ⟨a, by rw [e k (of_decide_eq_true q)]; exact h1, h2⟩
  | .tup ds, v, r, q => by obtain ⟨a, vs, h1, h2, h3, h4⟩ := r; unfold hb at q; exact ⟨a, vs, h1, h2, Reps.cutA e ds vs h3 q, h4⟩
  | .lst ds, v, r, q => by obtain ⟨a, vs, h1, h2, h3, h4⟩ := r; unfold hb at q; exact ⟨a, vs, h1, h2, Reps.cutA e ds vs h3 q, h4⟩
  | .ro ds, v, r, q => by obtain ⟨a, vs, h1, h2, h3, h4⟩ := r; unfold hb at q; exact ⟨a, vs, h1, h2, Reps.cutA e ds vs h3 q, h4⟩
  | .ins _ _ ds, v, r, q => by obtain ⟨a, dx, fs, h1, h2, h3, h4⟩ := r; unfold hb at q; exact ⟨a, dx, fs, h1, h2, h3, Reps.cutA e ds _ h4 q⟩
  | .dK _ ds, v, r, q => by obtain ⟨a, kvs, h1, h2, h3, h4, h5⟩ := r; unfold hb at q; exact ⟨a, kvs, h1, h2, h3, Reps.cutA e ds _ h4 q, h5⟩
  | .dT _ ds, v, r, q => by obtain ⟨a, kvs, h1, h2, h3, h4, h5⟩ := r; unfold hb at q; exact ⟨a, kvs, h1, h2, h3, Reps.cutA e ds _ h4 q, h5⟩
  | .cl _, _, r, _ => r
theorem Reps.cutA {n : Nat} (e : ∀ k : Nat, k < n → as[k]? = as'[k]?) : ∀ (ds : List D) (vs : List V), Reps K S as' ds vs → hbs n ds = true → Reps K S as ds vs
  | [], _, r, _ => r
  | d :: ds, vs, r, q => by
    obtain ⟨v, r', h0, h1, h2⟩ := r
    unfold hbs at q
    rw [Bool.and_eq_true] at q
    exact ⟨v, r', h0, Rep.cutA e d v h1 q.1, Reps.cutA e ds r' h2 q.2⟩
end
theorem ObjR.hbc {c : D} {ho : HO} (r : ObjR K (Reps K S as) c ho) : hb as.length c = true := by
  cases c <;> cases ho <;> first | exact r.elim | (unfold hb; exact Reps.hb_of _ _ r.1) | (unfold hb; exact Reps.hb_of _ _ r.2.2) | (unfold hb; exact Reps.hb_of _ _ r.2.1)
theorem ObjR.cutA {n : Nat} (e : ∀ k : Nat, k < n → as[k]? = as'[k]?) {c : D} {ho : HO} (r : ObjR K (Reps K S as') c ho) (q : hb n c = true) : ObjR K (Reps K S as) c ho := by
  cases c <;> cases ho <;> first | exact r.elim | (unfold hb at q; exact ⟨Reps.cutA e _ _ r.1 q, r.2⟩) | (unfold hb at q; exact ⟨r.1, r.2.1, Reps.cutA e _ _ r.2.2 q⟩) | (unfold hb at q; exact ⟨r.1, Reps.cutA e _ _ r.2.1 q, r.2.2⟩)
/-- the cells that stood ahead hold nothing new -/
def CellsOk (M M1 : Mem) : Prop := ∀ k : Nat, k < M.length → M1[k]? = M[k]? ∨ ∃ c, M1[k]? = some c ∧ hb M.length c = true
inductive Mode where
  | keep
  | own
  | frz
open Classical in
noncomputable def finVal (M M1 : Mem) (d : D) : Out D := if CellsOk M M1 ∧ hb M.length d = true then .ok d (M1.take M.length) else .stuck
open Classical in
noncomputable def finish (md : Mode) (M M1 : Mem) (d : D) : Out D := match md with
  | .keep => .ok d M1
  | .own => match d with
    | .h k => if k < M.length then finVal M M1 (.h k) else match M1[k]? with
      | some c => if CellsOk M M1 ∧ hb M.length c = true then .ok (.h M.length) (M1.take M.length ++ [c]) else .stuck
      | none => .stuck
    | d => finVal M M1 d
  | .frz => match d with
    | .h k => if k < M.length then finVal M M1 (.h k) else match M1[k]? with
      | some c => if CellsOk M M1 ∧ hb M.length c = true then .ok c (M1.take M.length) else .stuck
      | none => .stuck
    | d => finVal M M1 d
theorem Pre.eqA (p : Pre as as') : ∀ k : Nat, k < as.length → as[k]? = as'[k]? := fun k hk => by
  have h := List.getElem?_eq_getElem hk
  rw [h, p k _ h]
theorem St.cutM (st : St K S as M H) (x : Ext S as H S1 as' H1) (st1 : St K S1 as' M1 H1) (ok : CellsOk M M1) : St K S1 as (M1.take M.length) H1 ∧ Ext S as H S1 as H1 := by
  have hl : M.length ≤ M1.length := by
    have h1 := st.len
    have h2 := st1.len
    rw [← h1, ← h2]
    by_cases h : as.length ≤ as'.length
    · exact h
    · have h3 : as'.length < as.length := by omega
      have h4 := x.pre as'.length _ (List.getElem?_eq_getElem h3)
      rw [List.getElem?_eq_none (Nat.le_refl _)] at h4
      cases h4
  refine ⟨⟨st1.ex, by rw [List.length_take, st.len]; omega, st.nd, fun k c a h1 h2 => ?_⟩, x.same, Pre.refl _, fun a o h na => ?_⟩
  · have hk : k < M.length := by
      have := (List.getElem?_eq_some_iff.mp h1).1
      rw [List.length_take] at this
      omega
    rw [List.getElem?_take_of_lt hk] at h1
    obtain ⟨s0, ho, e, r⟩ := st1.cell k c a h1 (x.pre k a h2)
    refine ⟨s0, ho, e, ObjR.cutA (n := as.length) (fun j hj => x.pre.eqA j hj) r ?_⟩
    rw [st.len]
    rcases ok k hk with q | ⟨c', q, hq⟩
    · rw [h1] at q
      obtain ⟨_, ho', e', r'⟩ := st.cell k c a q.symm h2
      have := r'.hbc
      rw [st.len] at this
      exact this
    · rw [h1] at q
      cases q
      exact hq
  · obtain ⟨h1, h2, h3⟩ := x.fr a o h na
    exact ⟨h1, na, h3⟩
theorem finVal_ok {d d' : D} {v : V} {M2 : Mem} (st : St K S as M H) (x : Ext S as H S1 as' H1) (st1 : St K S1 as' M1 H1) (r : Rep K S1 as' d v) (h : finVal M M1 d = .ok d' M2) : ∃ S2 as2, Ext S as H S2 as2 H1 ∧ St K S2 as2 M2 H1 ∧ Rep K S2 as2 d' v := by
  unfold finVal at h
  split at h
  · rename_i hc
    cases h
    obtain ⟨s2, x2⟩ := st.cutM x st1 hc.1
    exact ⟨S1, as, x2, s2, Rep.cutA (n := as.length) (fun j hj => x.pre.eqA j hj) _ _ r (by rw [st.len]; exact hc.2)⟩
  · cases h
theorem ObjR.rep {c : D} {ho : HO} {a : Addr} (r : ObjR K (Reps K S as) c ho) (h : S a = some ho) : Rep K S as c (.ref a) := by
  cases c <;> cases ho <;> first | exact r.elim | exact ⟨a, _, rfl, h, r.1, r.2⟩ | exact ⟨a, _, rfl, SqT.of h, r.1, r.2⟩ | (obtain ⟨r1, r2, r3⟩ := r; subst r1; exact ⟨a, _, _, rfl, h, r2, r3⟩) | exact ⟨a, _, rfl, h, r.1, r.2⟩
theorem finish_ok {md : Mode} {d d' : D} {v : V} {M2 : Mem} (st : St K S as M H) (x : Ext S as H S1 as' H1) (st1 : St K S1 as' M1 H1) (r : Rep K S1 as' d v) (h : finish md M M1 d = .ok d' M2) : ∃ S2 as2, Ext S as H S2 as2 H1 ∧ St K S2 as2 M2 H1 ∧ Rep K S2 as2 d' v := by
  have other : ∀ {k : Nat} {c : D}, ¬ k < M.length → M1[k]? = some c → CellsOk M M1 ∧ hb M.length c = true → Rep K S1 as' (.h k) v → ∃ a ho, v = .ref a ∧ a ∉ as ∧ S1 a = none ∧ H1 a = some ho ∧ H a = none ∧ ObjR K (Reps K S1 as) c ho := fun {k c} hk hc hok r => by
    obtain ⟨a, h1, h2⟩ := r
    obtain ⟨s0, ho, e, ro⟩ := st1.cell k c a hc h1
    have na : a ∉ as := fun hm => by
      obtain ⟨j, hj⟩ := List.getElem?_of_mem hm
      have hj2 := x.pre j a hj
      have : j = k := nodup_ixA st1.nd hj2 h1
      subst this
      have := (List.getElem?_eq_some_iff.mp hj).1
      rw [st.len] at this
      exact hk this
    refine ⟨a, ho, h2, na, s0, e, ?_, ObjR.cutA (n := as.length) (fun j hj => x.pre.eqA j hj) ro (by rw [st.len]; exact hok.2)⟩
    cases hH : H a with
    | none => rfl
    | some o =>
      exact absurd (List.mem_of_getElem? h1) (x.fr a o hH na).2.1
  cases md with
  | keep => cases h; exact ⟨S1, as', x, st1, r⟩
  | own =>
    unfold finish at h
    cases d with
    | h k =>
      simp only at h
      split at h
      · exact finVal_ok st x st1 r h
      · rename_i hk
        split at h
        · rename_i c hc
          split at h
          · rename_i hok
            cases h
            obtain ⟨a, ho, h1, h2, h3, h4, h5, h6⟩ := other hk hc hok r
            obtain ⟨s2, x2⟩ := st.cutM x st1 hok.1
            refine ⟨S1, as ++ [a], x2.adopt h5, s2.adopt h2 h3 h4 h6, a, ?_, h1⟩
            rw [← st.len]; simp
          · cases h
        · cases h
    | _ => exact finVal_ok st x st1 r h
  | frz =>
    unfold finish at h
    cases d with
    | h k =>
      simp only at h
      split at h
      · exact finVal_ok st x st1 r h
      · rename_i hk
        split at h
        · rename_i c hc
          split at h
          · rename_i hok
            cases h
            obtain ⟨a, ho, h1, h2, h3, h4, h5, h6⟩ := other hk hc hok r
            obtain ⟨s2, x2⟩ := st.cutM x st1 hok.1
            subst h1
            exact ⟨upd S1 a ho, as, x2.take h5 h3, s2.take h2 h3 h4, (h6.mono fun ds vs q => Reps.mono (Evl.Ex.new h3) (Pre.refl _) ds vs q).rep upd_same⟩
          · cases h
        · cases h
    | _ => exact finVal_ok st x st1 r h
end
/-! ### defs -/
def FinF (K : PySem.W.Frag) (S : Hp) (as : List Addr) (H : Hp) (o : Out D) (Q : VK) (E : XK) : Prop := match o with
  | .ok d M' => ∀ S' as' v H', Ext S as H S' as' H' → St K S' as' M' H' → Rep K S' as' d v → Q v H'
  | .er x M' => ∀ S' as' H' dd, Ext S as H S' as' H' → St K S' as' M' H' → ErOk K S' as' H' x dd → E x.cls dd H'
  | .stuck => False
/-- the def of n parameters, N names, body f, as a function of data -/
noncomputable def runF (md : Mode) (n N : Nat) (f : Cs) : List D → C D := fun ds M => if ds.length = n then (match f (ds.map some ++ List.replicate (N - n) none) M with
  | .nx _ M1 => finish md M M1 (.v .non)
  | .rt d M1 => finish md M M1 d
  | .er x _ M1 => .er x M1
  | _ => .stuck) else .stuck
def spOf (K : PySem.W.Frag) (n : Nat) (F : List D → C D) : Sp := fun vs H Q E => ∃ S as M ds, St K S as M H ∧ Reps K S as ds vs ∧ ds.length = n ∧ FinF K S as H (F ds M) Q E
theorem FinF.pre {K : PySem.W.Frag} {S S0 : Hp} {as as0 : List Addr} {H H0 : Hp} {o : Out D} {Q : VK} {E : XK} (e : Ext S0 as0 H0 S as H) (h : FinF K S0 as0 H0 o Q E) : FinF K S as H o Q E := by
  cases o with
  | ok d M' => exact fun S' as' v H' e' => h S' as' v H' (e.trans e')
  | er x M' => exact fun S' as' H' dd e' => h S' as' H' dd (e.trans e')
  | stuck => exact h
theorem reps_env {K : PySem.W.Frag} {S : Hp} {as : List Addr} {ds : List D} {vs : List V} (r : Reps K S as ds vs) (k : Nat) : EnvOk K S as (vs.map some ++ List.replicate k none) (ds.map some ++ List.replicate k none) := by
  have hl := r.length
  refine ⟨by simp [hl], fun i d h => ?_⟩
  by_cases hi : i < ds.length
  · rw [List.getElem?_append_left (by simpa using hi), List.getElem?_map] at h
    cases e : ds[i]? with
    | none => rw [e] at h; cases h
    | some d' =>
      rw [e] at h
      have h : some (some d') = some (some d) := h
      cases h
      obtain ⟨v, h1, h2⟩ := r.get e
      exact ⟨v, by rw [List.getElem?_append_left (by simp; omega), List.getElem?_map, h1]; rfl, h2⟩
  · rw [List.getElem?_append_right (by simpa using hi), List.getElem?_replicate] at h
    split at h <;> cases h
theorem fn_body {P : Program} {w : World} {K : PySem.W.Frag} {mg : Str → Option Value} {base : Heap} {x qual : Str} {st : Stmt} {f : Addr} {fd : FuncData} {N ps : List Str} {k : Nat} (md : Mode) {body : Cs} (F : Fun K x qual st f fd) (sc : FnScope N ps (defScope st))
    (h : ∀ (cdv : Value) (A : Around) (outer : List PySem.Env) (s : Shared) (H : Hp) (E : XK), Room k (A.deeper (envOfC qual (defScope st) s.heap.objs.size f cdv)) → SDs (cxOf (L2.CX P w) P w K mg base N qual (defScope st) f cdv A outer s H E) (fun cls d _ H => E cls d H) (defBody st) body) :
    FnOk P w K mg base (L2.CX P w) (k + 1) f fd ps (spOf K ps.length (runF md ps.length N.length body)) := by
  refine F.okX sc (fun vs H Q E q => ?_) fun cdv A outer s H vs Q E hr q => ⟨_, h cdv A outer s H E hr, ?_⟩
  · obtain ⟨S, as, M, ds, _, r, hl, _⟩ := q
    rw [← r.length, hl]
  · obtain ⟨S, as, M, ds, st0, r, hl, fin⟩ := q
    have hvl := r.length
    refine ⟨S, as, M, ds.map some ++ List.replicate (N.length - ps.length) none, st0, ?_, ?_⟩
    · unfold L2.start
      rw [← hvl, hl]
      exact reps_env r _
    · unfold runF at fin
      rw [if_pos hl] at fin
      cases eb : body (ds.map some ++ List.replicate (N.length - ps.length) none) M with
      | nx ρ1 M1 =>
        simp only [eb] at fin
        intro S1 as1 σ1 H1 x1 st1 env1
        cases ef : finish md M M1 (.v .non) with
        | ok d' M2 =>
          rw [ef] at fin
          obtain ⟨S2, as2, x2, st2, r2⟩ := finish_ok (d := .v .non) (v := .non) st0 x1 st1 ⟨rfl, rfl⟩ ef
          exact fin S2 as2 .non H1 x2 st2 r2
        | er y M2 =>
          exfalso
          cases md <;> simp [finish, finVal] at ef <;> (try split at ef) <;> cases ef
        | stuck => rw [ef] at fin; exact fin.elim
      | rt d M1 =>
        simp only [eb] at fin
        intro S1 as1 v H1 x1 st1 rv
        cases ef : finish md M M1 d with
        | ok d' M2 =>
          rw [ef] at fin
          obtain ⟨S2, as2, x2, st2, r2⟩ := finish_ok st0 x1 st1 rv ef
          exact fin S2 as2 v H1 x2 st2 r2
        | er y M2 =>
          exfalso
          unfold finish finVal at ef
          cases md <;> cases d <;> simp only at ef <;> (repeat' (split at ef)) <;> cases ef
        | stuck => rw [ef] at fin; exact fin.elim
      | er y ρ1 M1 =>
        simp only [eb] at fin
        intro S1 as1 σ1 H1 dd x1 st1 env1 eo
        exact fin S1 as1 H1 dd x1 st1 eo
      | bk ρ1 M1 => simp only [eb] at fin; exact fin.elim
      | ct ρ1 M1 => simp only [eb] at fin; exact fin.elim
      | stuck => simp only [eb] at fin; exact fin.elim
section
variable {X : Cx} {W : WX} {pos : Pos} {e : Expr} {es : List Expr} {fs : Env → C (List D)} {p : Pos} {x : Str} {n : Nat} {md : Mode} {N : Nat} {body : Cs}
/-- a call of a def -/
theorem pd_call {k : Nat} {f : Addr} {fd : FuncData} {ps : List Str} (tk : Takes X W) (G : FnOk X.prog X.w X.K X.mg X.base (L2.CX X.prog X.w) k f fd ps (spOf X.K n (runF md n N body))) (hr : Room k X.A) (hm : X.mg x = some (.ref f)) (hk : PySem.W.keepIn X.K (.ref f) = true) (hb : Binds X.K fd ps []) (ha : PDs X W (e :: es) fs)
    (hg : Gl X x := by rfl) (hdb : (x == ("__debug__" : Str)) = false := by decide) (hs : starEach (e :: es) X.env = (false, eval e X.env) :: starEach es X.env := by rfl) (hpl : (backTo pos (starEach es X.env)).any (·.1) = false := by rfl) : PD X W (.Call (.Name x p) (e :: es) [] pos) (eN (runF md n N body) fs) :=
  (pe_callS G hr hg hm hk hb (fun σ => passAt tk σ) ha hdb hs hpl).up fun σ H Q h => by
    obtain ⟨S, as, M, ρ, st, env, fin⟩ := h
    refine ⟨S, as, M, ρ, st, env, Fin.bind (g := runF md n N body) fin env fun S1 as1 M1 xs vs H1 e1 st1 env1 rx fin1 => ?_⟩
    have hl : xs.length = n := by
      by_cases h : xs.length = n
      · exact h
      · unfold runF at fin1
        rw [if_neg h] at fin1
        exact fin1.elim
    refine ⟨S1, as1, M1, xs, st1, rx, hl, ?_⟩
    cases ef : runF md n N body xs M1 with
    | ok d M2 => rw [ef] at fin1; exact fin1
    | er y M2 =>
      rw [ef] at fin1
      exact fun S' as' H' dd x' s' eo => fin1 S' as' H' dd x' s' (env1.mono x'.same x'.pre) eo
    | stuck => rw [ef] at fin1; exact fin1.elim
end
/-! ### the law's own call -/
theorem sp_law {K : PySem.W.Frag} {H : Hp} {a : Addr} {ns : List Int} {F : List D → C D} (hl : ns.length ≤ 63) (hS : SqL K H a (ns.map V.int)) (h : ∃ M, F [.ro (ns.map fun i => .v (.int i))] [] = .ok (.v (.bl true)) M) : spOf K 1 F [.ref a] H (fun v _ => v = .bl true) (fun _ _ _ => False) := by
  obtain ⟨M, h⟩ := h
  have rs : ∀ ns : List Int, Reps K H [] (ns.map fun i => D.v (.int i)) (ns.map V.int) := by
    intro ns
    induction ns with
    | nil => rfl
    | cons i r ih => exact Reps.cons ⟨rfl, rfl⟩ ih
  refine ⟨H, [], [], [.ro (ns.map fun i => .v (.int i))], ⟨Same.refl _, rfl, List.nodup_nil, fun k c a h _ => by simp at h⟩, Reps.cons ⟨a, _, rfl, hS, rs ns, by rw [List.length_map, sizeLine_eq]; omega⟩ Reps.nil, rfl, ?_⟩
  rw [h]
  intro S' as' v H' _ _ r
  exact r.1
end DL
set_option Elab.async false
set_option maxRecDepth 100000
set_option maxHeartbeats 2000000
namespace DL
open PySem PySem.Spec PyProof.Rows L2
theorem hu65 {A : Around} {k : Nat} (hr : Room k A) : A.units + 65 < cLine := by
  have := hr.un
  omega
theorem tk_of {P : Program} {w : World} {K : PySem.W.Frag} {mg : Str → Option Value} {base : Heap} {N : List Str} {qual : Str} {sc : Scope} {f : Addr} {cdv : Value} {A : Around} {outer : List PySem.Env} {s : Shared} {H : Hp} {E : XK} :
    Takes (cxOf (L2.CX P w) P w K mg base N qual sc f cdv A outer s H E) (fun cls d _ H => E cls d H) := takes_of rfl rfl rfl rfl
theorem cx_false {P : Program} {w : World} {l : List PySem.Env} {H : Hp} {s : Shared} {e : Value} {s' : Shared} (h : L2.CX P w l H s (fun _ _ _ => False) e s') : False := by
  obtain ⟨_, _, _, _, _, _, _, _, _, _, _, _, z⟩ := h
  exact z.elim
end DL
set_option Elab.async false
set_option maxRecDepth 100000
set_option maxHeartbeats 4000000
namespace DL
open PySem PySem.Calls PySem.W PySem.Spec PyProof.Rows PyProof.V L2 RT
section
variable {prog : Program} {w : World} {A : Around} {E : Value → Shared → Prop} {s : Shared}
theorem rv_extend {R : Result → Shared → Prop} {it l S : Addr} {items : Array Value} {c₀ : Nat} (hh : A.handled = none) (hit : s.heap.IsRevIter it l ((items.size : Int) - 1)) (hl : s.heap.IsList l items) (hne : l ≠ it) (hn : items.size ≤ sizeLine)
    (hSi : S ≠ it) (hSl : S ≠ l) (hS : s.heap.get? S = some { cls := .type "list", data := .seq #[] c₀ })
    (hR : ∀ h' tk acc' c', (∀ b o, b ≠ S → b ≠ it → s.heap.get? b = some o → h'.get? b = some o) → h'.get? S = some { cls := .type "list", dict := none, data := .seq acc' c', slots := #[] } → ItemsOf (fun i v => items[items.size - 1 - i]? = some v) acc' items.size → R (.ok (.ret .none)) { s with heap := h', toks := tk }) :
    wpAny (model prog w) A.in1 (Builtin.List.listExtendWith (.ref S) (.ref it) .none)
      (fun fin s' => match fin with | .done f => R (.ok f) s' | .again c' => c'.quiet = true ∧ codeAny (model prog w) A c' R s') (fun e s' => R (.error e) s') s := by
  have W := (Walks.listRev (prog := prog) (w := w) (A := A.in1) hh it l hne items).toS
  have hSf : S ∉ [it, l] := by simp only [List.mem_cons, List.not_mem_nil, or_false, not_or]; exact ⟨hSi, hSl⟩
  have hT : s.TypeIs (.ref it) "list_reverseiterator" := Heap.IsRevIter.typeIs hit
  have h1 : Builtin.List.listSameRef (.ref S) (.ref it) = false := by simp [Builtin.List.listSameRef, hSi]
  unfold Builtin.List.listExtendWith
  refine wpAny_bind (wpAny_typeOf hT ?_)
  rw [if_neg (by rw [h1]; decide)]
  refine wpAny_bind (wpAny_pyIter_revIter hit ?_)
  refine wpAny_bind (wpAny_holding ?_)
  unfold Builtin.List.listLengthHint
  refine wpAny_bind (wpAny_specialOf hT nolen_lri ?_)
  show wpAny _ A.in1 (specialOf (Value.ref it) (Str.ofString "__length_hint__") >>= _) _ _ _
  refine wpAny_bind (wpAny_specialOf hT hint_lri ?_)
  generalize hid : ("list_reverseiterator.__length_hint__" : String) = id0
  wp_delta
  rw [show splitId id0 = some ("list_reverseiterator", "__length_hint__") from by subst hid; decide +kernel]
  subst hid
  refine wpAny_bind (wpAny_isInstance (b := true) hT (by rw [isSubtype_type]; kernel_rfl) ?_)
  refine wpAny_pure ?_
  rw [if_neg (by decide)]
  have e0 : ((items.size : Nat) : Int) - 1 - ((0 : Nat) : Int) = (items.size : Int) - 1 := by omega
  refine wpAny_pure ⟨plainId_quiet F.plain_extend_loop _, codeAny_extend_loopS W hn _ hSf _ items.size 0 _ _ _ rfl (Nat.zero_le _) ⟨Nat.zero_le _, by rw [e0]; exact hit, hl⟩ hS (ItemsOf.nil _) fun s' acc' c' hm hS' hacc => ?_⟩
  rw [Moved.eq_with hm]
  refine hR s'.heap s'.toks acc' c' (fun b o hb hbi e => hm.heap b o (fun hmem => ?_) e) hS' hacc
  rcases List.mem_cons.mp hmem with e' | hmem
  · exact hb e'
  · exact hbi (List.mem_singleton.mp hmem)
theorem call_list_rev {it l : Addr} {items : Array Value} {Q : Value → Shared → Prop} (hh : A.handled = none) (hit : s.heap.IsRevIter it l ((items.size : Int) - 1)) (hl : s.heap.IsList l items) (hne : l ≠ it) (hn : items.size ≤ sizeLine)
    (hQ : ∀ h' tk acc' c', (∀ b o, b ≠ it → s.heap.get? b = some o → h'.get? b = some o) → h'.get? s.heap.objs.size = some { cls := .type "list", dict := none, data := .seq acc' c', slots := #[] } → ItemsOf (fun i v => items[items.size - 1 - i]? = some v) acc' items.size → Q (.ref s.heap.objs.size) { s with heap := h', toks := tk }) :
    wpAny (model prog w) A (call (.type "list") [.ref it]) Q E s := by
  refine callType_codes (Q₁ := fun obj s₁ => obj = .ref s.heap.objs.size ∧ s₁ = { s with heap := s.heap.push { cls := .type "list", data := .seq #[] } }) PySem.F.called_list (PySem.F.typeCall_list_1 _) PySem.F.entry_list_init
    (code_list_new _ ⟨rfl, rfl⟩) fun obj s₁ h₁ => ?_
  obtain ⟨rfl, rfl⟩ := h₁
  obtain ⟨oi, hoi, _⟩ := id hit
  obtain ⟨ol, hol, _⟩ := id hl
  have hSi : s.heap.objs.size ≠ it := Nat.ne_of_gt (Heap.lt_size hoi)
  have hSl : s.heap.objs.size ≠ l := Nat.ne_of_gt (Heap.lt_size hol)
  have hS : (s.heap.push { cls := .type "list", data := .seq #[] }).get? s.heap.objs.size = some { cls := .type "list", data := .seq #[] } := Heap.get?_push_size _ rfl
  refine ⟨⟨_, hS, rfl⟩, PySem.F.args_list_init_2 _ _, ?_⟩
  show wpAny _ _ (do let old ← Builtin.List.listItems (.ref s.heap.objs.size); Builtin.List.listUpdate (.ref s.heap.objs.size) (fun _ => #[]); letGo old.toList.reverse; Builtin.List.listExtendWith (.ref s.heap.objs.size) (.ref it) .none) _ _ _
  refine wpAny_bind ?_
  unfold Builtin.List.listItems
  refine wpAny_bind (wpAny_seqItems hS rfl (wpAny_pure ?_))
  show wpAny _ _ (updateSeq s.heap.objs.size (fun _ => #[]) >>= fun _ => letGo (#[] : Array Value).toList.reverse >>= fun _ => Builtin.List.listExtendWith (.ref s.heap.objs.size) (.ref it) .none) _ _ _
  refine wpAny_bind (wpAny_updateSeq hS rfl ?_)
  have hS₂ := Heap.get?_update_self (Obj.mapSeq (fun _ => (#[] : Array Value))) hS rfl
  have oth : ∀ b o, b ≠ s.heap.objs.size → s.heap.get? b = some o → ((s.heap.push { cls := .type "list", data := .seq #[] }).update s.heap.objs.size (Obj.mapSeq (fun _ => (#[] : Array Value)))).get? b = some o :=
    fun b o hb e => (Heap.get?_update_other _ _ (Ne.symm hb)).trans (Heap.get?_push_of_some _ e)
  refine wpAny_bind (wpAny_letGo ?_)
  refine rv_extend (A := A.in1) hh (hit.at fun o e => oth it o hSi.symm e) ?_ hne hn hSi hSl hS₂ fun h' tk acc' c' hk hS' hacc => ?_
  · obtain ⟨o, ho, r⟩ := hl
    exact ⟨o, oth l o hSl.symm ho, r⟩
  · exact ⟨rfl, hQ h' tk acc' c' (fun b o hb e => hk b o (Nat.ne_of_lt (Heap.lt_size e)) hb (oth b o (Nat.ne_of_lt (Heap.lt_size e)) e)) hS' hacc⟩
end
def tLstRev (K : PySem.W.Frag) (te : TE) : TE := fun σ H Q => te σ H fun v H1 => ∃ (a : Addr) (xs : List V), v = .ref a ∧ SqL K H1 a xs ∧ ∀ q, H1 q = none → Q (.ref q) (upd H1 q (.lst xs.reverse))
theorem pe_lstRev {X : Cx} {e : Expr} {te : TE} {p p2 pos pos2 : Pos} (hc : X.calm = true) (hg : Gl X "list") (hm : X.mg "list" = none) (hg2 : Gl X "reversed") (hm2 : X.mg "reversed" = none) (he : PE X e te)
    (hs : starEach [e] X.env = (false, eval e X.env) :: starEach [] X.env := by rfl)
    (hs2 : starEach [.Call (.Name "reversed" p2) [e] [] pos2] X.env = (false, eval (.Call (.Name "reversed" p2) [e] [] pos2) X.env) :: starEach [] X.env := by rfl) :
    PE X (.Call (.Name "list" p) [.Call (.Name "reversed" p2) [e] [] pos2] [] pos) (tLstRev X.K te) := by
  refine ⟨fun pins s σ H Q I h => ?_⟩
  refine Call_ (ld_blt I hg hm boot_list (PyProof.Rows.callWith_type1 (args_cons (Call_ (ld_blt I hg2 hm2 PyProof.Rows.boot_reversed (PyProof.Rows.callWith_type1 (args_cons (thn (he.run pins s σ H _ I h) fun u s1 ⟨v, H1, I1, r1, q1⟩ => args_nil ?_) hs) hs rfl))) hs2) hs2 rfl))
  obtain ⟨a, xs, ev, hq, q⟩ := q1
  subst ev
  obtain rfl : u = Value.ref a := r1
  obtain ⟨its, rv, p', hz⟩ := I1.list hq
  refine call_reversed_list p'.isList (args_nil ?_)
  have k0 : ∀ b o, s1.heap.get? b = some o → (s1.heap.push (revObj a ((its.toArray.size : Int) - 1))).get? b = some o := fun b o e => Heap.get?_push_of_some _ e
  have I2 : Inv X pins σ H1 { s1 with heap := s1.heap.push (revObj a ((its.toArray.size : Int) - 1)) } := I1.kept (t' := s1.toks) k0
  obtain ⟨f0, f1, f2, f3, f4, f5⟩ := I1.fpOk (H' := H1) (b := s1.heap.objs.size) (Nat.le_refl _) (I1.hok.fresh (Nat.le_refl _))
  have hl := p'.isList
  obtain ⟨ol, hol, _⟩ := id hl
  have hne : a ≠ s1.heap.objs.size := Nat.ne_of_lt (Heap.lt_size hol)
  have hn : its.toArray.size ≤ sizeLine := by rw [List.size_toArray, ← rv.length]; exact hz
  refine call_list_rev (s := { s1 with heap := s1.heap.push (revObj a ((its.toArray.size : Int) - 1)) }) (I1.ok.hd hc) ⟨_, Heap.get?_push_size _ rfl, rfl, rfl⟩ (hl.push _) hne hn fun h' tk acc c' hk hS hi => ?_
  have I3 : Inv X pins σ H1 { s1 with heap := h', toks := tk } := I2.turned (t' := tk) (fun b o hb e => hk b o hb e) f0 f1 f3 f4 f5
  have hfresh : H1 (s1.heap.push (revObj a ((its.toArray.size : Int) - 1))).objs.size = none := I2.hok.fresh (Nat.le_refl _)
  have un : Un (frs X.stack) [s1.heap.objs.size] H1 H1 (s1.heap.push (revObj a ((its.toArray.size : Int) - 1))) h' := by
    refine ⟨fun b o e n _ hx => hk b o (by simpa using hx) e, fun b o e n _ hx => ⟨o.slots, hk b o (by simpa using hx) e⟩, fun b o e n hx => n, fun b o e hx => ⟨o, hk b o (by simpa using hx) e⟩, fun _ _ e => e, fun _ _ _ e => e, fun b ps e => ⟨#[], by rw [e]; simp⟩⟩
  have hvals : Vals xs.reverse acc.toList := vals_rev rv hi
  refine ⟨.ref (s1.heap.push (revObj a ((its.toArray.size : Int) - 1))).objs.size, upd H1 _ (.lst xs.reverse), Inv.drained (s' := { s1 with heap := h', toks := tk }) I2 (Nat.le_refl _) (by rw [List.length_reverse]; exact hz) hS hvals ?_ rfl I3.bare un I3.hok hfresh, rfl, q _ hfresh⟩
  intro b hb
  have e : b = s1.heap.objs.size := by simpa using hb
  subst e
  exact ⟨f3, f1, f4, f5⟩
section
variable {X : Cx} {W : WX} {pos pos2 : Pos} {a : Expr} {fa : Env → C D} {p p2 : Pos}
/-- list(reversed(x)) -/
def gRevL (mk : List D → Mem → Out D) : D → C D := fun x M => match lstOf M x with
  | some ds => mk ds.reverse M
  | none => .stuck
theorem pd_revL {mk : List D → Mem → Out D} (hc : X.calm = true) (hmk : MkN X.K mk) (hm : X.mg "list" = none) (hm2 : X.mg "reversed" = none) (ha : PD X W a fa) (hg : Gl X "list" := by rfl) (hg2 : Gl X "reversed" := by rfl)
    (hs : starEach [a] X.env = (false, eval a X.env) :: starEach [] X.env := by rfl)
    (hs2 : starEach [.Call (.Name "reversed" p2) [a] [] pos2] X.env = (false, eval (.Call (.Name "reversed" p2) [a] [] pos2) X.env) :: starEach [] X.env := by rfl) : PD X W (.Call (.Name "list" p) [.Call (.Name "reversed" p2) [a] [] pos2] [] pos) (e1 (gRevL mk) fa) := (pe_lstRev hc hg hm hg2 hm2 ha hs hs2).up fun σ H Q h => by
  obtain ⟨S, as, M, ρ, st, env, fin⟩ := h
  refine ⟨S, as, M, ρ, st, env, Fin.bind (g := gRevL mk) fin env fun S1 as1 M1 x v H1 e1 st1 env1 rx fin1 => ?_⟩
  unfold gRevL at fin1
  split at fin1
  · rename_i ds hd
    obtain ⟨b, us, h1, h2, h3, h4⟩ := lst_of st1 rx hd
    exact ⟨b, us, h1, h2, fun q n => hmk S1 as1 H1 W σ ρ M1 ds.reverse us.reverse q Q st1 n h3.rev (by rw [List.length_reverse]; exact h4) fin1⟩
  · exact fin1.elim
end
end DL

set_option Elab.async false
set_option maxRecDepth 100000
set_option maxHeartbeats 2000000
namespace DL
open PySem PySem.Spec PyProof.Rows L2
/-! ### instances of own classes -/
theorem clsA_of {K : PySem.W.Frag} {n : Str} {a : Addr} (h : PySem.W.nsIn K mainGlobals n = some (some (.ref a))) : clsA K n = a := by
  unfold clsA; rw [h]
def lookF : List Str → List D → Str → Option D
  | n :: ns, d :: ds, f => if (f == n) = true then some d else lookF ns ds f
  | _, _, _ => none
def putN : List Str → Str → List Str
  | [], f => [f]
  | n :: ns, f => if n = f then n :: ns else n :: putN ns f
def putD : List Str → List D → Str → D → List D
  | n :: ns, x :: ds, f, d => if n = f then d :: ds else x :: putD ns ds f d
  | _, _, _, d => [d]
def insOf (M : Mem) : D → Option (Str × List Str × List D)
  | .ins C ns ds => some (C, ns, ds)
  | .h k => match M[k]? with
    | some (.ins C ns ds) => some (C, ns, ds)
    | _ => none
  | _ => none
section
variable {K : PySem.W.Frag} {S : Hp} {as : List Addr} {M : Mem} {H : Hp}
theorem ins_of {d : D} {v : V} {C : Str} {ns : List Str} {ds : List D} (st : St K S as M H) (r : Rep K S as d v) (h : insOf M d = some (C, ns, ds)) :
    ∃ a dx fs, v = .ref a ∧ H a = some (.ins (clsA K C) dx fs) ∧ fs.map (·.1) = ns ∧ Reps K S as ds (fs.map (·.2)) := by
  cases d with
  | ins C' ns' ds' =>
    cases h
    obtain ⟨a, dx, fs, h1, h2, h3, h4⟩ := r
    exact ⟨a, dx, fs, h1, st.ex _ _ h2, h3, h4⟩
  | h k =>
    unfold insOf at h
    cases e : M[k]? with
    | none => simp only [e] at h; cases h
    | some c =>
      simp only [e] at h
      cases c with
      | ins C' ns' ds' =>
        cases h
        obtain ⟨a, h1, h2⟩ := r
        obtain ⟨_, ho, h3, h4⟩ := st.cell k _ a e h1
        cases ho with
        | ins C2 dx fs =>
          obtain ⟨q1, q2, q3⟩ := h4
          subst q1
          exact ⟨a, dx, fs, h2, h3, q2, q3⟩
        | _ => exact h4.elim
      | _ => cases h
  | _ => cases h
theorem look_some : ∀ {fs : List (Str × V)} {ns : List Str} {ds : List D} {f : Str} {d : D}, fs.map (·.1) = ns → Reps K S as ds (fs.map (·.2)) → lookF ns ds f = some d → ∃ v, fs.lookup f = some v ∧ Rep K S as d v
  | [], ns, ds, f, d, h, r, e => by
    subst h; simp [lookF] at e
  | (n, x) :: fs, ns, ds, f, d, h, r, e => by
    subst h
    cases ds with
    | nil => exact absurd r (by simp [Reps])
    | cons y ds =>
      obtain ⟨v, vs, h1, h2, h3⟩ := r
      rw [List.map_cons] at h1
      cases h1
      rw [List.map_cons] at e
      unfold lookF at e
      by_cases hb : (f == n) = true
      · rw [if_pos hb] at e
        cases e
        exact ⟨x, by simp only [List.lookup, hb], h2⟩
      · rw [if_neg hb] at e
        obtain ⟨v, h4, h5⟩ := look_some rfl h3 e
        exact ⟨v, by
          have hb : (f == n) = false := by simpa using hb
          simp only [List.lookup, hb]; exact h4, h5⟩
theorem look_none : ∀ {fs : List (Str × V)} {ns : List Str} {f : Str}, fs.map (·.1) = ns → ns.contains f = false → fs.lookup f = none
  | [], ns, f, h, e => rfl
  | (n, x) :: fs, ns, f, h, e => by
    subst h
    rw [List.map_cons, List.contains_cons, Bool.or_eq_false_iff] at e
    simp only [List.lookup, e.1]
    exact look_none rfl e.2
theorem put_names : ∀ {fs : List (Str × V)} {ns : List Str} {f : Str} {v : V}, fs.map (·.1) = ns → (putF f v fs).map (·.1) = putN ns f
  | [], ns, f, v, h => by subst h; rfl
  | (n, x) :: fs, ns, f, v, h => by
    subst h
    unfold putF
    rw [List.map_cons]
    unfold putN
    by_cases hn : n = f
    · rw [if_pos hn, if_pos hn]; rfl
    · rw [if_neg hn, if_neg hn, List.map_cons, put_names rfl]
theorem put_vals : ∀ {fs : List (Str × V)} {ns : List Str} {ds : List D} {f : Str} {d : D} {v : V}, fs.map (·.1) = ns → Reps K S as ds (fs.map (·.2)) → Rep K S as d v → Reps K S as (putD ns ds f d) ((putF f v fs).map (·.2))
  | [], ns, ds, f, d, v, h, r, q => by
    subst h
    have : ds = [] := by
      cases ds with
      | nil => rfl
      | cons y ds => obtain ⟨_, _, h, _⟩ := r; cases h
    subst this
    exact Reps.cons q Reps.nil
  | (n, x) :: fs, ns, ds, f, d, v, h, r, q => by
    subst h
    cases ds with
    | nil => exact absurd r (by simp [Reps])
    | cons y ds =>
      obtain ⟨v', vs, h1, h2, h3⟩ := r
      rw [List.map_cons] at h1
      cases h1
      unfold putF
      rw [List.map_cons]
      unfold putD
      by_cases hn : n = f
      · rw [if_pos hn, if_pos hn]; exact Reps.cons q h3
      · rw [if_neg hn, if_neg hn]; exact Reps.cons h2 (put_vals rfl h3 q)
theorem put_len : ∀ {ns : List Str} {f : Str}, (putN ns f).length ≤ ns.length + 1
  | [], f => by simp [putN]
  | n :: ns, f => by
    unfold putN
    split
    · simp
    · have := @put_len ns f
      simp; omega
theorem St.beside {p : Addr} {o : HO} (st : St K S as M H) (n : H p = none) : St K S as M (upd H p o) :=
  ⟨fun b ob e => by rw [upd_ne (ne_of_none (st.ex b ob e) n)]; exact st.ex b ob e, st.len, st.nd, fun k c a h1 h2 => by
    obtain ⟨s0, ho, e, r⟩ := st.cell k c a h1 h2
    exact ⟨s0, ho, by rw [upd_ne (ne_of_none e n)]; exact e, r⟩⟩
theorem Ext.beside {p : Addr} {o : HO} (n : H p = none) : Ext S as H S as (upd H p o) :=
  ⟨Same.refl _, Pre.refl _, fun a ob h na => ⟨by rw [upd_ne (ne_of_none h n)]; exact h, na, fun z => z⟩⟩
end
/-- the classes cs with the attribute f of their instances -/
structure FldOk (K : PySem.W.Frag) (cs : List Str) (f : Str) : Prop where
  ok : ∀ C ∈ cs, Cls K (clsA K C) ∧ NoAttr K (clsA K C) f
theorem FldOk.nil {K : PySem.W.Frag} {f : Str} : FldOk K [] f := ⟨fun _ h => by simp at h⟩
theorem FldOk.cons {K : PySem.W.Frag} {C : Str} {cs : List Str} {f : Str} (c : Cls K (clsA K C)) (n : NoAttr K (clsA K C) f) (h : FldOk K cs f) : FldOk K (C :: cs) f := ⟨fun D hD => by
  rcases List.mem_cons.mp hD with e | e
  · subst e; exact ⟨c, n⟩
  · exact h.ok D e⟩
/-- o.f -/
def gFld (cs : List Str) (f : Str) : D → C D := fun x M => match insOf M x with
  | some (C, ns, ds) => if cs.contains C = true then (match lookF ns ds f with
    | some d => .ok d M
    | none => .stuck) else .stuck
  | none => .stuck
section
variable {X : Cx} {W : WX} {pos : Pos} {e o : Expr} {es : List Expr} {fe fo : Env → C D} {fs : Env → C (List D)}
theorem pd_fld {cs : List Str} {f : Str} (hc : FldOk X.K cs f) (ho : PD X W o fo) (hb : attributeBase o f X.env (eval o X.env) = eval o X.env := by rfl) : PD X W (.Attribute o f pos) (e1 (gFld cs f) fo) :=
  (pe_fld ho hb).up fun σ H Q h => by
    obtain ⟨S, as, M, ρ, st, env, fin⟩ := h
    refine ⟨S, as, M, ρ, st, env, Fin.bind (g := gFld cs f) fin env fun S1 as1 M1 x v H1 e1 st1 env1 rx fin1 => ?_⟩
    unfold gFld at fin1
    split at fin1
    · rename_i C ns ds hi
      split at fin1
      · rename_i hC
        obtain ⟨a, dx, fs, h1, h2, h3, h4⟩ := ins_of st1 rx hi
        obtain ⟨c, n⟩ := hc.ok C (by simpa using hC)
        cases el : lookF ns ds f with
        | none => simp only [el] at fin1; exact fin1.elim
        | some d =>
          simp only [el] at fin1
          obtain ⟨u, h5, h6⟩ := look_some h3 h4 el
          exact ⟨a, _, dx, fs, u, h1, h2, c, n, h5, fin_ok st1 h6 fin1⟩
      · exact fin1.elim
    · exact fin1.elim
/-- o.f = e -/
def putM (cs : List Str) (f : Str) (M : Mem) (o d : D) : Option Mem := match o with
  | .h k => match M[k]? with
    | some (.ins C ns ds) => if (cs.contains C && decide (ns.length < 1000)) = true then some (M.set k (.ins C (putN ns f) (putD ns ds f d))) else none
    | _ => none
  | _ => none
def sPut (cs : List Str) (f : Str) (fo fe : Env → C D) : Cs := fun ρ => sE (fe ρ) ρ fun d => sE (fo ρ) ρ fun o M => match putM cs f M o d with
  | some M' => .nx ρ M'
  | none => .stuck
theorem sd_put {cs : List Str} {f : Str} {tp : Pos} (hc : FldOk X.K cs f) (ho : PD X W o fo) (he : PD X W e fe) (hs : swapsWith e (some (.Attribute o f tp)) pos.line X.env = pure false := by rfl) : SD X W (.Assign [.Attribute o f tp] e pos) (sPut cs f fo fe) :=
  (ps_fld ho he hs).up fun De σ H h => by
    obtain ⟨S, as, M, ρ, st, env, fin⟩ := h
    refine ⟨S, as, M, ρ, st, env, FinS.bindE (g := fun d => sE (fo ρ) ρ fun o M => match putM cs f M o d with
      | some M' => .nx ρ M'
      | none => .stuck) fin env fun S1 as1 M1 d v H1 e1 st1 env1 rd fin1 => ?_⟩
    refine ⟨S1, as1, M1, ρ, st1, env1, FinS.bindE (g := fun o M => match putM cs f M o d with
      | some M' => .nx ρ M'
      | none => .stuck) fin1 env1 fun S2 as2 M2 o' ov H2 e2 st2 env2 ro fin2 => ?_⟩
    have rd2 := Rep.mono e2.same e2.pre _ _ rd
    split at fin2
    · rename_i M' hM
      unfold putM at hM
      split at hM
      · rename_i k
        split at hM
        · rename_i C ns ds hk
          split at hM
          · rename_i hcl
            cases hM
            rw [Bool.and_eq_true, decide_eq_true_iff] at hcl
            obtain ⟨a, h1, h2⟩ := id ro
            obtain ⟨a', dx, fs, h3, h4, h5, h6⟩ := ins_of (C := C) (ns := ns) (ds := ds) st2 ro (by unfold insOf; simp only [hk])
            subst h2
            cases h3
            obtain ⟨c, n⟩ := hc.ok C (by simpa using hcl.1)
            have hlen : ns.length = fs.length := by rw [← h5, List.length_map]
            refine ⟨a, _, dx, fs, rfl, h4, c, n, by omega, ?_⟩
            have stw := st2.write (c := .ins C (putN ns f) (putD ns ds f d)) (ho := .ins (clsA X.K C) dx (putF f v fs)) hk h1 ⟨rfl, put_names h5, put_vals h5 h6 rd2⟩
            exact fin2 S2 as2 σ _ (Ext.write h1) stw env2
          · cases hM
        · cases hM
      · cases hM
    · exact fin2.elim
/-! ### methods -/
/-- one of two denotations -/
theorem pd_orC {f f1 f2 : Env → C D} (h1 : PD X W e f1) (h2 : PD X W e f2) (hc : ∀ ρ M, f ρ M = .stuck ∨ f ρ M = f1 ρ M ∨ f ρ M = f2 ρ M) : PD X W e f :=
  (PE.or h1 h2).up fun σ H Q h => by
    obtain ⟨S, as, M, ρ, st, env, fin⟩ := h
    rcases hc ρ M with e0 | e0 | e0
    · rw [e0] at fin; exact fin.elim
    · rw [e0] at fin; exact .inl ⟨S, as, M, ρ, st, env, fin⟩
    · rw [e0] at fin; exact .inr ⟨S, as, M, ρ, st, env, fin⟩
abbrev MTab := List (Str × (List D → C D))
def mget : MTab → Str → Option (List D → C D)
  | [], _ => none
  | (n, F) :: r, c => if (n == c) = true then some F else mget r c
def eMc (m : Str) (tb : MTab) (fo : Env → C D) (fs : Env → C (List D)) : Env → C D := fun ρ => (fo ρ).bind fun x M => match insOf M x with
  | some (c, ns, _) => if ns.contains m = true then .stuck else (match mget tb c with
    | some F => (fs ρ).bind (fun xs => F (x :: xs)) M
    | none => .stuck)
  | none => .stuck
theorem pd_methCons {m : Str} {c : Str} {F : List D → C D} {tb : MTab} (h1 : PD X W e (eMc m [(c, F)] fo fs)) (h2 : PD X W e (eMc m tb fo fs)) : PD X W e (eMc m ((c, F) :: tb) fo fs) :=
  pd_orC h1 h2 fun ρ M => by
    unfold eMc C.bind
    cases fo ρ M with
    | ok x M1 =>
      simp only
      cases insOf M1 x with
      | none => exact .inl rfl
      | some q =>
        obtain ⟨c', ns, ds⟩ := q
        simp only
        by_cases hn : ns.contains m = true
        · rw [if_pos hn]; exact .inl rfl
        · rw [if_neg hn, if_neg hn, if_neg hn]
          simp only [mget]
          by_cases hc : (c == c') = true
          · rw [if_pos hc]; exact .inr (.inl (by rw [if_pos hc]))
          · rw [if_neg hc]; exact .inr (.inr rfl)
    | er x M1 => exact .inr (.inl rfl)
    | stuck => exact .inl rfl
end
def tMethD (K : PySem.W.Frag) (Ca : Addr) (m : Str) (sp : Sp) (E : L2.St → XK) (ta : TE) (t : TA) : TE := fun σ H Q => ta σ H fun x H1 => ∃ a dx fs, x = .ref a ∧ H1 a = some (.ins Ca dx fs) ∧ fs.lookup m = none ∧
  t σ H1 fun vs H2 => sp (x :: vs) H2 Q (E σ)
section
variable {X : Cx} {CX : CXT} {k : Nat} {f Ca : Addr} {fd : FuncData} {ps : List Str} {sp : Sp} {E : L2.St → XK} {m : Str} {pos apos : Pos} {e o : Expr} {es : List Expr} {ta : TE} {t : TA}
theorem pe_methD {pl : Sem Bool} (ho : PE X o ta) (c : Cls X.K Ca) (hm : Meth X.K Ca m f) (F : FnOk X.prog X.w X.K X.mg X.base CX k f fd ps sp) (room : Room k X.A) (bi : Binds X.K fd ps []) (pass : ∀ σ, PassesAt CX X σ (E σ)) (has : PA X (e :: es) t)
    (hst : starEach (e :: es) X.env = (false, eval e X.env) :: starEach es X.env := by rfl) (hpl : (backTo pos (starEach es X.env)).any (·.1) = false := by rfl)
    (ht : eval (.Call (.Attribute o m apos) (e :: es) [] pos) X.env = (do
      let rv ← eval o X.env
      standAt apos.atName
      let (g, fst) ← holding [rv] (getMethod rv m pl)
      callWith pos g fst (backTo pos (starEach (e :: es) X.env)) (backToKw pos (keywordEach [] X.env))) := by rfl) :
    PE X (.Call (.Attribute o m apos) (e :: es) [] pos) (tMethD X.K Ca m sp E ta t) := ⟨fun pins s σ H Q I h => by
  refine PySem.W.methodCall_KW (pl := pl) (thn (ho.run pins s σ H _ I h) ?_) ht
  rintro u s1 ⟨x, H1, I1, rx, a, dx, fs, hx, ha, hl, q⟩
  subst hx
  obtain rfl : u = Value.ref a := rx
  refine getmeth_ok I1 ha c hm hl (PySem.W.callWith_K (h₀ := X.base) (first := [.ref a]) I.ok.mod.kin hm.kp (thn (has.run pos pins s1 σ H1 _ I1 q) ?_) hst hpl)
  rintro us s2 ⟨vs, H2, I2, r, q2⟩
  exact ⟨I2.kIn, run_fnSD (dvs := []) (ds := []) (vs := .ref a :: vs) (us := .ref a :: us) F room bi .nil (pass σ) I2 (.cons rfl r) (by rw [List.append_nil]; exact q2)⟩⟩
theorem pe_methD0 {pl : Sem Bool} (ho : PE X o ta) (c : Cls X.K Ca) (hm : Meth X.K Ca m f) (F : FnOk X.prog X.w X.K X.mg X.base CX k f fd ps sp) (room : Room k X.A) (bi : Binds X.K fd ps []) (pass : ∀ σ, PassesAt CX X σ (E σ))
    (ht : eval (.Call (.Attribute o m apos) [] [] pos) X.env = (do
      let rv ← eval o X.env
      standAt apos.atName
      let (g, fst) ← holding [rv] (getMethod rv m pl)
      callWith pos g fst (backTo pos (starEach [] X.env)) (backToKw pos (keywordEach [] X.env))) := by rfl) :
    PE X (.Call (.Attribute o m apos) [] [] pos) (tMethD X.K Ca m sp E ta tNil) := ⟨fun pins s σ H Q I h => by
  refine PySem.W.methodCall_KW (pl := pl) (thn (ho.run pins s σ H _ I h) ?_) ht
  rintro u s1 ⟨x, H1, I1, rx, a, dx, fs, hx, ha, hl, q⟩
  subst hx
  obtain rfl : u = Value.ref a := rx
  exact getmeth_ok I1 ha c hm hl (PySem.W.callWith_K0 (first := [.ref a]) I1.kIn hm.kp (run_fnSD (dvs := []) (ds := []) (vs := [.ref a]) (us := [.ref a]) F room bi .nil (pass σ) I1 (.cons rfl .nil) q))⟩
end
section
variable {X : Cx} {W : WX} {pos apos p : Pos} {e o : Expr} {es : List Expr} {fo : Env → C D} {fs : Env → C (List D)} {m c x : Str} {n : Nat} {md : Mode} {N : Nat} {body : Cs} {k : Nat} {f : Addr} {fd : FuncData} {ps : List Str}
/-- what a callee's outcome is for the caller -/
theorem fin_callee {S1 : Hp} {as1 : List Addr} {M1 : Mem} {xs : List D} {H1 : Hp} {σ : L2.St} {ρ : Env} {Q : VK} {vs : List V} (st1 : St X.K S1 as1 M1 H1) (env1 : EnvOk X.K S1 as1 σ ρ) (rx : Reps X.K S1 as1 xs vs) (fin1 : Fin (RepR X.K) X.K S1 as1 H1 W σ ρ (runF md n N body xs M1) Q) :
    spOf X.K n (runF md n N body) vs H1 Q (WE W σ) := by
  have hl : xs.length = n := by
    by_cases h : xs.length = n
    · exact h
    · unfold runF at fin1
      rw [if_neg h] at fin1
      exact fin1.elim
  refine ⟨S1, as1, M1, xs, st1, rx, hl, ?_⟩
  cases ef : runF md n N body xs M1 with
  | ok d M2 => rw [ef] at fin1; exact fin1
  | er y M2 =>
    rw [ef] at fin1
    exact fun S' as' H' dd x' s' eo => fin1 S' as' H' dd x' s' (env1.mono x'.same x'.pre) eo
  | stuck => rw [ef] at fin1; exact fin1.elim
theorem meth_up {t0 : TA} (hd : ∀ σ H Q, tDs X.K W fs σ H Q → t0 σ H Q) {σ : L2.St} {H : Hp} {Q : VK} (h : tD X.K W (eMc m [(c, runF md n N body)] fo fs) σ H Q) :
    tMethD X.K (clsA X.K c) m (spOf X.K n (runF md n N body)) (WE W) (tD X.K W fo) t0 σ H Q := by
  obtain ⟨S, as, M, ρ, st, env, fin⟩ := h
  refine ⟨S, as, M, ρ, st, env, Fin.bind (g := fun x M => match insOf M x with
    | some (c', ns, _) => if ns.contains m = true then .stuck else (match mget [(c, runF md n N body)] c' with
      | some F => (fs ρ).bind (fun xs => F (x :: xs)) M
      | none => .stuck)
    | none => .stuck) fin env fun S1 as1 M1 x v H1 e1 st1 env1 rx fin1 => ?_⟩
  split at fin1
  · rename_i c' ns ds hi
    split at fin1
    · exact fin1.elim
    · rename_i hn
      unfold mget at fin1
      by_cases hc : (c == c') = true
      · rw [if_pos hc] at fin1
        have hc := beq_iff_eq.mp hc
        subst hc
        obtain ⟨a, dx, fl, h1, h2, h3, h4⟩ := ins_of st1 rx hi
        refine ⟨a, dx, fl, h1, h2, look_none h3 (by simpa using hn), hd _ _ _ ?_⟩
        refine ⟨S1, as1, M1, ρ, st1, env1, Fin.bind (g := fun xs => runF md n N body (x :: xs)) fin1 env1 fun S2 as2 M2 xs vs H2 e2 st2 env2 rxs fin2 => ?_⟩
        exact fin_callee st2 env2 (Reps.cons (Rep.mono e2.same e2.pre _ _ rx) rxs) fin2
      · rw [if_neg hc] at fin1
        exact fin1.elim
  · exact fin1.elim
theorem pd_meth {pl : Sem Bool} (tk : Takes X W) (cl : Cls X.K (clsA X.K c)) (hm : Meth X.K (clsA X.K c) m f) (G : FnOk X.prog X.w X.K X.mg X.base (L2.CX X.prog X.w) k f fd ps (spOf X.K n (runF md n N body))) (room : Room k X.A) (bi : Binds X.K fd ps []) (ho : PD X W o fo) (ha : PDs X W (e :: es) fs)
    (hst : starEach (e :: es) X.env = (false, eval e X.env) :: starEach es X.env := by rfl) (hpl : (backTo pos (starEach es X.env)).any (·.1) = false := by rfl)
    (ht : eval (.Call (.Attribute o m apos) (e :: es) [] pos) X.env = (do
      let rv ← eval o X.env
      standAt apos.atName
      let (g, fst) ← holding [rv] (getMethod rv m pl)
      callWith pos g fst (backTo pos (starEach (e :: es) X.env)) (backToKw pos (keywordEach [] X.env))) := by rfl) : PD X W (.Call (.Attribute o m apos) (e :: es) [] pos) (eMc m [(c, runF md n N body)] fo fs) :=
  (pe_methD ho cl hm G room bi (fun σ => passAt tk σ) ha hst hpl ht).up fun _ _ _ h => meth_up (fun _ _ _ z => z) h
theorem pd_meth0 {pl : Sem Bool} (tk : Takes X W) (cl : Cls X.K (clsA X.K c)) (hm : Meth X.K (clsA X.K c) m f) (G : FnOk X.prog X.w X.K X.mg X.base (L2.CX X.prog X.w) k f fd ps (spOf X.K n (runF md n N body))) (room : Room k X.A) (bi : Binds X.K fd ps []) (ho : PD X W o fo)
    (ht : eval (.Call (.Attribute o m apos) [] [] pos) X.env = (do
      let rv ← eval o X.env
      standAt apos.atName
      let (g, fst) ← holding [rv] (getMethod rv m pl)
      callWith pos g fst (backTo pos (starEach [] X.env)) (backToKw pos (keywordEach [] X.env))) := by rfl) : PD X W (.Call (.Attribute o m apos) [] [] pos) (eMc m [(c, runF md n N body)] fo eNil) :=
  (pe_methD0 ho cl hm G room bi (fun σ => passAt tk σ) ht).up fun _ _ _ h => meth_up (fun σ H Q z => by
    obtain ⟨S, as, M, ρ, st, env, fin⟩ := z
    exact fin S as [] H (Ext.refl _ _ _) st rfl) h
end
/-! ### a new instance -/
def tMakeD (Ca : Addr) (sp : Sp) (E : L2.St → XK) (t : TA) : TE := fun σ H Q => t σ H fun vs H1 => ∀ x dx, H1 x = none → H1 dx = none → dx ≠ x →
  sp (.ref x :: vs) (upd (upd H1 dx (.own x)) x (.ins Ca dx [])) (fun v H2 => v = .non ∧ Q (.ref x) H2) (E σ)
section
variable {X : Cx} {CX : CXT} {k : Nat} {f Ca : Addr} {fd : FuncData} {ps : List Str} {sp : Sp} {E : L2.St → XK} {x : Str} {p pos : Pos} {e : Expr} {es : List Expr} {t : TA}
theorem run_mkD {pins : List (Addr × Obj)} {σ : L2.St} {H : Hp} {s : Shared} {Q : VK} {us : List Value} {vs : List V} (mk : Mk X.K Ca f) (F : FnOk X.prog X.w X.K X.mg X.base CX k f fd ps sp) (room : Room (k + 1) X.A) (bi : Binds X.K fd ps []) (pass : ∀ σ, PassesAt CX X σ (E σ)) (I : Inv X pins σ H s) (r : Vals vs us)
    (h : ∀ x dx, H x = none → H dx = none → dx ≠ x → sp (.ref x :: vs) (upd (upd H dx (.own x)) x (.ins Ca dx [])) (fun v H2 => v = .non ∧ Q (.ref x) H2) (E σ)) : wpAny (model X.prog X.w) X.A (call (.ref Ca) us) (EP X pins σ Q) X.xe s := by
  have hq := h (s.heap.objs.size + 1) s.heap.objs.size (I.hok.fresh (Nat.le_succ _)) (I.hok.fresh (Nat.le_refl _)) (fun z => absurd z (Nat.ne_of_lt (Nat.lt_succ_self _)))
  have I2 := Inv.made (C := Ca) I
  have r2 : Vals (V.ref (s.heap.objs.size + 1) :: vs) (Value.ref (s.heap.objs.size + 1) :: us) := .cons rfl r
  have hlen : (Value.ref (s.heap.objs.size + 1) :: us ++ []).length = ps.length := by
    rw [List.append_nil, ← r2.length]
    exact F.len _ _ _ _ hq
  have bd := bi _ (Value.ref (s.heap.objs.size + 1) :: us) I2.kIn hlen
  rw [List.append_nil] at bd
  refine wpAny_call (make_map (f := f) I.kIn mk.makes mk.init (beq_iff_eq.mp mk.fn) (codeAny_mono (F.run _ X.stack _ _ _ _ _ _ _ (room.make Ca us []) (I2.env0.make Ca us []) bd r2 hq) ?_))
  intro res s' hr
  cases res with
  | error er => exact pass σ _ _ _ er s' I2 hr
  | ok fl =>
    cases fl with
    | ret u =>
      obtain ⟨v, H', I3, rv, ev, q3⟩ := I2.after hr
      subst ev
      exact ⟨rv, V.ref (s.heap.objs.size + 1), H', I3, rfl, q3⟩
    | next => exact hr.elim
    | brk => exact hr.elim
    | cont => exact hr.elim
theorem pe_makeD (mk : Mk X.K Ca f) (F : FnOk X.prog X.w X.K X.mg X.base CX k f fd ps sp) (room : Room (k + 1) X.A) (hm : X.mg x = some (.ref Ca)) (bi : Binds X.K fd ps []) (pass : ∀ σ, PassesAt CX X σ (E σ)) (ha : PA X (e :: es) t)
    (hg : Gl X x := by rfl) (hdb : (x == ("__debug__" : Str)) = false := by decide) (hst : starEach (e :: es) X.env = (false, eval e X.env) :: starEach es X.env := by rfl) (hpl : (backTo pos (starEach es X.env)).any (·.1) = false := by rfl) :
    PE X (.Call (.Name x p) (e :: es) [] pos) (tMakeD Ca sp E t) := ⟨fun pins s σ H Q I h =>
  wpAny_Call_Name_kw (ld_glob I hg hm (PySem.W.callWith_K (h₀ := X.base) I.ok.mod.kin mk.kp (thn (ha.run pos pins s σ H _ I h) fun us s1 ⟨vs, H1, I1, r, q⟩ => ⟨I1.kIn, run_mkD mk F room bi pass I1 r q⟩) hst hpl) hdb)⟩
theorem pe_makeD0 (mk : Mk X.K Ca f) (F : FnOk X.prog X.w X.K X.mg X.base CX k f fd ps sp) (room : Room (k + 1) X.A) (hm : X.mg x = some (.ref Ca)) (bi : Binds X.K fd ps []) (pass : ∀ σ, PassesAt CX X σ (E σ))
    (hg : Gl X x := by rfl) (hdb : (x == ("__debug__" : Str)) = false := by decide) : PE X (.Call (.Name x p) [] [] pos) (tMakeD Ca sp E tNil) := ⟨fun pins s σ H Q I h =>
  wpAny_Call_Name_kw (ld_glob I hg hm (PySem.W.callWith_K0 I.kIn mk.kp (run_mkD (us := []) mk F room bi pass I .nil h)) hdb)⟩
end
/-- C(..): a new cell, then __init__ -/
def gMake (c : Str) (F : List D → C D) : List D → C D := fun xs M => match F (.h M.length :: xs) (M ++ [.ins c [] []]) with
  | .ok (.v .non) M1 => .ok (.h M.length) M1
  | .er x M1 => .er x M1
  | _ => .stuck
section
variable {X : Cx} {W : WX} {pos p : Pos} {e : Expr} {es : List Expr} {fs : Env → C (List D)} {c x : Str} {n : Nat} {md : Mode} {N : Nat} {body : Cs} {k : Nat} {f : Addr} {fd : FuncData} {ps : List Str}
theorem make_up {t0 : TA} (hd : ∀ σ H Q, tDs X.K W fs σ H Q → t0 σ H Q) {σ : L2.St} {H : Hp} {Q : VK} (h : tD X.K W (eN (gMake c (runF md n N body)) fs) σ H Q) : tMakeD (clsA X.K c) (spOf X.K n (runF md n N body)) (WE W) t0 σ H Q := by
  obtain ⟨S, as, M, ρ, st, env, fin⟩ := h
  refine hd _ _ _ ⟨S, as, M, ρ, st, env, Fin.bind (g := gMake c (runF md n N body)) fin env fun S1 as1 M1 xs vs H1 e1 st1 env1 rx fin1 => ?_⟩
  intro px dx hx hdx hne
  have nx : upd H1 dx (.own px) px = none := by rw [upd_ne (Ne.symm hne)]; exact hx
  have st2 := st1.beside (o := .own px) hdx
  have st3 := st2.fresh (p := px) (ho := .ins (clsA X.K c) dx []) (c := .ins c [] []) nx ⟨rfl, rfl, Reps.nil⟩
  have e3 := (Ext.beside (S := S1) (as := as1) (o := .own px) hdx).trans (Ext.fresh (ho := .ins (clsA X.K c) dx []) st2 nx)
  have hat : (as1 ++ [px])[M1.length]? = some px := by rw [← st1.len]; simp
  have r3 : Reps X.K S1 (as1 ++ [px]) (.h M1.length :: xs) (.ref px :: vs) := Reps.cons ⟨px, hat, rfl⟩ (Reps.mono e3.same e3.pre _ _ rx)
  unfold gMake at fin1
  cases ef : runF md n N body (.h M1.length :: xs) (M1 ++ [.ins c [] []]) with
  | ok d M2 =>
    rw [ef] at fin1
    have hl : (D.h M1.length :: xs).length = n := by
      by_cases h : (D.h M1.length :: xs).length = n
      · exact h
      · unfold runF at ef
        rw [if_neg h] at ef
        cases ef
    refine ⟨S1, as1 ++ [px], M1 ++ [.ins c [] []], .h M1.length :: xs, st3, r3, hl, ?_⟩
    rw [ef]
    intro S' as' v H' x' s' rv
    cases d with
    | v z =>
      cases z with
      | non => exact ⟨rv.1, fin1 S' as' (.ref px) H' (e3.trans x') s' ⟨px, x'.pre _ _ hat, rfl⟩⟩
      | _ => exact fin1.elim
    | _ => exact fin1.elim
  | er y M2 =>
    rw [ef] at fin1
    have hl : (D.h M1.length :: xs).length = n := by
      by_cases h : (D.h M1.length :: xs).length = n
      · exact h
      · unfold runF at ef
        rw [if_neg h] at ef
        cases ef
    refine ⟨S1, as1 ++ [px], M1 ++ [.ins c [] []], .h M1.length :: xs, st3, r3, hl, ?_⟩
    rw [ef]
    exact fun S' as' H' dd x' s' eo => fin1 S' as' H' dd (e3.trans x') s' (env1.mono (e3.trans x').same (e3.trans x').pre) eo
  | stuck =>
    rw [ef] at fin1
    exact fin1.elim
theorem pd_make (tk : Takes X W) (mk : Mk X.K (clsA X.K c) f) (G : FnOk X.prog X.w X.K X.mg X.base (L2.CX X.prog X.w) k f fd ps (spOf X.K n (runF md n N body))) (room : Room (k + 1) X.A) (hm : X.mg x = some (.ref (clsA X.K c))) (bi : Binds X.K fd ps []) (ha : PDs X W (e :: es) fs)
    (hg : Gl X x := by rfl) (hdb : (x == ("__debug__" : Str)) = false := by decide) (hst : starEach (e :: es) X.env = (false, eval e X.env) :: starEach es X.env := by rfl) (hpl : (backTo pos (starEach es X.env)).any (·.1) = false := by rfl) : PD X W (.Call (.Name x p) (e :: es) [] pos) (eN (gMake c (runF md n N body)) fs) :=
  (pe_makeD mk G room hm bi (fun σ => passAt tk σ) ha hg hdb hst hpl).up fun _ _ _ h => make_up (fun _ _ _ z => z) h
theorem pd_make0 (tk : Takes X W) (mk : Mk X.K (clsA X.K c) f) (G : FnOk X.prog X.w X.K X.mg X.base (L2.CX X.prog X.w) k f fd ps (spOf X.K n (runF md n N body))) (room : Room (k + 1) X.A) (hm : X.mg x = some (.ref (clsA X.K c))) (bi : Binds X.K fd ps [])
    (hg : Gl X x := by rfl) (hdb : (x == ("__debug__" : Str)) = false := by decide) : PD X W (.Call (.Name x p) [] [] pos) (eN (gMake c (runF md n N body)) eNil) :=
  (pe_makeD0 mk G room hm bi (fun σ => passAt tk σ) hg hdb).up fun _ _ _ h => make_up (fun σ H Q z => by
    obtain ⟨S, as, M, ρ, st, env, fin⟩ := z
    exact fin S as [] H (Ext.refl _ _ _) st rfl) h
end
/-! ### classes as values, isinstance of own classes -/
inductive Ty where
  | b (n : String)
  | o (C : Str)
  deriving DecidableEq
def tyV (K : PySem.W.Frag) : Ty → Value
  | .b n => .type n
  | .o C => .ref (clsA K C)
structure InsTy (K : PySem.W.Frag) (C : Str) : Prop where
  cl : Cls K (clsA K C)
  ha : PySem.W.findIn K (.ref (clsA K C)) "__class__" = some (some (.builtin "object.__class__"))
  hn : PySem.W.specialIn K (.builtin "object.__class__") "__get__" = some (some (.builtin "getset_descriptor.__get__"))
  ht : PySem.W.takesIn K (.builtin "object.__class__") = some true
  hm : PySem.W.mroIn K (clsA K C) (.type "object") = some true
abbrev IsTab := List (Ty × Ty × Bool)
structure IsTabOk (K : PySem.W.Frag) (cs : List Str) (tab : IsTab) : Prop where
  ty : ∀ C ∈ cs, InsTy K C
  is : ∀ e ∈ tab, PySem.W.kitOne K (tyV K e.1) (tyV K e.2.1) = some e.2.2
def tyO (cs : List Str) (M : Mem) (x : D) : Option Ty := match insOf M x with
  | some (C, _, _) => if cs.contains C = true then some (.o C) else none
  | none => (tyN M x).map .b
def isGet : IsTab → Ty → Ty → Option Bool
  | [], _, _ => none
  | (a, b, r) :: tab, t, c => if a = t ∧ b = c then some r else isGet tab t c
def isO (tab : IsTab) : Ty → Ty → Option Bool
  | .b a, .b b => kitB a b
  | t, c => isGet tab t c
def tyArg : D → Option Ty
  | .v (.ty n) => some (.b n)
  | .cl C => some (.o C)
  | _ => none
def gIsO (cs : List Str) (tab : IsTab) : List D → C D := fun xs M => match xs with
  | [x, c] => match tyO cs M x, tyArg c with
    | some t, some u => match isO tab t u with
      | some b => .ok (.v (.bl b)) M
      | none => .stuck
    | _, _ => .stuck
  | _ => .stuck
theorem isGet_ok {K : PySem.W.Frag} {cs : List Str} {tab : IsTab} (h : IsTabOk K cs tab) {t c : Ty} {r : Bool} (e : isGet tab t c = some r) : PySem.W.kitOne K (tyV K t) (tyV K c) = some r := by
  have go : ∀ tb : IsTab, (∀ e ∈ tb, PySem.W.kitOne K (tyV K e.1) (tyV K e.2.1) = some e.2.2) → isGet tb t c = some r → PySem.W.kitOne K (tyV K t) (tyV K c) = some r := by
    intro tb
    induction tb with
    | nil => intro _ e; cases e
    | cons p tb ih =>
      intro hp e
      obtain ⟨a, b, r'⟩ := p
      unfold isGet at e
      split at e
      · rename_i hab
        cases e
        obtain ⟨h1, h2⟩ := hab
        subst h1 h2
        exact hp (a, b, r) (List.mem_cons_self ..)
      · exact ih (fun q hq => hp q (by simp [hq])) e
  exact go tab h.is e
theorem isO_ok {K : PySem.W.Frag} {cs : List Str} {tab : IsTab} (h : IsTabOk K cs tab) {t c : Ty} {r : Bool} (e : isO tab t c = some r) : PySem.W.kitOne K (tyV K t) (tyV K c) = some r := by
  cases t with
  | b a =>
    cases c with
    | b b => exact kit_ty e
    | o C => exact isGet_ok h e
  | o C =>
    cases c <;> exact isGet_ok h e
theorem tyO_ok {K : PySem.W.Frag} {S : Hp} {as : List Addr} {M : Mem} {H : Hp} {cs : List Str} {tab : IsTab} (h : IsTabOk K cs tab) {d : D} {v : V} {t : Ty} (st : St K S as M H) (r : Rep K S as d v) (e : tyO cs M d = some t) : TyX K H v (tyV K t) := by
  unfold tyO at e
  split at e
  · rename_i C ns ds hi
    split at e
    · rename_i hC
      cases e
      obtain ⟨a, dx, fs, h1, h2, _⟩ := ins_of st r hi
      subst h1
      have q := h.ty C (by simpa using hC)
      exact .base (.ins h2 q.cl q.ha q.hn q.ht q.hm)
    · cases e
  · cases en : tyN M d with
    | none => rw [en] at e; cases e
    | some n =>
      rw [en] at e
      cases e
      exact ty_of st r en
section
variable {X : Cx} {W : WX} {pos p : Pos} {a b : Expr} {fs : Env → C (List D)} {x : Str}
theorem pd_cls {c : Str} (hm : X.mg x = some (.ref (clsA X.K c))) (hg : Gl X x := by rfl) (hdb : (x == ("__debug__" : Str)) = false := by decide) : PD X W (.Name x pos) (eC (.cl c)) :=
  (pe_glob (v := .ref (clsA X.K c)) hg hm rfl hdb).up fun σ H Q h => by
    obtain ⟨S, as, M, ρ, st, env, fin⟩ := h
    exact fin_ok (d := .cl c) st rfl fin
theorem pd_isO {cs : List Str} {tab : IsTab} (ht : IsTabOk X.K cs tab) (hm : X.mg "isinstance" = none) (ha : PDs X W [a, b] fs) (hg : Gl X "isinstance" := by rfl) (hs : starEach [a, b] X.env = (false, eval a X.env) :: starEach [b] X.env := by rfl) (hpl : (backTo pos (starEach [b] X.env)).any (·.1) = false := by rfl) : PD X W (.Call (.Name "isinstance" p) [a, b] [] pos) (eN (gIsO cs tab) fs) :=
  pd_callB call_isi (fun S as M H σ ρ W xs vs Q st rx fin => by
    unfold gIsO at fin
    split at fin
    · rename_i x c
      obtain ⟨v, v', e2, r1, r2⟩ := reps2 rx
      split at fin
      · rename_i t u et eu
        split at fin
        · rename_i bb hb
          have k : ClsV v' (tyV X.K u) := by
            cases c with
            | v z =>
              cases z with
              | ty n =>
                cases eu
                obtain ⟨r2, _⟩ := r2
                subst r2
                exact .ty n
              | _ => cases eu
            | cl C =>
              cases eu
              have r2 : v' = V.ref _ := r2
              subst r2
              exact .own _
            | _ => cases eu
          exact ⟨v, v', tyV X.K t, tyV X.K u, bb, e2, k, tyO_ok ht st r1 et, isO_ok ht hb, fin_ok (d := .v (.bl _)) st ⟨rfl, rfl⟩ fin⟩
        · exact fin.elim
      · exact fin.elim
    · exact fin.elim) hm (by decide +kernel) ha hg (by decide) (by decide) hs hpl
end
theorem all_cons {α : Type} {p : α → Prop} {a : α} {l : List α} (h : p a) (t : ∀ b ∈ l, p b) : ∀ b ∈ a :: l, p b := fun b hb => by
  rcases List.mem_cons.mp hb with e | e
  · subst e; exact h
  · exact t b e
end DL
set_option Elab.async false
set_option maxRecDepth 100000
set_option maxHeartbeats 2000000
namespace DL
open PySem PySem.Spec PyProof.Rows L2
/-! ### texts -/
def strOf : D → Option Str
  | .v (.str s) => some s
  | _ => none
def strsOf (ds : List D) : Option (List Str) := ds.mapM strOf
section
variable {K : PySem.W.Frag} {S : Hp} {as : List Addr} {M : Mem} {H : Hp}
theorem Reps.strs : ∀ {ds : List D} {vs : List V} {ss : List Str}, Reps K S as ds vs → strsOf ds = some ss → vs = ss.map V.str ∧ ∀ s ∈ ss, okV (.str s) = true
  | [], vs, ss, h, e => by
    have h : vs = [] := h
    subst h
    simp [strsOf] at e; subst e
    exact ⟨rfl, fun _ h => by simp at h⟩
  | d :: ds, vs, ss, h, e => by
    obtain ⟨v, r, h1, h2, h3⟩ := h
    subst h1
    unfold strsOf at e
    rw [List.mapM_cons] at e
    cases e1 : strOf d with
    | none => rw [e1] at e; cases e
    | some s =>
      rw [e1] at e
      cases e2 : ds.mapM strOf with
      | none => rw [e2] at e; cases e
      | some rest =>
        rw [e2] at e
        cases e
        obtain ⟨q1, q2⟩ := Reps.strs h3 e2
        subst q1
        cases d with
        | v z =>
          cases z with
          | str z =>
            cases e1
            obtain ⟨r1, r2⟩ := h2
            subst r1
            exact ⟨rfl, fun x hx => by
              rcases List.mem_cons.mp hx with e | e
              · subst e; exact r2
              · exact q2 x e⟩
          | _ => cases e1
        | _ => cases e1
theorem strOk_join (y : Str) (hy : PyData.strOk y = true) : ∀ parts : List Str, (∀ s ∈ parts, PyData.strOk s = true) → PyData.strOk (Str.join y parts) = true
  | [], _ => by show PyData.strOk Str.empty = true; decide +kernel
  | [x], h => h x (by simp)
  | x :: z :: r, h => by
    show PyData.strOk (x ++ y ++ Str.join y (z :: r)) = true
    exact strOk_app (strOk_app (h x (by simp)) hy) (strOk_join y hy (z :: r) fun s hs => h s (List.mem_cons_of_mem _ hs))
theorem len_join (y : Str) : ∀ parts : List Str, (Str.join y parts).length ≤ (parts.map (·.length)).sum + parts.length * y.length
  | [] => Nat.zero_le _
  | [x] => by
    show x.length ≤ _
    simp
  | x :: z :: r => by
    show (x ++ y ++ Str.join y (z :: r)).length ≤ _
    have := len_join y (z :: r)
    rw [len_app, len_app, List.map_cons, List.sum_cons, List.length_cons, Nat.add_mul]
    omega
end
/-- sep.join(list or tuple of texts) -/
def gJoin : D → List D → C D := fun x xs M => match x, xs with
  | .v (.str a), [y] => match seqOf M y with
    | some ds => match strsOf ds with
      | some ss => if (ss.map (·.length)).sum + ss.length * a.length ≤ 16777216 then .ok (.v (.str (Str.join a ss))) M else .stuck
      | none => .stuck
    | none => .stuck
  | _, _ => .stuck
theorem dr_join {X : Cx} : DrM X.K (fun x xs H Q => ∃ a p, ∃ ys : List Str, x = .str a ∧ xs = [.ref p] ∧ (SqL X.K H p (ys.map V.str) ∨ SqT X.K H p (ys.map V.str)) ∧
      (ys.map (·.length)).sum + ys.length * a.length ≤ 16777216 ∧ Q (.str (Txt.join a ys)) H) gJoin := by
  intro S as M H σ ρ W x v xs vs Q st rx rs fin
  unfold gJoin at fin
  split at fin
  · rename_i a y
    split at fin
    · rename_i ds hds
      split at fin
      · rename_i ss hss
        split at fin
        · rename_i hl
          obtain ⟨u, e2, r1⟩ := reps1 rs
          obtain ⟨p, us, h1, h2, h3, h4⟩ := seq_of st r1 hds
          obtain ⟨q1, q2⟩ := Reps.strs h3 hss
          subst h1 q1
          refine ⟨a, p, ss, rx.1, e2, h2, hl, ?_⟩
          rw [TL.join_eq]
          exact fin_ok (d := .v (.str _)) st ⟨rfl, okV_mk (strOk_join a (okV_str rx.2).1 ss fun s hs => (okV_str (q2 s hs)).1) (Nat.le_trans (len_join a ss) hl)⟩ fin
        · exact fin.elim
      · exact fin.elim
    · exact fin.elim
  · exact fin.elim
/-- answers of texts about texts -/
def gS1 (f : Str → Str → V) : D → List D → C D := fun x xs M => match x, xs with
  | .v (.str a), [.v (.str b)] => .ok (.v (f a b)) M
  | _, _ => .stuck
theorem dr_S1 {K : PySem.W.Frag} {f : Str → Str → V} (hf : ∀ a b, okV (f a b) = true) : DrM K (fun x xs H Q => ∃ a b, x = .str a ∧ xs = [.str b] ∧ Q (f a b) H) (gS1 f) := by
  intro S as M H σ ρ W x v xs vs Q st rx rs fin
  unfold gS1 at fin
  split at fin
  · rename_i a b
    obtain ⟨u, e2, r1⟩ := reps1 rs
    obtain ⟨r1, _⟩ := r1
    subst r1
    exact ⟨a, b, rx.1, e2, fin_ok (d := .v _) st ⟨rfl, hf a b⟩ fin⟩
  · exact fin.elim
def gFind : D → List D → C D := gS1 fun a b => .int (Txt.find a b)
def gStarts : D → List D → C D := gS1 fun a b => .bl (Txt.startswith a b)
/-- a list's method that changes its own cell -/
def gCellM (f : List D → List D → Option (D × List D)) : D → List D → C D := fun x xs M => match x with
  | .h k => match M[k]? with
    | some (.lst ds) => match f ds xs with
      | some (d, es) => .ok d (M.set k (.lst es))
      | none => .stuck
    | _ => .stuck
  | _ => .stuck
theorem gCellM_ok {K : PySem.W.Frag} {S : Hp} {as : List Addr} {M : Mem} {H : Hp} {σ : L2.St} {ρ : Env} {W : WX} {f : List D → List D → Option (D × List D)} {x : D} {v : V} {xs : List D} {Q : VK} {G : Prop} (st : St K S as M H) (rx : Rep K S as x v) (fin : Fin (RepR K) K S as H W σ ρ (gCellM f x xs M) Q)
    (k : ∀ (a : Addr) (ds es : List D) (us : List V) (d : D), v = .ref a → H a = some (.lst us) → Reps K S as ds us → ds.length ≤ sizeLine → f ds xs = some (d, es) → (∀ (z : V) (ws : List V), Rep K S as d z → Reps K S as es ws → es.length ≤ sizeLine → Q z (upd H a (.lst ws))) → G) : G := by
  unfold gCellM at fin
  split at fin
  · rename_i j
    split at fin
    · rename_i ds hk
      split at fin
      · rename_i d es hf
        obtain ⟨a, h1, h2⟩ := rx
        obtain ⟨us, h3, h4, h5⟩ := cell_lst st hk h1
        exact k a ds es us d h2 h3 h4 h5 hf fun z ws rz rw hl => fin S as z _ (Ext.write h1) (st.write (c := .lst es) hk h1 ⟨rw, hl⟩) rz
      · exact fin.elim
    · exact fin.elim
  · exact fin.elim
def gPop0 : D → List D → C D := gCellM fun ds xs => match xs with
  | [] => match ds[ds.length - 1]? with
    | some d => some (d, ds.dropLast)
    | none => none
  | _ => none
def gReverse : D → List D → C D := gCellM fun ds xs => match xs with
  | [] => some (.v .non, ds.reverse)
  | _ => none
def gClearL : D → List D → C D := gCellM fun ds xs => match xs with
  | [] => some (.v .non, [])
  | _ => none
theorem Reps.dropLast {K : PySem.W.Frag} {S : Hp} {as : List Addr} {ds : List D} {vs : List V} (h : Reps K S as ds vs) : Reps K S as ds.dropLast vs.dropLast := by
  rw [List.dropLast_eq_take, List.dropLast_eq_take, h.length]
  exact h.take _
theorem dr_pop0 {K : PySem.W.Frag} : DrM K rPop gPop0 := by
  intro S as M H σ ρ W x v xs vs Q st rx rs fin
  refine gCellM_ok st rx fin fun a ds es us d h1 h2 h3 h4 hf k => ?_
  split at hf
  · split at hf
    · rename_i d' hd
      cases hf
      obtain ⟨u, e1, e2⟩ := h3.get hd
      have rs : vs = [] := rs
      subst rs
      refine ⟨a, us, u, h1, rfl, h2, by rw [← h3.length]; exact e1, k u _ e2 h3.dropLast (by simp; omega)⟩
    · cases hf
  · cases hf
theorem dr_reverse {K : PySem.W.Frag} : DrM K rReverse gReverse := by
  intro S as M H σ ρ W x v xs vs Q st rx rs fin
  refine gCellM_ok st rx fin fun a ds es us d h1 h2 h3 h4 hf k => ?_
  split at hf
  · cases hf
    have rs : vs = [] := rs
    subst rs
    exact ⟨a, us, h1, rfl, h2, k .non _ ⟨rfl, rfl⟩ h3.rev (by simpa using h4)⟩
  · cases hf
theorem dr_clearL {K : PySem.W.Frag} : DrM K rClear gClearL := by
  intro S as M H σ ρ W x v xs vs Q st rx rs fin
  refine gCellM_ok st rx fin fun a ds es us d h1 h2 h3 h4 hf k => ?_
  split at hf
  · cases hf
    have rs : vs = [] := rs
    subst rs
    exact ⟨a, us, h1, rfl, h2, k .non _ ⟨rfl, rfl⟩ Reps.nil (Nat.zero_le _)⟩
  · cases hf
def gPopAt : D → List D → C D := gCellM fun ds xs => match xs with
  | [.v (.int i)] => if -(2 ^ 63) ≤ i ∧ i < 2 ^ 63 then (match seqIndex? i ds.length with
    | some k => match ds[k]? with
      | some d => some (d, ds.eraseIdx k)
      | none => none
    | none => none) else none
  | _ => none
theorem Reps.erase {K : PySem.W.Frag} {S : Hp} {as : List Addr} : ∀ {ds : List D} {vs : List V} (k : Nat), Reps K S as ds vs → Reps K S as (ds.eraseIdx k) (vs.eraseIdx k)
  | [], vs, k, h => by have h : vs = [] := h; subst h; rfl
  | d :: ds, vs, 0, h => by
    obtain ⟨v, r, h1, h2, h3⟩ := h
    subst h1
    exact h3
  | d :: ds, vs, k + 1, h => by
    obtain ⟨v, r, h1, h2, h3⟩ := h
    subst h1
    exact ⟨v, r.eraseIdx k, rfl, h2, Reps.erase k h3⟩
theorem dr_popAt {K : PySem.W.Frag} : DrM K rPopAt gPopAt := by
  intro S as M H σ ρ W x v xs vs Q st rx rs fin
  refine gCellM_ok st rx fin fun a ds es us d h1 h2 h3 h4 hf k => ?_
  split at hf
  · rename_i i
    split at hf
    · rename_i hb
      split at hf
      · rename_i j hj
        split at hf
        · rename_i d' hd
          cases hf
          obtain ⟨u, e1, e2⟩ := h3.get hd
          obtain ⟨w, e3, r3⟩ := reps1 rs
          obtain ⟨r3, _⟩ := r3
          subst r3
          exact ⟨a, us, i, j, u, h1, e3, h2, hb.1, hb.2, by rw [← h3.length]; exact hj, e1, k u _ e2 (h3.erase j) (Nat.le_trans (List.length_eraseIdx_le ..) h4)⟩
        · cases hf
      · cases hf
    · cases hf
  · cases hf
def gInsert : D → List D → C D := gCellM fun ds xs => match xs with
  | [.v (.int i), d] => if 0 ≤ i ∧ i < 2 ^ 63 ∧ ds.length < 16777216 then some (.v .non, ds.take i.toNat ++ [d] ++ ds.drop i.toNat) else none
  | _ => none
theorem dr_insert {K : PySem.W.Frag} : DrM K (fun x vs H Q => ∃ (l : Addr) (xs : List V) (i : Int) (y : V), x = .ref l ∧ vs = [.int i, y] ∧ H l = some (.lst xs) ∧ xs.length < sizeLine ∧ 0 ≤ i ∧ i < 2 ^ 63 ∧
    Q .non (upd H l (.lst (xs.take i.toNat ++ [y] ++ xs.drop i.toNat)))) gInsert := by
  intro S as M H σ ρ W x v xs vs Q st rx rs fin
  have lq := line_eq
  refine gCellM_ok st rx fin fun a ds es us d h1 h2 h3 h4 hf k => ?_
  split at hf
  · rename_i i y
    split at hf
    · rename_i hb
      cases hf
      obtain ⟨w, w', e3, r3, r4⟩ := reps2 rs
      obtain ⟨r3, _⟩ := r3
      subst r3
      refine ⟨a, us, i, w', h1, e3, h2, by rw [← h3.length]; omega, hb.1, hb.2.1, k .non _ ⟨rfl, rfl⟩ (((h3.take _).append (Reps.cons r4 Reps.nil)).append (h3.drop _)) ?_⟩
      simp; omega
    · cases hf
  · cases hf
/-- xs.extend(list) -/
def gExtend : D → List D → C D := fun x xs M => match x with
  | .h k => match xs with
    | [y] => match M[k]?, mlOf M y with
      | some (.lst ds), some es => if ds.length + es.length ≤ 16777216 then .ok (.v .non) (M.set k (.lst (ds ++ es))) else .stuck
      | _, _ => .stuck
    | _ => .stuck
  | _ => .stuck
theorem dr_extend {K : PySem.W.Frag} : DrM K rExtend gExtend := by
  intro S as M H σ ρ W x v xs vs Q st rx rs fin
  have lq := line_eq
  unfold gExtend at fin
  split at fin
  · rename_i k
    split at fin
    · rename_i y
      split at fin
      · rename_i ds es hk he
        split at fin
        · rename_i hl
          obtain ⟨a, h1, h2⟩ := rx
          subst h2
          obtain ⟨u, e2, r1⟩ := reps1 rs
          obtain ⟨us, h3, h4, h5⟩ := cell_lst st hk h1
          obtain ⟨b, ws, q1, q2, q3, q4⟩ := ml_of st r1 he
          subst q1
          refine ⟨a, b, us, ws, rfl, e2, h3, q2, by rw [← h4.length, ← q3.length]; omega, ?_⟩
          exact fin S as .non _ (Ext.write h1) (st.write (c := .lst (ds ++ es)) hk h1 ⟨h4.append q3, by simp; omega⟩) ⟨rfl, rfl⟩
        · exact fin.elim
      · exact fin.elim
    · exact fin.elim
  · exact fin.elim
/-- tuple(x) -/
def gTupOf : List D → C D := fun xs M => match xs with
  | [.tup ds] => .ok (.tup ds) M
  | [x] => match lstOf M x with
    | some ds => .ok (.tup ds) M
    | none => .stuck
  | _ => .stuck
section
variable {X : Cx} {W : WX} {pos p : Pos} {a b : Expr} {fs : Env → C (List D)}
theorem pd_tupOf (hm : X.mg "tuple" = none) (ha : PDs X W [a] fs) (hg : Gl X "tuple" := by rfl) (hs : starEach [a] X.env = (false, eval a X.env) :: starEach [] X.env := by rfl) (hpl : (backTo pos (starEach [] X.env)).any (·.1) = false := by rfl) : PD X W (.Call (.Name "tuple" p) [a] [] pos) (eN gTupOf fs) :=
  pd_callTy call_tuple_of (fun S as M H σ ρ W xs vs Q st rx fin => by
    unfold gTupOf at fin
    split at fin
    · rename_i ds
      obtain ⟨v, e2, r1⟩ := reps1 rx
      subst e2
      obtain ⟨c, us, h1, h2, h3, h4⟩ := tup_of st r1
      subst h1
      exact ⟨c, us, rfl, .inr ⟨h2, fin_ok st r1 fin⟩⟩
    · obtain ⟨v, e2, r1⟩ := reps1 rx
      subst e2
      split at fin
      · rename_i ds hd
        obtain ⟨c, us, h1, h2, h3, h4⟩ := lst_of st r1 hd
        subst h1
        exact ⟨c, us, rfl, .inl ⟨h2, fun l n => fin_tup st fin h3 h4 n⟩⟩
      · exact fin.elim
    · exact fin.elim) hm ha (by decide +kernel) hg (by decide) (by decide) hs hpl
end
theorem strOk_of (z : String) : PyData.strOk (Str.ofString z) = true := by
  unfold PyData.strOk
  rw [← Array.all_toList, show (Str.ofString z).cps.toList = z.toList.map Char.toNat from TL.tl_ofString z, List.all_map, List.all_eq_true]
  intro c _
  have h := c.valid
  show decide (c.toNat < 0x110000) = true
  rw [decide_eq_true_iff]
  rcases h with h | h
  · have : c.toNat < 0xd800 := h
    omega
  · exact h.2
/-- str(x) of an int or a text -/
def gStr : List D → C D := fun xs M => match xs with
  | [.v (.int i)] => if i.natAbs.log2 < 1920 then .ok (.v (.str (toString i))) M else .stuck
  | [.v (.str s)] => .ok (.v (.str s)) M
  | _ => .stuck
section
variable {X : Cx} {W : WX} {pos p : Pos} {a b : Expr} {fs : Env → C (List D)}
theorem pd_strOf (hm : X.mg "str" = none) (ha : PDs X W [a] fs) (hg : Gl X "str" := by rfl) (hs : starEach [a] X.env = (false, eval a X.env) :: starEach [] X.env := by rfl) (hpl : (backTo pos (starEach [] X.env)).any (·.1) = false := by rfl) : PD X W (.Call (.Name "str" p) [a] [] pos) (eN gStr fs) :=
  pd_callTy (call_str_int.orr SkE.call_str_str) (fun S as M H σ ρ W xs vs Q st rx fin => by
    unfold gStr at fin
    split at fin
    · rename_i i
      obtain ⟨v, e2, r1⟩ := reps1 rx
      obtain ⟨r1, _⟩ := r1
      subst r1
      split at fin
      · rename_i hz
        have hl := int_text_fits hz
        rw [sizeLine_eq] at hl
        exact .inl ⟨i, e2, hz, fin_ok (d := .v (.str _)) st ⟨rfl, okV_mk (strOk_of _) hl⟩ fin⟩
      · exact fin.elim
    · rename_i s
      obtain ⟨v, e2, r1⟩ := reps1 rx
      have r2 := r1
      obtain ⟨r1, _⟩ := r1
      subst r1
      exact .inr ⟨s, e2, fin_ok (d := .v (.str s)) st r2 fin⟩
    · exact fin.elim) hm ha (by decide +kernel) hg (by decide) (by decide) hs hpl
end
/-! ### list.index, any, all -/
def gIndex : D → List D → C D := fun x xs M => match xs with
  | [y] => match lstOf M x with
    | some ds => if (okEq (.lst ds) && okEq (resM M y)) = true then (match ds.findIdx? (fun z => deq z (resM M y)) with
      | some j => .ok (.v (.int (j : Int))) M
      | none => .stuck) else .stuck
    | none => .stuck
  | _ => .stuck
theorem toPys_map : ∀ ds : List D, toPys ds = ds.map toPy
  | [] => rfl
  | d :: ds => by
    unfold toPys
    rw [toPys_map ds]; rfl
theorem dr_index {K : PySem.W.Frag} : DrM K (rIndexD K) gIndex := by
  intro S as M H σ ρ W x v xs vs Q st rx rs fin
  unfold gIndex at fin
  split at fin
  · rename_i y
    split at fin
    · rename_i ds hds
      split at fin
      · rename_i hok
        rw [Bool.and_eq_true] at hok
        split at fin
        · rename_i j hj
          obtain ⟨u, e2, r1⟩ := reps1 rs
          obtain ⟨q1, q2⟩ := okEq_lst st rx hds hok.1
          obtain ⟨q3, q4⟩ := okEq_of st r1 hok.2
          obtain ⟨a, us, h1, _⟩ := lst_of st rx hds
          subst h1
          rw [List.findIdx?_eq_some_iff_getElem] at hj
          obtain ⟨hlt, hp, hmin⟩ := hj
          refine ⟨a, u, toPy (resM M y), toPys ds, j, toPy ds[j], rfl, e2, q1, q3, q2, q4, ?_, hp, fun m z' hm hz => ?_, fin_ok (d := .v (.int _)) st ⟨rfl, rfl⟩ fin⟩
          · rw [toPys_map, List.getElem?_map, List.getElem?_eq_getElem hlt]; rfl
          · rw [toPys_map, List.getElem?_map, List.getElem?_eq_getElem (by omega)] at hz
            cases hz
            have h9 : deq ds[m] (resM M y) = false := by simpa using hmin m hm
            exact h9
        · exact fin.elim
      · exact fin.elim
    · exact fin.elim
  · exact fin.elim
def blOf : D → Option Bool
  | .v (.bl b) => some b
  | _ => none
def blsOf (ds : List D) : Option (List Bool) := ds.mapM blOf
theorem Reps.bls {K : PySem.W.Frag} {S : Hp} {as : List Addr} : ∀ {ds : List D} {vs : List V} {bs : List Bool}, Reps K S as ds vs → blsOf ds = some bs → vs = bs.map V.bl
  | [], vs, bs, h, e => by
    have h : vs = [] := h
    subst h
    simp [blsOf] at e; subst e; rfl
  | d :: ds, vs, bs, h, e => by
    obtain ⟨v, r, h1, h2, h3⟩ := h
    subst h1
    unfold blsOf at e
    rw [List.mapM_cons] at e
    cases e1 : blOf d with
    | none => rw [e1] at e; cases e
    | some b =>
      rw [e1] at e
      cases e2 : ds.mapM blOf with
      | none => rw [e2] at e; cases e
      | some rest =>
        rw [e2] at e
        cases e
        have q1 := Reps.bls h3 e2
        subst q1
        cases d with
        | v z =>
          cases z with
          | bl z =>
            cases e1
            obtain ⟨r1, _⟩ := h2
            subst r1
            rfl
          | _ => cases e1
        | _ => cases e1
def gAll : List D → C D := fun xs M => match xs with
  | [x] => match lstOf M x with
    | some ds => match blsOf ds with
      | some bs => .ok (.v (.bl (bs.all id))) M
      | none => .stuck
    | none => .stuck
  | _ => .stuck
def gAny : List D → C D := fun xs M => match xs with
  | [x] => match lstOf M x with
    | some ds => match blsOf ds with
      | some bs => .ok (.v (.bl (bs.any id))) M
      | none => .stuck
    | none => .stuck
  | _ => .stuck
theorem dr_all {K : PySem.W.Frag} : DrN K (rAll K) gAll := fun S as M H σ ρ W xs vs Q st rx fin => by
  unfold gAll at fin
  split at fin
  · obtain ⟨v, e2, r1⟩ := reps1 rx
    split at fin
    · rename_i ds hds
      split at fin
      · rename_i bs hb
        obtain ⟨a, us, h1, h2, h3, _⟩ := lst_of st r1 hds
        have q := Reps.bls h3 hb
        subst h1 q
        exact ⟨a, bs, e2, h2, fin_ok (d := .v (.bl _)) st ⟨rfl, rfl⟩ fin⟩
      · exact fin.elim
    · exact fin.elim
  · exact fin.elim
theorem dr_any {K : PySem.W.Frag} : DrN K (rAny K) gAny := fun S as M H σ ρ W xs vs Q st rx fin => by
  unfold gAny at fin
  split at fin
  · obtain ⟨v, e2, r1⟩ := reps1 rx
    split at fin
    · rename_i ds hds
      split at fin
      · rename_i bs hb
        obtain ⟨a, us, h1, h2, h3, _⟩ := lst_of st r1 hds
        have q := Reps.bls h3 hb
        subst h1 q
        exact ⟨a, bs, e2, h2, fin_ok (d := .v (.bl _)) st ⟨rfl, rfl⟩ fin⟩
      · exact fin.elim
    · exact fin.elim
  · exact fin.elim
/-! ### sorted -/
def leS (a b : Str) : Bool := !decide (b.cps.toList < a.cps.toList)
theorem leS_iff {a b : Str} : leS a b = true ↔ a.cps.toList ≤ b.cps.toList := by
  unfold leS
  rw [Bool.not_eq_true', decide_eq_false_iff_not, List.not_lt]
theorem leS_trans (a b c : Str) (h : leS a b = true) (h' : leS b c = true) : leS a c = true := leS_iff.mpr (List.le_trans (leS_iff.mp h) (leS_iff.mp h'))
theorem leS_total (a b : Str) : (leS a b || leS b a) = true := by
  rcases List.le_total a.cps.toList b.cps.toList with h | h
  · rw [leS_iff.mpr h]; rfl
  · rw [leS_iff.mpr h, Bool.or_true]
theorem leS_anti {a b : Str} (h : leS a b = true) (h' : leS b a = true) : a = b := Str.ext' (Array.toList_inj.mp (List.le_antisymm (leS_iff.mp h) (leS_iff.mp h')))
def sortS (ss : List Str) : List Str := ss.mergeSort leS
theorem rising_pairwise : ∀ (p : Str) (ys : List Str), risingS p ys = true → (∀ y ∈ ys, leS p y = true) ∧ ys.Pairwise (fun a b => leS a b = true)
  | p, [], _ => ⟨fun _ h => by simp at h, .nil⟩
  | p, x :: r, h => by
    unfold risingS at h
    rw [Bool.and_eq_true] at h
    obtain ⟨h1, h2⟩ := h
    have hp : leS p x = true := by
      unfold leS
      rw [← ltCps_eq]; exact h1
    obtain ⟨q1, q2⟩ := rising_pairwise x r h2
    refine ⟨fun y hy => ?_, List.pairwise_cons.mpr ⟨q1, q2⟩⟩
    rcases List.mem_cons.mp hy with e | e
    · subst e; exact hp
    · exact leS_trans p x y hp (q1 y e)
theorem sortS_eq {ss ys : List Str} (hp : ys.Perm ss) (hs : sortedS ys = true) : ys = sortS ss := by
  have h1 : ys.Pairwise (fun a b => leS a b = true) := by
    cases ys with
    | nil => exact .nil
    | cons x r =>
      obtain ⟨q1, q2⟩ := rising_pairwise x r hs
      exact List.pairwise_cons.mpr ⟨q1, q2⟩
  exact List.Perm.eq_of_pairwise (le := fun a b => leS a b = true) (fun a b _ _ h h' => leS_anti h h') h1 (List.pairwise_mergeSort leS_trans leS_total ss) (hp.trans (List.mergeSort_perm ss leS).symm)
def gSorted (mk : List D → Mem → Out D) : List D → C D := fun xs M => match xs with
  | [x] => match lstOf M x with
    | some ds => match intsOf ds with
      | some ns => mk ((PySem.W.sortI ns).map fun i => .v (.int i)) M
      | none => match strsOf ds with
        | some ss => if ss.length < 64 then mk ((sortS ss).map fun s => .v (.str s)) M else .stuck
        | none => .stuck
    | none => .stuck
  | _ => .stuck
theorem reps_ints {K : PySem.W.Frag} {S : Hp} {as : List Addr} : ∀ ns : List Int, Reps K S as (ns.map fun i => D.v (.int i)) (ns.map V.int)
  | [] => rfl
  | i :: r => Reps.cons ⟨rfl, rfl⟩ (reps_ints r)
theorem reps_strs {K : PySem.W.Frag} {S : Hp} {as : List Addr} : ∀ ss : List Str, (∀ s ∈ ss, okV (.str s) = true) → Reps K S as (ss.map fun s => D.v (.str s)) (ss.map V.str)
  | [], _ => rfl
  | i :: r, h => Reps.cons ⟨rfl, h i (by simp)⟩ (reps_strs r fun s hs => h s (by simp [hs]))
section
variable {X : Cx} {W : WX} {pos p : Pos} {a b : Expr} {fs : Env → C (List D)}
theorem pd_sorted {mk : List D → Mem → Out D} (hmk : MkN X.K mk) (hm : X.mg "sorted" = none) (ha : PDs X W [a] fs) (hg : Gl X "sorted" := by rfl) (hs : starEach [a] X.env = (false, eval a X.env) :: starEach [] X.env := by rfl) (hpl : (backTo pos (starEach [] X.env)).any (·.1) = false := by rfl) : PD X W (.Call (.Name "sorted" p) [a] [] pos) (eN (gSorted mk) fs) :=
  pd_callB (cr_sortedI.orr cr_sortedS) (fun S as M H σ ρ W xs vs Q st rx fin => by
    unfold gSorted at fin
    split at fin
    · obtain ⟨v, e2, r1⟩ := reps1 rx
      split at fin
      · rename_i ds hds
        obtain ⟨c, us, h1, h2, h3, h4⟩ := lst_of st r1 hds
        subst h1
        split at fin
        · rename_i ns hn
          have q := Reps.ints h3 hn
          subst q
          refine .inl ⟨c, ns, e2, h2, fun ns' l hp hr n => ?_⟩
          have e := PySem.W.eq_sortI hp hr
          subst e
          exact hmk S as H W σ ρ M _ _ l Q st n (reps_ints _) (by rw [List.length_map, (PySem.W.sortI_perm ns).length_eq, ← List.length_map (f := V.int), ← h3.length]; exact h4) fin
        · split at fin
          · rename_i ss hss
            obtain ⟨q1, q2⟩ := Reps.strs h3 hss
            subst q1
            split at fin
            · rename_i hl
              refine .inr ⟨c, ss, e2, h2, hl, fun ys l hp hr n => ?_⟩
              have e := sortS_eq hp hr
              subst e
              exact hmk S as H W σ ρ M _ _ l Q st n (reps_strs _ fun s hs => q2 s ((List.mergeSort_perm ss leS).mem_iff.mp hs)) (by rw [List.length_map, hp.length_eq, ← List.length_map (f := V.str), ← h3.length]; exact h4) fin
            · exact fin.elim
          · exact fin.elim
      · exact fin.elim
    · exact fin.elim) hm (by decide +kernel) ha hg (by decide) (by decide) hs hpl
end
/-! ### f-strings -/
def gFmt : D → C D := fun x M => match x with
  | .v (.str s) => .ok (.v (.str s)) M
  | .v (.int i) => if i.natAbs.log2 < 1920 then .ok (.v (.str (toString i))) M else .stuck
  | _ => .stuck
def eFs : List (Env → C D) → Str → Env → C D
  | [], acc, _ => C.ret (.v (.str acc))
  | f :: fs, acc, ρ => (f ρ).bind fun x M => match x with
    | .v (.str y) => if acc.length + y.length ≤ 16777216 then eFs fs (acc ++ y) ρ M else .stuck
    | _ => .stuck
/-- the parts -/
inductive PFs (X : Cx) (W : WX) : List Expr → List (Env → C D) → Prop where
  | nil : PFs X W [] []
  | cons {e : Expr} {f : Env → C D} {es : List Expr} {fs : List (Env → C D)} (h : PD X W e f) (r : PFs X W es fs) : PFs X W (e :: es) (f :: fs)
section
variable {X : Cx} {W : WX} {pos : Pos} {e v1 v2 : Expr} {rest : List Expr} {fa : Env → C D}
theorem pd_fmt (he : PD X W e fa) : PD X W (.FormattedValue e (-1) none pos) (e1 gFmt fa) := (pe_fmt he).up fun σ H Q h => by
  obtain ⟨S, as, M, ρ, st, env, fin⟩ := h
  refine ⟨S, as, M, ρ, st, env, Fin.bind (g := gFmt) fin env fun S1 as1 M1 x v H1 e1 st1 env1 rx fin1 => ?_⟩
  unfold gFmt at fin1
  split at fin1
  · rename_i s
    have r2 := rx
    obtain ⟨r1, r3⟩ := rx
    subst r1
    exact .inl ⟨s, rfl, by rw [sizeLine_eq]; exact (okV_str r3).2, fin_ok (d := .v (.str s)) st1 r2 fin1⟩
  · rename_i i
    obtain ⟨r1, _⟩ := rx
    subst r1
    split at fin1
    · rename_i hz
      have hl := int_text_fits hz
      rw [sizeLine_eq] at hl
      exact .inr ⟨i, rfl, hz, fin_ok (d := .v (.str _)) st1 ⟨rfl, okV_mk (strOk_of _) hl⟩ fin1⟩
    · exact fin1.elim
  · exact fin1.elim
theorem PFs.pj {es : List Expr} {fs : List (Env → C D)} (h : PFs X W es fs) : PJ X es (fs.map (tD X.K W)) := by
  induction h with
  | nil => exact .nil
  | cons h r ih => exact .cons h ih
theorem fs_js : ∀ (fs : List (Env → C D)) (acc : Str) (σ : L2.St) (H : Hp) (Q : VK), okV (.str acc) = true → tD X.K W (eFs fs acc) σ H Q → tJs (fs.map (tD X.K W)) acc σ H fun out H1 => Q (.str out) H1
  | [], acc, σ, H, Q, ha, h => by
    obtain ⟨S, as, M, ρ, st, env, fin⟩ := h
    exact fin_ok (d := .v (.str acc)) st ⟨rfl, ha⟩ fin
  | f :: fs, acc, σ, H, Q, ha, h => by
    obtain ⟨S, as, M, ρ, st, env, fin⟩ := h
    refine ⟨S, as, M, ρ, st, env, Fin.bind (g := fun x M => match x with
      | .v (.str y) => if acc.length + y.length ≤ 16777216 then eFs fs (acc ++ y) ρ M else .stuck
      | _ => .stuck) fin env fun S1 as1 M1 x v H1 e1 st1 env1 rx fin1 => ?_⟩
    split at fin1
    · rename_i y
      obtain ⟨r1, r3⟩ := rx
      split at fin1
      · rename_i hl
        have hlen : (acc ++ y).length ≤ 16777216 := by rw [len_app]; exact hl
        exact ⟨y, r1, by rw [sizeLine_eq]; exact hlen, fs_js fs (acc ++ y) σ H1 Q (okV_mk (strOk_app (okV_str ha).1 (okV_str r3).1) hlen) ⟨S1, as1, M1, ρ, st1, env1, fin1⟩⟩
      · exact fin1.elim
    · exact fin1.elim
theorem pd_fstr {fs : List (Env → C D)} (h : PFs X W (v1 :: v2 :: rest) fs) : PD X W (.JoinedStr (v1 :: v2 :: rest) pos) (eFs fs Str.empty) :=
  (pe_joined h.pj).up fun σ H Q q => fs_js fs Str.empty σ H Q (by decide +kernel) q
theorem pd_fstr1 (he : PD X W e fa) : PD X W (.JoinedStr [e] pos) fa := pe_joined1 he
end
end DL
set_option Elab.async false
set_option maxRecDepth 100000
set_option maxHeartbeats 2000000
namespace DL
open PySem PySem.Spec PyProof.Rows L2
/-! ### the plain law: what a denotation gives, step by step -/
abbrev I (i : Int) : D := .v (.int i)
abbrev Bo (b : Bool) : D := .v (.bl b)
abbrev Tx (s : Str) : D := .v (.str s)
abbrev No : D := .v .non
@[irreducible] def P {α : Type} (o : Out α) (E : Exn → Mem → Prop) (Q : α → Mem → Prop) : Prop := match o with
  | .ok a M => Q a M
  | .er x M => E x M
  | .stuck => False
/-- the outcome of a statement: what follows, what is handed back, break, continue, an error -/
@[irreducible] def SP (o : SOut) (nx : Env → Mem → Prop) (rt : D → Mem → Prop) (bk ct : Env → Mem → Prop) (er : Exn → Env → Mem → Prop) : Prop := match o with
  | .nx ρ M => nx ρ M
  | .rt d M => rt d M
  | .bk ρ M => bk ρ M
  | .ct ρ M => ct ρ M
  | .er x ρ M => er x ρ M
  | .stuck => False
theorem P.k {α : Type} {a : α} {M : Mem} {E : Exn → Mem → Prop} {Q : α → Mem → Prop} (q : Q a M) : P (.ok a M) E Q := by unfold P; exact q
theorem P.g {α : Type} {a : α} {M : Mem} {E : Exn → Mem → Prop} {Q : α → Mem → Prop} (q : P (.ok a M) E Q) : Q a M := by unfold P at q; exact q
theorem P.e {α : Type} {x : Exn} {M : Mem} {E : Exn → Mem → Prop} {Q : α → Mem → Prop} (q : E x M) : P (.er x M) E Q := by unfold P; exact q
theorem P.ge {α : Type} {x : Exn} {M : Mem} {E : Exn → Mem → Prop} {Q : α → Mem → Prop} (q : P (.er x M) E Q) : E x M := by unfold P at q; exact q
theorem P.gs {α : Type} {E : Exn → Mem → Prop} {Q : α → Mem → Prop} (q : P .stuck E Q) : False := by unfold P at q; exact q
section
variable {nx : Env → Mem → Prop} {rt : D → Mem → Prop} {bk ct : Env → Mem → Prop} {er : Exn → Env → Mem → Prop} {ρ : Env} {M : Mem} {d : D} {x : Exn}
theorem SP.kn (q : nx ρ M) : SP (.nx ρ M) nx rt bk ct er := by unfold SP; exact q
theorem SP.gn (q : SP (.nx ρ M) nx rt bk ct er) : nx ρ M := by unfold SP at q; exact q
theorem SP.kr (q : rt d M) : SP (.rt d M) nx rt bk ct er := by unfold SP; exact q
theorem SP.gr (q : SP (.rt d M) nx rt bk ct er) : rt d M := by unfold SP at q; exact q
theorem SP.kb (q : bk ρ M) : SP (.bk ρ M) nx rt bk ct er := by unfold SP; exact q
theorem SP.gb (q : SP (.bk ρ M) nx rt bk ct er) : bk ρ M := by unfold SP at q; exact q
theorem SP.kc (q : ct ρ M) : SP (.ct ρ M) nx rt bk ct er := by unfold SP; exact q
theorem SP.gc (q : SP (.ct ρ M) nx rt bk ct er) : ct ρ M := by unfold SP at q; exact q
theorem SP.ke (q : er x ρ M) : SP (.er x ρ M) nx rt bk ct er := by unfold SP; exact q
theorem SP.ge (q : SP (.er x ρ M) nx rt bk ct er) : er x ρ M := by unfold SP at q; exact q
theorem SP.gs (q : SP .stuck nx rt bk ct er) : False := by unfold SP at q; exact q
end
abbrev NoE : Exn → Mem → Prop := fun _ _ => False
section
variable {α β : Type} {E E' : Exn → Mem → Prop} {M : Mem} {ρ : Env} {Q : D → Mem → Prop}
theorem P.mono {o : Out α} {Q Q' : α → Mem → Prop} (h : P o E Q) (i : ∀ a M, Q a M → Q' a M) : P o E Q' := by
  cases o with
  | ok a M => exact P.k (i a M h.g)
  | er x M => exact P.e h.ge
  | stuck => exact h.gs.elim
theorem P.noE {o : Out α} {Q : α → Mem → Prop} (h : P o NoE Q) : P o E Q := by
  cases o with
  | ok a M => exact P.k h.g
  | er x M => exact h.ge.elim
  | stuck => exact h.gs.elim
theorem P.of {o : Out α} {Q : α → Mem → Prop} {a : α} {M : Mem} (h : o = .ok a M) (q : Q a M) : P o E Q := by rw [h]; exact P.k q
theorem P.ok {o : Out α} {Q : α → Mem → Prop} (h : P o NoE Q) : ∃ a M, o = .ok a M ∧ Q a M := by
  cases o with
  | ok a M => exact ⟨a, M, rfl, h.g⟩
  | er x M => exact h.ge.elim
  | stuck => exact h.gs.elim
theorem SP.mono {o : SOut} {nx nx' : Env → Mem → Prop} {rt rt' : D → Mem → Prop} {bk ct bk' ct' : Env → Mem → Prop} {er er' : Exn → Env → Mem → Prop} (h : SP o nx rt bk ct er) (h1 : ∀ ρ M, nx ρ M → nx' ρ M) (h2 : ∀ d M, rt d M → rt' d M) (h3 : ∀ ρ M, bk ρ M → bk' ρ M) (h4 : ∀ ρ M, ct ρ M → ct' ρ M) (h5 : ∀ x ρ M, er x ρ M → er' x ρ M) : SP o nx' rt' bk' ct' er' := by
  cases o with
  | nx ρ M => exact SP.kn (h1 _ _ h.gn)
  | rt d M => exact SP.kr (h2 _ _ h.gr)
  | bk ρ M => exact SP.kb (h3 _ _ h.gb)
  | ct ρ M => exact SP.kc (h4 _ _ h.gc)
  | er x ρ M => exact SP.ke (h5 _ _ _ h.ge)
  | stuck => exact h.gs.elim
theorem p_bind {c : C α} {g : α → C β} {Q : β → Mem → Prop} (h : P (c M) E fun a M1 => P (g a M1) E Q) : P (C.bind c g M) E Q := by
  unfold C.bind
  cases e : c M with
  | ok a M1 => rw [e] at h; exact h.g
  | er x M1 => rw [e] at h; exact P.e h.ge
  | stuck => rw [e] at h; exact h.gs.elim
theorem p_ret {a : α} {Q : α → Mem → Prop} (q : Q a M) : P (C.ret a M) E Q := P.k q
theorem p_var {i : Nat} {d : D} (h : ρ[i]? = some (some d)) (q : Q d M) : P (eVar i ρ M) E Q := by
  unfold eVar; rw [h]; exact P.k q
theorem p_c {d : D} (q : Q d M) : P (eC d ρ M) E Q := P.k q
theorem p_e2 {g : D → D → C D} {fa fb : Env → C D} (h : P (fa ρ M) E fun x M1 => P (fb ρ M1) E fun y M2 => P (g x y M2) E Q) : P (e2 g fa fb ρ M) E Q := p_bind (h.mono fun _ _ q => p_bind q)
theorem p_e1 {g : D → C D} {fa : Env → C D} (h : P (fa ρ M) E fun x M1 => P (g x M1) E Q) : P (e1 g fa ρ M) E Q := p_bind h
theorem p_nil {Q : List D → Mem → Prop} (q : Q [] M) : P (eNil ρ M) E Q := P.k q
theorem p_cons {fa : Env → C D} {fr : Env → C (List D)} {Q : List D → Mem → Prop} (h : P (fa ρ M) E fun x M1 => P (fr ρ M1) E fun xs M2 => Q (x :: xs) M2) : P (eCons fa fr ρ M) E Q := p_bind (h.mono fun _ _ q => p_bind (q.mono fun _ _ q => P.k q))
theorem p_eN {g : List D → C D} {fs : Env → C (List D)} (h : P (fs ρ M) E fun xs M1 => P (g xs M1) E Q) : P (eN g fs ρ M) E Q := p_bind h
theorem p_eM {T : String} {g : D → List D → C D} {fo : Env → C D} {fs : Env → C (List D)} (h : P (fo ρ M) E fun x M1 => tyOk T M1 x = true ∧ P (fs ρ M1) E fun xs M2 => P (g x xs M2) E Q) : P (eM T g fo fs ρ M) E Q :=
  p_bind (h.mono fun x M1 ⟨h1, h2⟩ => by rw [if_pos h1]; exact p_bind h2)
/-! tests -/
variable {Qb : Bool → Mem → Prop}
theorem p_eB {fa : Env → C D} (h : P (fa ρ M) E fun x M1 => ∃ b, x = Bo b ∧ Qb b M1) : P (eB fa ρ M) E Qb := p_bind (h.mono fun x M1 ⟨b, e, q⟩ => by subst e; exact P.k q)
theorem p_eT {fa : Env → C D} (h : P (fa ρ M) E fun x M1 => ∃ b, truD M1 x = some b ∧ Qb b M1) : P (eT fa ρ M) E Qb := p_bind (h.mono fun x M1 ⟨b, e, q⟩ => by unfold gTru; rw [e]; exact P.k q)
theorem p_bAnd {fa fb : Env → C Bool} (h : P (fa ρ M) E fun c M1 => (c = true → P (fb ρ M1) E Qb) ∧ (c = false → Qb false M1)) : P (bAnd fa fb ρ M) E Qb := p_bind (h.mono fun c M1 ⟨h1, h2⟩ => by
  cases c with
  | true => rw [if_pos rfl]; exact h1 rfl
  | false => rw [if_neg Bool.false_ne_true]; exact P.k (h2 rfl))
theorem p_bOr {fa fb : Env → C Bool} (h : P (fa ρ M) E fun c M1 => (c = true → Qb true M1) ∧ (c = false → P (fb ρ M1) E Qb)) : P (bOr fa fb ρ M) E Qb := p_bind (h.mono fun c M1 ⟨h1, h2⟩ => by
  cases c with
  | true => rw [if_pos rfl]; exact P.k (h1 rfl)
  | false => rw [if_neg Bool.false_ne_true]; exact h2 rfl)
theorem p_bNot {fa : Env → C Bool} (h : P (fa ρ M) E fun c M1 => Qb (!c) M1) : P (bNot fa ρ M) E Qb := p_bind (h.mono fun _ _ q => P.k q)
theorem p_bIsN {fa : Env → C D} (h : P (fa ρ M) E fun x M1 => Qb (isNon x) M1) : P (bIsN fa ρ M) E Qb := p_bind (h.mono fun _ _ q => P.k q)
theorem p_bNotN {fa : Env → C D} (h : P (fa ρ M) E fun x M1 => Qb (!isNon x) M1) : P (bNotN fa ρ M) E Qb := p_bind (h.mono fun _ _ q => P.k q)
theorem p_eIf {fc : Env → C Bool} {fa fb : Env → C D} (h : P (fc ρ M) E fun c M1 => (c = true → P (fa ρ M1) E Q) ∧ (c = false → P (fb ρ M1) E Q)) : P (eIf fc fa fb ρ M) E Q := p_bind (h.mono fun c M1 ⟨h1, h2⟩ => by
  cases c with
  | true => rw [if_pos rfl]; exact h1 rfl
  | false => rw [if_neg Bool.false_ne_true]; exact h2 rfl)
theorem p_gTru {x : D} {b : Bool} (h : truD M x = some b) (q : Qb b M) : P (gTru x M) E Qb := by unfold gTru; rw [h]; exact P.k q
theorem p_eAndV {fa fb : Env → C D} (h : P (fa ρ M) E fun x M1 => ∃ b, truD M1 x = some b ∧ (b = true → P (fb ρ M1) E Q) ∧ (b = false → Q x M1)) : P (eAndV fa fb ρ M) E Q := p_bind (h.mono fun x M1 ⟨b, h0, h1, h2⟩ => p_bind (p_gTru h0 (by
  cases b with
  | true => rw [if_pos rfl]; exact h1 rfl
  | false => rw [if_neg Bool.false_ne_true]; exact P.k (h2 rfl))))
theorem p_eOrV {fa fb : Env → C D} (h : P (fa ρ M) E fun x M1 => ∃ b, truD M1 x = some b ∧ (b = true → Q x M1) ∧ (b = false → P (fb ρ M1) E Q)) : P (eOrV fa fb ρ M) E Q := p_bind (h.mono fun x M1 ⟨b, h0, h1, h2⟩ => p_bind (p_gTru h0 (by
  cases b with
  | true => rw [if_pos rfl]; exact P.k (h1 rfl)
  | false => rw [if_neg Bool.false_ne_true]; exact h2 rfl)))
theorem p_eNotV {fa : Env → C D} (h : P (fa ρ M) E fun x M1 => ∃ b, truD M1 x = some b ∧ Q (Bo (!b)) M1) : P (eNotV fa ρ M) E Q := p_bind (h.mono fun x M1 ⟨b, h0, h1⟩ => p_bind (p_gTru h0 (P.k h1)))
theorem p_chain {g g' : D → D → C D} {fa fb fc : Env → C D} (h : P (fa ρ M) E fun x M1 => P (fb ρ M1) E fun y M2 => P (g x y M2) E fun z M3 => ∃ k, z = Bo k ∧ (k = true → P (fc ρ M3) E fun w M4 => P (g' y w M4) E Q) ∧ (k = false → Q (Bo false) M3)) : P (eChain g g' fa fb fc ρ M) E Q :=
  p_bind (h.mono fun _ _ h => p_bind (h.mono fun _ _ h => p_bind (h.mono fun z M3 ⟨k, e, h1, h2⟩ => by
    subst e
    refine p_bind (show P (C.ret k M3) E _ from p_ret ?_)
    cases k with
    | true => rw [if_pos rfl]; exact p_bind (h1 rfl)
    | false => rw [if_neg Bool.false_ne_true]; exact P.k (h2 rfl))))
/-! operators on ints and texts -/
theorem p_gI {C : Int → Int → Prop} {f : Int → Int → V} {i j : Int} (h : C i j) (q : Q (.v (f i j)) M) : P (gI C f (I i) (I j) M) E Q := by
  unfold gI; simp only [if_pos h]; exact P.k q
theorem p_add {i j : Int} (q : Q (I (i + j)) M) : P (gAdd (I i) (I j) M) E Q := P.k q
theorem p_sub {i j : Int} (q : Q (I (i - j)) M) : P (gSub (I i) (I j) M) E Q := p_gI trivial q
theorem p_mul {i j : Int} (h : PMul i j) (q : Q (I (i * j)) M) : P (gMul (I i) (I j) M) E Q := p_gI h q
theorem p_div {i j : Int} (h : PDiv i j) (q : Q (I (i / j)) M) : P (gDiv (I i) (I j) M) E Q := p_gI h q
theorem p_mod {i j : Int} (h : 0 < j) (q : Q (I (i % j)) M) : P (gMod (I i) (I j) M) E Q := p_gI h q
theorem p_pow {i j : Int} (h : CPow i j) (q : Q (I (i ^ j.toNat)) M) : P (gPow (I i) (I j) M) E Q := p_gI h q
theorem p_neg {i : Int} (q : Q (I (-i)) M) : P (gNeg (I i) M) E Q := P.k q
theorem p_lt {i j : Int} (q : Q (Bo (decide (i < j))) M) : P (gLt (I i) (I j) M) E Q := P.k q
theorem p_le {i j : Int} (q : Q (Bo (decide (i ≤ j))) M) : P (gLe (I i) (I j) M) E Q := P.k q
theorem p_gt {i j : Int} (q : Q (Bo (decide (j < i))) M) : P (gGt (I i) (I j) M) E Q := P.k q
theorem p_ge {i j : Int} (q : Q (Bo (decide (j ≤ i))) M) : P (gGe (I i) (I j) M) E Q := P.k q
theorem p_addS {a b : Str} (h : a.length + b.length ≤ 16777216) (q : Q (Tx (a ++ b)) M) : P (gAdd (Tx a) (Tx b) M) E Q := by
  show P (addD (Tx a) (Tx b) M) E Q
  unfold addD; simp only [if_pos h]; exact P.k q
theorem deq_int {i j : Int} : deq (I i) (I j) = decide (i = j) := by
  unfold deq toPy pyV PyData.eqv; exact Bool.beq_eq_decide_eq i j
theorem deq_str {i j : Str} : deq (Tx i) (Tx j) = decide (i = j) := by
  unfold deq toPy pyV PyData.eqv; exact Bool.beq_eq_decide_eq i j
theorem p_eqD {x y : D} (hx : okEq (resM M x) = true) (hy : okEq (resM M y) = true) (q : Q (Bo (deq (resM M x) (resM M y))) M) : P (gEq x y M) E Q := by
  unfold gEq; rw [hx, hy]; exact P.k q
theorem p_neD {x y : D} (hx : okEq (resM M x) = true) (hy : okEq (resM M y) = true) (q : Q (Bo (!deq (resM M x) (resM M y))) M) : P (gNe x y M) E Q := by
  unfold gNe; rw [hx, hy]; exact P.k q
theorem p_eqI {i j : Int} (q : Q (Bo (decide (i = j))) M) : P (gEq (I i) (I j) M) E Q := p_eqD rfl rfl (by rw [show deq (resM M (I i)) (resM M (I j)) = deq (I i) (I j) from rfl, deq_int]; exact q)
theorem p_neI {i j : Int} (q : Q (Bo (!decide (i = j))) M) : P (gNe (I i) (I j) M) E Q := p_neD rfl rfl (by rw [show deq (resM M (I i)) (resM M (I j)) = deq (I i) (I j) from rfl, deq_int]; exact q)
theorem p_eqS {i j : Str} (q : Q (Bo (decide (i = j))) M) : P (gEq (Tx i) (Tx j) M) E Q := p_eqD rfl rfl (by rw [show deq (resM M (Tx i)) (resM M (Tx j)) = deq (Tx i) (Tx j) from rfl, deq_str]; exact q)
theorem p_neS {i j : Str} (q : Q (Bo (!decide (i = j))) M) : P (gNe (Tx i) (Tx j) M) E Q := p_neD rfl rfl (by rw [show deq (resM M (Tx i)) (resM M (Tx j)) = deq (Tx i) (Tx j) from rfl, deq_str]; exact q)
theorem p_isN {x : D} (q : Q (Bo (isNon x)) M) : P (gIsN x M) E Q := P.k q
theorem p_notN {x : D} (q : Q (Bo (!isNon x)) M) : P (gNotN x M) E Q := P.k q
/-! subscripts -/
theorem p_ixS {x : D} {ds : List D} {i : Int} {d : D} (h1 : seqOf M x = some ds) (h2 : atI ds i = some d) (q : Q d M) : P (gIx x (I i) M) E Q := by
  cases x with
  | v z => cases h1
  | _ => unfold gIx; simp only [h1, h2]; exact P.k q
theorem p_ixT {z : Str} {i : Int} {c : Nat} (h : atI z.cps.toList i = some c) (q : Q (Tx ⟨#[c]⟩) M) : P (gIx (Tx z) (I i) M) E Q := by
  unfold gIx; simp only [h]; exact P.k q
theorem p_oNo {Qo : Option Int → Mem → Prop} (q : Qo none M) : P (oNo ρ M) E Qo := P.k q
theorem p_oYes {fa : Env → C D} {Qo : Option Int → Mem → Prop} (h : P (fa ρ M) E fun x M1 => ∃ i, x = I i ∧ Qo (some i) M1) : P (oYes fa ρ M) E Qo := p_bind (h.mono fun x M1 ⟨i, e, q⟩ => by subst e; exact P.k q)
theorem p_eSl {fe : Env → C D} {fl fh : Env → C (Option Int)} (h : P (fe ρ M) E fun x M1 => P (fl ρ M1) E fun lo M2 => P (fh ρ M2) E fun hi M3 => P (gSl x lo hi M3) E Q) : P (eSl fe fl fh ρ M) E Q := p_bind (h.mono fun _ _ h => p_bind (h.mono fun _ _ h => p_bind h))
theorem p_slS {z : Str} {lo hi : Option Int} (q : Q (Tx (cutS z lo hi)) M) : P (gSl (Tx z) lo hi M) E Q := P.k q
theorem p_slL {x : D} {ds : List D} {lo hi : Option Int} (h : lstOf M x = some ds) (q : Q (.lst (cutG ds lo hi)) M) : P (gSl x lo hi M) E Q := by
  cases x with
  | v z => cases h
  | tup _ => cases h
  | _ => unfold gSl; simp only [h]; exact P.k q
/-! calls of built-ins -/
theorem p_len {x : D} {n : Nat} (h : lenD M x = some n) (q : Q (I (n : Int)) M) : P (gLen [x] M) E Q := by unfold gLen; simp only [h]; exact P.k q
theorem p_abs {i : Int} (q : Q (I (if i < 0 then -i else i)) M) : P (gAbs [I i] M) E Q := P.k q
theorem p_intI {i : Int} (q : Q (I i) M) : P (gInt [I i] M) E Q := P.k q
theorem p_intB {k : Bool} (q : Q (I (if k = true then 1 else 0)) M) : P (gInt [Bo k] M) E Q := P.k q
theorem p_max2 {i j : Int} (q : Q (I (if j > i then j else i)) M) : P (gMax2 [I i, I j] M) E Q := P.k q
theorem p_min2 {i j : Int} (q : Q (I (if j < i then j else i)) M) : P (gMin2 [I i, I j] M) E Q := P.k q
theorem p_sum {x : D} {ds : List D} {ns : List Int} (h : lstOf M x = some ds) (h2 : intsOf ds = some ns) (q : Q (I ns.sum) M) : P (gSum [x] M) E Q := by unfold gSum; simp only [h, h2]; exact P.k q
theorem p_listV {x : D} {ds : List D} (h : seqOf M x = some ds) (q : Q (.lst ds) M) : P (gListOf mkV [x] M) E Q := by unfold gListOf; simp only [h]; exact P.k q
theorem p_listH {x : D} {ds : List D} (h : seqOf M x = some ds) (q : Q (.h M.length) (M ++ [.lst ds])) : P (gListOf mkH [x] M) E Q := by unfold gListOf; simp only [h]; exact P.k q
theorem p_revLV {x : D} {ds : List D} (h : lstOf M x = some ds) (q : Q (.lst ds.reverse) M) : P (gRevL mkV x M) E Q := by unfold gRevL; simp only [h]; exact P.k q
theorem p_lstV {xs : List D} (h : xs.length ≤ 16777216) (q : Q (.lst xs) M) : P (gLst mkV xs M) E Q := by unfold gLst; rw [if_pos h]; exact P.k q
theorem p_lstH {xs : List D} (h : xs.length ≤ 16777216) (q : Q (.h M.length) (M ++ [.lst xs])) : P (gLst mkH xs M) E Q := by unfold gLst; rw [if_pos h]; exact P.k q
theorem p_tup {xs : List D} (h : xs.length ≤ 16777216) (q : Q (.tup xs) M) : P (gTup xs M) E Q := by unfold gTup; rw [if_pos h]; exact P.k q
theorem p_isi {x : D} {c t : String} {b : Bool} (h : tyN M x = some t) (h2 : kitB t c = some b) (q : Q (Bo b) M) : P (gIsi [x, .v (.ty c)] M) E Q := by unfold gIsi; simp only [h, h2]; exact P.k q
theorem p_append {k : Nat} {d : D} {ds : List D} (h : M[k]? = some (.lst ds)) (hl : ds.length < 16777216) (q : Q No (M.set k (.lst (ds ++ [d])))) : P (gAppend (.h k) [d] M) E Q := by unfold gAppend; simp only [h, if_pos hl]; exact P.k q
theorem p_in {x y : D} {b : Bool} (h : inD M x y = some b) (q : Q (Bo b) M) : P (gIn x y M) E Q := by unfold gIn; simp only [h]; exact P.k q
theorem p_notIn {x y : D} {b : Bool} (h : inD M x y = some b) (q : Q (Bo (!b)) M) : P (gNotIn x y M) E Q := by unfold gNotIn; simp only [h]; exact P.k q
end
/-! statements -/
section
variable {α : Type} {M : Mem} {ρ : Env} {nx : Env → Mem → Prop} {rt : D → Mem → Prop} {bk ct : Env → Mem → Prop} {er : Exn → Env → Mem → Prop} {fe : Env → C D} {f g : Cs} {Q : D → Mem → Prop} {E : Exn → Mem → Prop}
theorem s_E {c : C α} {g : α → Mem → SOut} (h : P (c M) (fun x M1 => er x ρ M1) fun a M1 => SP (g a M1) nx rt bk ct er) : SP (sE c ρ g M) nx rt bk ct er := by
  unfold sE
  cases e : c M with
  | ok a M1 => rw [e] at h; exact h.g
  | er x M1 => rw [e] at h; exact SP.ke h.ge
  | stuck => rw [e] at h; exact h.gs.elim
theorem s_set {i : Nat} (h : P (fe ρ M) (fun x M1 => er x ρ M1) fun d M1 => nx (ρ.set i (some d)) M1) : SP (sSet i fe ρ M) nx rt bk ct er := s_E (h.mono fun _ _ q => SP.kn q)
theorem s_ret (h : P (fe ρ M) (fun x M1 => er x ρ M1) rt) : SP (sRet fe ρ M) nx rt bk ct er := s_E (h.mono fun _ _ q => SP.kr q)
theorem s_retN (h : rt No M) : SP (sRetN ρ M) nx rt bk ct er := SP.kr h
theorem s_expr (h : P (fe ρ M) (fun x M1 => er x ρ M1) fun _ M1 => nx ρ M1) : SP (sExpr fe ρ M) nx rt bk ct er := s_E (h.mono fun _ _ q => SP.kn q)
theorem s_if {fc : Env → C Bool} (h : P (fc ρ M) (fun x M1 => er x ρ M1) fun b M1 => (b = true → SP (f ρ M1) nx rt bk ct er) ∧ (b = false → SP (g ρ M1) nx rt bk ct er)) : SP (sIf fc f g ρ M) nx rt bk ct er := s_E (h.mono fun b M1 ⟨h1, h2⟩ => by
  cases b with
  | true => rw [if_pos rfl]; exact h1 rfl
  | false => rw [if_neg Bool.false_ne_true]; exact h2 rfl)
theorem s_seq (h : SP (f ρ M) (fun ρ1 M1 => SP (g ρ1 M1) nx rt bk ct er) rt bk ct er) : SP (sSeq f g ρ M) nx rt bk ct er := by
  unfold sSeq
  cases e : f ρ M with
  | nx ρ1 M1 => rw [e] at h; exact h.gn
  | rt d M1 => rw [e] at h; exact SP.kr h.gr
  | bk ρ1 M1 => rw [e] at h; exact SP.kb h.gb
  | ct ρ1 M1 => rw [e] at h; exact SP.kc h.gc
  | er x ρ1 M1 => rw [e] at h; exact SP.ke h.ge
  | stuck => rw [e] at h; exact h.gs.elim
/-- a cut: what holds between -/
theorem s_cut (J : Env → Mem → Prop) (h : SP (f ρ M) J rt bk ct er) (k : ∀ ρ1 M1, J ρ1 M1 → SP (g ρ1 M1) nx rt bk ct er) : SP (sSeq f g ρ M) nx rt bk ct er :=
  s_seq (h.mono k (fun _ _ q => q) (fun _ _ q => q) (fun _ _ q => q) (fun _ _ _ q => q))
theorem s_pass (h : nx ρ M) : SP (sPass ρ M) nx rt bk ct er := SP.kn h
theorem s_break (h : bk ρ M) : SP (sBreak ρ M) nx rt bk ct er := SP.kb h
theorem s_cont (h : ct ρ M) : SP (sCont ρ M) nx rt bk ct er := SP.kc h
theorem s_asg {t : Tg} (h : P (fe ρ M) (fun x M1 => er x ρ M1) fun d M1 => ∃ ρ1, t.run d ρ = some ρ1 ∧ nx ρ1 M1) : SP (sAsg t fe ρ M) nx rt bk ct er := s_E (h.mono fun d M1 ⟨ρ1, e, q⟩ => by rw [e]; exact SP.kn q)
theorem s_store {fo fi : Env → C D} (h : P (fe ρ M) (fun x M1 => er x ρ M1) fun d M1 => P (fo ρ M1) (fun x M1 => er x ρ M1) fun o M2 => P (fi ρ M2) (fun x M1 => er x ρ M1) fun i M3 => ∃ M4, storeD M3 o i d = some M4 ∧ nx ρ M4) : SP (sStore fo fi fe ρ M) nx rt bk ct er :=
  s_E (h.mono fun d M1 h => s_E (h.mono fun o M2 h => s_E (h.mono fun i M3 ⟨M4, e, q⟩ => by rw [e]; exact SP.kn q)))
theorem s_aug {i : Nat} {g : D → D → C D} {x : D} (hx : ρ[i]? = some (some x)) (h : P (fe ρ M) (fun x M1 => er x ρ M1) fun y M1 => P (g x y M1) (fun x M1 => er x ρ M1) fun z M2 => nx (ρ.set i (some z)) M2) : SP (sAug i g fe ρ M) nx rt bk ct er := by
  unfold sAug
  rw [hx]
  exact s_E (h.mono fun y M1 h => s_E (h.mono fun _ _ q => SP.kn q))
theorem p_iaddI {i j : Int} (q : Q (I (i + j)) M) : P (iAdd (I i) (I j) M) E Q := P.k q
/-- for: the invariant by the items taken -/
theorem s_forL {gd : Option (Nat × List D)} {t : Tg} {body : Cs} (J : Nat → Env → Mem → Prop) {ds : List D} (h0 : J 0 ρ M) (hg : ∀ i ρ M, J i ρ M → gOk gd M)
    (hs : ∀ i d ρ M, ds[i]? = some d → J i ρ M → ∃ ρ1, t.run d ρ = some ρ1 ∧ SP (body ρ1 M) (J (i + 1)) rt nx (J (i + 1)) er)
    (hd : ∀ ρ M, J ds.length ρ M → nx ρ M) : SP (forL gd t body ds ρ M) nx rt bk ct er := by
  have go : ∀ (es : List D) (i : Nat) (ρ : Env) (M : Mem), ds.drop i = es → i + es.length = ds.length → J i ρ M → SP (forL gd t body es ρ M) nx rt bk ct er := by
    intro es
    induction es with
    | nil =>
      intro i ρ M he hl hj
      unfold forL
      rw [if_pos (hg i ρ M hj)]
      have : i = ds.length := by simpa using hl
      subst this
      exact SP.kn (hd ρ M hj)
    | cons d es ih =>
      intro i ρ M he hl hj
      unfold forL
      rw [if_pos (hg i ρ M hj)]
      have hi : ds[i]? = some d := by
        have : (ds.drop i)[0]? = some d := by rw [he]; rfl
        simpa using this
      obtain ⟨ρ1, h1, h2⟩ := hs i d ρ M hi hj
      rw [h1]
      have he2 : ds.drop (i + 1) = es := by
        rw [← List.drop_drop, he]; rfl
      simp only
      cases eb : body ρ1 M with
      | nx ρ2 M2 => rw [eb] at h2; exact ih (i + 1) ρ2 M2 he2 (by simp at hl; omega) h2.gn
      | ct ρ2 M2 => rw [eb] at h2; exact ih (i + 1) ρ2 M2 he2 (by simp at hl; omega) h2.gc
      | bk ρ2 M2 => rw [eb] at h2; exact SP.kn h2.gb
      | rt d2 M2 => rw [eb] at h2; exact SP.kr h2.gr
      | er x ρ2 M2 => rw [eb] at h2; exact SP.ke h2.ge
      | stuck => rw [eb] at h2; exact h2.gs.elim
  exact go ds 0 ρ M rfl (by simp) h0
theorem s_for {fi : Env → C ItS} {t : Tg} {body : Cs} (h : P (fi ρ M) (fun x M1 => er x ρ M1) fun Z M1 => SP (forL Z.g t body Z.ds ρ M1) nx rt bk ct er) : SP (sFor fi t body ρ M) nx rt bk ct er := s_E h
theorem p_eIt {fa : Env → C D} {Qi : ItS → Mem → Prop} (h : P (fa ρ M) E fun x M1 => ∃ Z, itOf M1 x = some Z ∧ Qi Z M1) : P (eIt fa ρ M) E Qi := p_bind (h.mono fun x M1 ⟨Z, e, q⟩ => by unfold gIt; rw [e]; exact P.k q)
theorem p_eRange1 {fs : Env → C (List D)} {Qi : ItS → Mem → Prop} (h : P (fs ρ M) E fun xs M1 => ∃ j, xs = [I j] ∧ (-(2 ^ 62) ≤ j ∧ j < 2 ^ 62) ∧ Qi ⟨rangeD 0 j.toNat, none⟩ M1) : P (eRange1 fs ρ M) E Qi := p_bind (h.mono fun xs M1 ⟨j, e, hj, q⟩ => by
  subst e; unfold gRange1; simp only [if_pos hj]; exact P.k q)
theorem p_eRange2 {fs : Env → C (List D)} {Qi : ItS → Mem → Prop} (h : P (fs ρ M) E fun xs M1 => ∃ i j, xs = [I i, I j] ∧ (-(2 ^ 62) ≤ i ∧ i < 2 ^ 62 ∧ -(2 ^ 62) ≤ j ∧ j < 2 ^ 62) ∧ Qi ⟨rangeD i (j - i).toNat, none⟩ M1) : P (eRange2 fs ρ M) E Qi := p_bind (h.mono fun xs M1 ⟨i, j, e, hj, q⟩ => by
  subst e; unfold gRange2; simp only [if_pos hj]; exact P.k q)
theorem p_eEnum {fs : Env → C (List D)} {Qi : ItS → Mem → Prop} (h : P (fs ρ M) E fun xs M1 => ∃ x ds, xs = [x] ∧ lstOf M1 x = some ds ∧ Qi ⟨enumD ds, grd x ds⟩ M1) : P (eEnum fs ρ M) E Qi := p_bind (h.mono fun xs M1 ⟨x, ds, e, hd, q⟩ => by
  subst e; unfold gEnum; simp only [hd]; exact P.k q)
theorem rangeD_get {lo : Int} {n i : Nat} {d : D} (h : (rangeD lo n)[i]? = some d) : d = I (lo + (i : Int)) ∧ i < n := by
  unfold rangeD at h
  have hi : i < n := by
    have := (List.getElem?_eq_some_iff.mp h).1
    simpa using this
  rw [List.getElem?_map, List.getElem?_range hi] at h
  cases h
  exact ⟨rfl, hi⟩
theorem rangeD_len {lo : Int} {n : Nat} : (rangeD lo n).length = n := by unfold rangeD; simp
/-- a comprehension: the invariant by the items taken and what is made -/
theorem p_lcL {gd : Option (Nat × List D)} {t : Tg} {test : Env → C Bool} {elt : Env → C D} {Q : List D → Mem → Prop} (J : Nat → List D → Mem → Prop) {ds : List D} (h0 : J 0 [] M) (hg : ∀ i acc M, J i acc M → gOk gd M)
    (hs : ∀ i d acc M, ds[i]? = some d → J i acc M → ∃ ρ1, t.run d ρ = some ρ1 ∧ P (test ρ1 M) NoE fun b M1 => (b = true → P (elt ρ1 M1) NoE fun y M2 => J (i + 1) (acc ++ [y]) M2) ∧ (b = false → J (i + 1) acc M1))
    (hd : ∀ acc M, J ds.length acc M → Q acc M) : P (lcL gd t test elt ds [] ρ M) E Q := by
  have go : ∀ (es : List D) (i : Nat) (acc : List D) (M : Mem), ds.drop i = es → i + es.length = ds.length → J i acc M → P (lcL gd t test elt es acc ρ M) E Q := by
    intro es
    induction es with
    | nil =>
      intro i acc M he hl hj
      unfold lcL
      rw [if_pos (hg i acc M hj)]
      have : i = ds.length := by simpa using hl
      subst this
      exact P.k (hd acc M hj)
    | cons d es ih =>
      intro i acc M he hl hj
      unfold lcL
      rw [if_pos (hg i acc M hj)]
      have hi : ds[i]? = some d := by
        have : (ds.drop i)[0]? = some d := by rw [he]; rfl
        simpa using this
      obtain ⟨ρ1, h1, h2⟩ := hs i d acc M hi hj
      rw [h1]
      have he2 : ds.drop (i + 1) = es := by
        rw [← List.drop_drop, he]; rfl
      simp only
      obtain ⟨b, M1, e1, h3, h4⟩ := h2.ok
      rw [e1]
      cases b with
      | false => exact ih (i + 1) acc M1 he2 (by simp at hl; omega) (h4 rfl)
      | true =>
        obtain ⟨y, M2, e2, h5⟩ := (h3 rfl).ok
        simp only [e2]
        exact ih (i + 1) (acc ++ [y]) M2 he2 (by simp at hl; omega) h5
  exact go ds 0 [] M rfl (by simp) h0
theorem p_lcG {mk : List D → Mem → Out D} {fi : Env → C ItS} {t : Tg} {test : Env → C Bool} {elt : Env → C D} {vs : List Nat} (h : P (fi ρ M) E fun Z M1 => Z.ds.length ≤ 16777216 ∧ P (lcL Z.g t test elt Z.ds [] (wipeD ρ vs) M1) NoE fun acc M2 => P (mk acc M2) E Q) : P (eLcG mk fi t test elt vs ρ M) E Q :=
  p_bind (h.mono fun Z M1 ⟨h1, h2⟩ => by
    rw [if_pos h1]
    obtain ⟨acc, M2, e, h3⟩ := h2.ok
    rw [e]
    exact h3)
theorem p_mkV {acc : List D} (q : Q (.lst acc) M) : P (mkV acc M) E Q := P.k q
theorem p_mkH {acc : List D} (q : Q (.h M.length) (M ++ [.lst acc])) : P (mkH acc M) E Q := P.k q
theorem p_bYes {Qb : Bool → Mem → Prop} (q : Qb true M) : P (bYes ρ M) E Qb := P.k q
/-! defs -/
theorem p_runF {md : Mode} {n N : Nat} {body : Cs} {ds : List D} (hn : ds.length = n) (h : SP (body (ds.map some ++ List.replicate (N - n) none) M) (fun _ M1 => P (finish md M M1 No) E Q) (fun d M1 => P (finish md M M1 d) E Q) (fun _ _ => False) (fun _ _ => False) (fun x _ M1 => E x M1)) :
    P (runF md n N body ds M) E Q := by
  unfold runF
  rw [if_pos hn]
  cases e : body (ds.map some ++ List.replicate (N - n) none) M with
  | nx ρ1 M1 => rw [e] at h; exact h.gn
  | rt d M1 => rw [e] at h; exact h.gr
  | bk ρ1 M1 => rw [e] at h; exact h.gb.elim
  | ct ρ1 M1 => rw [e] at h; exact h.gc.elim
  | er x ρ1 M1 => rw [e] at h; exact P.e h.ge
  | stuck => rw [e] at h; exact h.gs.elim
theorem CellsOk.refl (M : Mem) : CellsOk M M := fun _ _ => .inl rfl
theorem CellsOk.set {M1 : Mem} {k : Nat} {c : D} (h : CellsOk M M1) (hc : hb M.length c = true) : CellsOk M (M1.set k c) := fun j hj => by
  by_cases e : k = j
  · subst e
    by_cases hl : k < M1.length
    · exact .inr ⟨c, by rw [List.getElem?_set_self hl], hc⟩
    · rw [List.set_eq_of_length_le (by omega)]; exact h k hj
  · rw [List.getElem?_set_ne e]; exact h j hj
theorem CellsOk.app {M1 L : Mem} (h : CellsOk M M1) (hl : M.length ≤ M1.length) : CellsOk M (M1 ++ L) := fun j hj => by
  rw [List.getElem?_append_left (by omega)]; exact h j hj
/-- .. of any datum that is no handle -/
def noH : D → Bool
  | .h _ => false
  | _ => true
theorem p_finD {md : Mode} {M1 M2 : Mem} {d : D} (hm : md ≠ .keep) (hd : noH d = true) (h : CellsOk M M1) (hv : hb M.length d = true) (e : M1.take M.length = M2) (q : Q d M2) : P (finish md M M1 d) E Q := by
  cases md with
  | keep => exact absurd rfl hm
  | own =>
    unfold finish finVal
    cases d with
    | h k => cases hd
    | _ => simp only; rw [if_pos ⟨h, hv⟩, e]; exact P.k q
  | frz =>
    unfold finish finVal
    cases d with
    | h k => cases hd
    | _ => simp only; rw [if_pos ⟨h, hv⟩, e]; exact P.k q
theorem p_finV {md : Mode} {M1 M2 : Mem} {x : V} (hm : md ≠ .keep) (h : CellsOk M M1) (e : M1.take M.length = M2) (q : Q (.v x) M2) : P (finish md M M1 (.v x)) E Q := p_finD hm rfl h rfl e q
theorem p_finF {M1 M2 : Mem} {k : Nat} {c : D} (hk : M.length ≤ k) (hc : M1[k]? = some c) (h : CellsOk M M1) (hv : hb M.length c = true) (e : M1.take M.length = M2) (q : Q c M2) : P (finish .frz M M1 (.h k)) E Q := by
  unfold finish
  simp only
  rw [if_neg (by omega), hc]
  simp only
  rw [if_pos ⟨h, hv⟩, e]; exact P.k q
theorem p_finO {M1 M2 : Mem} {k : Nat} {c : D} (hk : M.length ≤ k) (hc : M1[k]? = some c) (h : CellsOk M M1) (hv : hb M.length c = true) (e : M1.take M.length = M2) (q : Q (.h M.length) (M2 ++ [c])) : P (finish .own M M1 (.h k)) E Q := by
  unfold finish
  simp only
  rw [if_neg (by omega), hc]
  simp only
  rw [if_pos ⟨h, hv⟩, e]; exact P.k q
end
end DL
set_option Elab.async false
set_option maxRecDepth 100000
namespace DL
open PySem PySem.Spec PyProof.Rows L2
theorem get_set {M : Mem} {k : Nat} {c c0 : D} (h : M[k]? = some c0) : (M.set k c)[k]? = some c := List.getElem?_set_self (List.getElem?_eq_some_iff.mp h).1
theorem get_set_ne {M : Mem} {j k : Nat} {c d : D} (hne : j ≠ k) (h : M[k]? = some d) : (M.set j c)[k]? = some d := by rw [List.getElem?_set_ne hne]; exact h
theorem get_app {M L : Mem} {k : Nat} {c : D} (h : M[k]? = some c) : (M ++ L)[k]? = some c := by rw [List.getElem?_append_left (List.getElem?_eq_some_iff.mp h).1]; exact h
theorem pmul_r {i j : Int} (h1 : -(2 ^ 64) < j) (h2 : j < 2 ^ 64) : PMul i j := .inl (.inr ⟨h1, h2⟩)
theorem pmul_l {i j : Int} (h1 : -(2 ^ 64) < i) (h2 : i < 2 ^ 64) : PMul i j := .inl (.inl ⟨h1, h2⟩)
theorem pdiv_n {i j : Int} (h1 : 0 < j) (h2 : j < 1073741824) : PDiv i j := .inl ⟨h1, h2⟩
section
variable {M : Mem} {E : Exn → Mem → Prop} {Q : D → Mem → Prop}
theorem p_ixH {k : Nat} {ds : List D} {i : Int} {d : D} (h1 : M[k]? = some (.lst ds)) (h2 : atI ds i = some d) (q : Q d M) : P (gIx (.h k) (I i) M) E Q := p_ixS (by simp [seqOf, h1]) h2 q
theorem p_lenH {k : Nat} {ds : List D} (h1 : M[k]? = some (.lst ds)) (q : Q (I (ds.length : Int)) M) : P (gLen [.h k] M) E Q := p_len (by simp [lenD, h1]) q
end
theorem atI_of {α : Type} {xs : List α} {i : Int} (h0 : 0 ≤ i) (h1 : i < xs.length) : atI xs i = xs[i.toNat]? := by
  unfold atI ixN
  rw [if_pos h0, if_pos h1]; rfl
theorem atI_map {α β : Type} {xs : List α} {i : Int} (f : α → β) (h0 : 0 ≤ i) (h1 : i < xs.length) : ∃ x ∈ xs, atI (xs.map f) i = some (f x) := by
  have hk : i.toNat < xs.length := by omega
  refine ⟨xs[i.toNat], List.getElem_mem hk, ?_⟩
  rw [atI_of h0 (by simpa using h1), List.getElem?_map, List.getElem?_eq_getElem hk]; rfl
theorem storeD_of {M : Mem} {k j : Nat} {ds : List D} {z : Int} {d : D} (h : M[k]? = some (.lst ds)) (hj : ixN ds.length z = some j) : storeD M (.h k) (I z) d = some (M.set k (.lst (ds.set j d))) := by
  unfold storeD; simp only [h, hj]
theorem p_store {M : Mem} {k j : Nat} {ds : List D} {z : Int} {d : D} {Q : Mem → Prop} (h : M[k]? = some (.lst ds)) (hj : ixN ds.length z = some j) (q : Q (M.set k (.lst (ds.set j d)))) : ∃ M4, storeD M (.h k) (I z) d = some M4 ∧ Q M4 := ⟨_, storeD_of h hj, q⟩
theorem p_dec {c A B : Prop} [Decidable c] (h1 : c → A) (h2 : ¬ c → B) : (decide c = true → A) ∧ (decide c = false → B) := ⟨fun h => h1 (of_decide_eq_true h), fun h => h2 (of_decide_eq_false h)⟩
theorem p_ndec {c A B : Prop} [Decidable c] (h1 : ¬ c → A) (h2 : c → B) : ((!decide c) = true → A) ∧ ((!decide c) = false → B) := ⟨fun h => h1 (by simpa using h), fun h => h2 (by simpa using h)⟩
theorem p_tt {A B : Prop} (h : A) : (true = true → A) ∧ (true = false → B) := ⟨fun _ => h, (fun z => absurd z (by decide))⟩
theorem p_ff {A B : Prop} (h : B) : (false = true → A) ∧ (false = false → B) := ⟨(fun z => absurd z (by decide)), fun _ => h⟩
theorem SP.cut {o : SOut} {nx : Env → Mem → Prop} {rt : D → Mem → Prop} {bk ct : Env → Mem → Prop} {er : Exn → Env → Mem → Prop} (J : Env → Mem → Prop) (h : SP o J rt bk ct er) (k : ∀ ρ M, J ρ M → nx ρ M) : SP o nx rt bk ct er :=
  h.mono k (fun _ _ q => q) (fun _ _ q => q) (fun _ _ q => q) (fun _ _ _ q => q)
theorem P.cut {α : Type} {o : Out α} {E : Exn → Mem → Prop} {Q : α → Mem → Prop} (J : α → Mem → Prop) (h : P o E J) (k : ∀ a M, J a M → Q a M) : P o E Q := h.mono k
theorem atI_mapI {ns : List Int} {i : Int} (h0 : 0 ≤ i) (h1 : i < ((ns.map I).length : Int)) : atI (ns.map I) i = some (I (ns.getD i.toNat 0)) := by
  have h2 : i < (ns.length : Int) := by simpa using h1
  have hk : i.toNat < ns.length := by omega
  rw [atI_of h0 h1, List.getElem?_map, List.getElem?_eq_getElem hk]
  simp [List.getD, List.getElem?_eq_getElem hk]
theorem p_ixLI {ns : List Int} {i : Int} {M : Mem} {E : Exn → Mem → Prop} {Q : D → Mem → Prop} (h0 : 0 ≤ i) (h1 : i < ((ns.map I).length : Int)) (q : Q (I (ns.getD i.toNat 0)) M) : P (gIx (.lst (ns.map I)) (I i) M) E Q := p_ixS rfl (atI_mapI h0 h1) q
theorem beq_true_eq {b : Bool} {A B : Prop} (h1 : b = true → A) (h2 : b = false → B) : (b = true → A) ∧ (b = false → B) := ⟨h1, h2⟩
end DL
set_option Elab.async false
set_option maxRecDepth 100000
namespace DL
open PySem PySem.Spec PyProof.Rows L2
/-! ### lists by index -/
def Ls {α : Type} (n : Nat) (f : Nat → α) : List α := (List.range n).map f
section
variable {α β : Type} {n i : Nat} {f g : Nat → α}
@[simp] theorem Ls_len : (Ls n f).length = n := by simp [Ls]
theorem Ls_get (h : i < n) : (Ls n f)[i]? = some (f i) := by simp [Ls, h]
theorem Ls_get_of {d : α} (h : (Ls n f)[i]? = some d) : i < n ∧ d = f i := by
  have hi : i < n := by simpa using (List.getElem?_eq_some_iff.mp h).1
  rw [Ls_get hi] at h
  cases h
  exact ⟨hi, rfl⟩
theorem Ls_succ : Ls (n + 1) f = Ls n f ++ [f n] := by simp [Ls, List.range_succ]
theorem Ls_zero : Ls 0 f = [] := rfl
theorem Ls_one : Ls 1 f = [f 0] := rfl
theorem Ls_map (h : α → β) : (Ls n f).map h = Ls n fun i => h (f i) := by simp [Ls]
theorem Ls_ext (h : ∀ i, i < n → f i = g i) : Ls n f = Ls n g := by
  unfold Ls
  exact List.map_congr_left fun i hi => h i (List.mem_range.mp hi)
theorem Ls_of {xs : List α} (hl : xs.length = n) (h : ∀ i, i < n → xs[i]? = some (f i)) : xs = Ls n f := by
  apply List.ext_getElem?
  intro i
  by_cases hi : i < n
  · rw [h i hi, Ls_get hi]
  · rw [List.getElem?_eq_none (by omega), List.getElem?_eq_none (by simp; omega)]
theorem Ls_rev : (Ls n f).reverse = Ls n fun i => f (n - 1 - i) := by
  apply Ls_of (by simp)
  intro i hi
  rw [List.getElem?_reverse (by simpa using hi), Ls_len, Ls_get (by omega)]
theorem Ls_mem {d : α} (h : d ∈ Ls n f) : ∃ i, i < n ∧ d = f i := by
  unfold Ls at h
  rw [List.mem_map] at h
  obtain ⟨i, hi, e⟩ := h
  exact ⟨i, List.mem_range.mp hi, e.symm⟩
theorem Ls_list {xs : List α} (d : α) : xs = Ls xs.length fun i => xs.getD i d := by
  apply Ls_of rfl
  intro i hi
  rw [List.getD_eq_getElem?_getD, List.getElem?_eq_getElem hi]; rfl
theorem atI_Ls {i : Int} (h0 : 0 ≤ i) (h1 : i < (n : Int)) : atI (Ls n f) i = some (f i.toNat) := by
  rw [atI_of h0 (by simpa using h1), Ls_get (by omega)]
theorem cutG_hi {xs : List α} {k : Nat} : cutG xs none (some (k : Int)) = xs.take k := by
  unfold cutG
  rw [HT.sIx_nat]
  simp [HT.sIx]
theorem cutG_map (f : α → β) {xs : List α} {lo hi : Option Int} : cutG (xs.map f) lo hi = (cutG xs lo hi).map f := by
  unfold cutG; simp
theorem Ls_take {k : Nat} (h : k ≤ n) : (Ls n f).take k = Ls k f := by
  apply Ls_of (by simp; omega)
  intro i hi
  rw [List.getElem?_take_of_lt hi, Ls_get (by omega)]
end
theorem rangeD_Ls {lo : Int} {n : Nat} : rangeD lo n = Ls n fun i => I (lo + (i : Int)) := rfl
theorem enumD_Ls {n : Nat} {f : Nat → D} : enumD (Ls n f) = Ls n fun i => .tup [I (i : Int), f i] := by
  apply Ls_of (by simp [enumD])
  intro i hi
  unfold enumD
  rw [List.getElem?_map, List.getElem?_zipIdx, Ls_get hi]; simp
/-! equal data -/
mutual
theorem eqv_toPy : ∀ d : D, PyData.eqv (toPy d) (toPy d) = true
  | .v x => by
    unfold toPy
    cases x <;> simp [pyV, PyData.eqv]
  | .tup ds => by unfold toPy PyData.eqv; exact eqv_toPys ds
  | .lst ds => by unfold toPy PyData.eqv; exact eqv_toPys ds
  | .ro ds => by unfold toPy PyData.eqv; exact eqv_toPys ds
  | .h _ => by simp [toPy, PyData.eqv]
  | .ins _ _ _ => by simp [toPy, PyData.eqv]
  | .dK _ _ => by simp [toPy, PyData.eqv]
  | .dT _ _ => by simp [toPy, PyData.eqv]
  | .cl _ => by simp [toPy, PyData.eqv]
theorem eqv_toPys : ∀ ds : List D, PyData.eqvAll (toPys ds) (toPys ds) = true
  | [] => by simp [toPys, PyData.eqvAll]
  | d :: ds => by
    unfold toPys PyData.eqvAll
    rw [eqv_toPy d, eqv_toPys ds]; rfl
end
theorem deq_refl (d : D) : deq d d = true := eqv_toPy d
theorem plains_of {ds : List D} (h : ∀ d ∈ ds, plain d = true) : plains ds = true := by
  induction ds with
  | nil => rfl
  | cons d ds ih =>
    unfold plains
    rw [h d (by simp), ih fun e he => h e (by simp [he])]; rfl
theorem deps_of {ds : List D} {k : Nat} (h : ∀ d ∈ ds, dep d ≤ k) : deps ds ≤ k := by
  induction ds with
  | nil => exact Nat.zero_le _
  | cons d ds ih =>
    unfold deps
    have h1 := h d (by simp)
    have h2 := ih fun e he => h e (by simp [he])
    omega
theorem okEq_all {ds : List D} (h : ∀ d ∈ ds, plain d = true ∧ dep d ≤ 62) : okEq (.lst ds) = true := by
  unfold okEq plain dep
  rw [plains_of fun d hd => (h d hd).1]
  have := deps_of (ds := ds) (k := 62) fun d hd => (h d hd).2
  rw [decide_eq_true (by omega)]; rfl
theorem okEq_LsV {n : Nat} {f : Nat → V} (h : ∀ i, flatV (f i) = true) : okEq (.lst (Ls n fun i => .v (f i))) = true := okEq_all fun d hd => by
  obtain ⟨i, _, rfl⟩ := Ls_mem hd
  exact ⟨by unfold plain; exact h i, by unfold dep; omega⟩
theorem hbs_of {L : Nat} {ds : List D} (h : ∀ d ∈ ds, hb L d = true) : hbs L ds = true := by
  induction ds with
  | nil => rfl
  | cons d ds ih =>
    unfold hbs
    rw [h d (by simp), ih fun e he => h e (by simp [he])]; rfl
theorem hb_lst {L : Nat} {ds : List D} (h : ∀ d ∈ ds, hb L d = true) : hb L (.lst ds) = true := by unfold hb; exact hbs_of h
theorem hb_tup {L : Nat} {ds : List D} (h : ∀ d ∈ ds, hb L d = true) : hb L (.tup ds) = true := by unfold hb; exact hbs_of h
theorem hb_v {L : Nat} {x : V} : hb L (.v x) = true := by unfold hb; rfl
theorem hb_Ls {L n : Nat} {f : Nat → D} (h : ∀ i, hb L (f i) = true) : hb L (.lst (Ls n f)) = true := hb_lst fun d hd => by
  obtain ⟨i, _, rfl⟩ := Ls_mem hd
  exact h i
theorem intsOf_map {ns : List Int} : intsOf (ns.map I) = some ns := by
  unfold intsOf
  induction ns with
  | nil => rfl
  | cons i is ih => rw [List.map_cons, List.mapM_cons, ih]; rfl
section
variable {M : Mem} {ρ : Env} {E : Exn → Mem → Prop}
/-- a comprehension without a test, item by item -/
theorem p_lcR {gd : Option (Nat × List D)} {t : Tg} {test : Env → C Bool} {elt : Env → C D} {Q : List D → Mem → Prop} {ds : List D} (f : Nat → D) (hg : gOk gd M)
    (hs : ∀ i d, ds[i]? = some d → ∃ ρ1, t.run d ρ = some ρ1 ∧ P (test ρ1 M) NoE fun b M1 => b = true ∧ P (elt ρ1 M1) NoE fun y M2 => y = f i ∧ M2 = M)
    (hd : Q (Ls ds.length f) M) : P (lcL gd t test elt ds [] ρ M) E Q := by
  refine p_lcL (fun i acc M1 => acc = Ls i f ∧ M1 = M) ⟨rfl, rfl⟩ (fun _ _ _ h => h.2 ▸ hg) ?_ ?_
  · rintro i d _ _ hi ⟨rfl, rfl⟩
    obtain ⟨ρ1, h1, h2⟩ := hs i d hi
    refine ⟨ρ1, h1, h2.mono ?_⟩
    rintro b M1 ⟨rfl, h3⟩
    exact ⟨fun _ => h3.mono (by rintro y M2 ⟨rfl, rfl⟩; exact ⟨Ls_succ.symm, rfl⟩), fun z => absurd z (by decide)⟩
  · rintro _ _ ⟨rfl, rfl⟩
    exact hd
theorem p_ixLs {n : Nat} {f : Nat → D} {i : Int} {Q : D → Mem → Prop} (h0 : 0 ≤ i) (h1 : i < (n : Int)) (q : Q (f i.toNat) M) : P (gIx (.lst (Ls n f)) (I i) M) E Q := p_ixS rfl (atI_Ls h0 h1) q
theorem p_eqR {x : D} {Q : D → Mem → Prop} (h : okEq (resM M x) = true) (q : Q (Bo true) M) : P (gEq x x M) E Q := p_eqD h h (by rw [deq_refl]; exact q)
theorem p_neR {x : D} {Q : D → Mem → Prop} (h : okEq (resM M x) = true) (q : Q (Bo false) M) : P (gNe x x M) E Q := p_neD h h (by rw [deq_refl]; exact q)
end
theorem p_ty {T : String} {M : Mem} {x : D} {R : Prop} (h : tyOk T M x = true) (r : R) : tyOk T M x = true ∧ R := ⟨h, r⟩
theorem p_inL {M : Mem} {E : Exn → Mem → Prop} {x y : D} {ds : List D} {Q : D → Mem → Prop} (hy : lstOf M y = some ds) (h1 : okEq (resM M x) = true) (h2 : okEq (.lst ds) = true) (q : Q (Bo (anyEq (resM M x) ds)) M) : P (gIn x y M) E Q := by
  refine p_in (b := anyEq (resM M x) ds) ?_ q
  unfold inD
  cases y with
  | v z => cases hy
  | tup _ => cases hy
  | _ => simp only [hy, h1, h2]; rfl
theorem cutS_7 {z : Str} {k : Nat} : (cutS z none (some (k : Int))).length ≤ k := by
  unfold cutS
  rw [HT.sIx_nat]
  show (List.toArray _).size ≤ k
  simp [HT.sIx]; omega
theorem len_c (c : Nat) : (⟨#[c]⟩ : Str).length = 1 := rfl
theorem p_finZ {M M1 M2 : Mem} {x : V} {E : Exn → Mem → Prop} {Q : D → Mem → Prop} (h : CellsOk M M1) (e : M1.take M.length = M2) (q : Q (.v x) M2) : P (finish .frz M M1 (.v x)) E Q := p_finV (fun z => by cases z) h e q
theorem p_finY {M : Mem} {x : V} {E : Exn → Mem → Prop} {Q : D → Mem → Prop} (q : Q (.v x) M) : P (finish .frz M M (.v x)) E Q := p_finZ (CellsOk.refl M) List.take_length q
theorem p_tr {R : Prop} (h : R) : true = true ∧ R := ⟨rfl, h⟩
theorem p_nt {A B : Prop} (h : B) : ((!true) = true → A) ∧ ((!true) = false → B) := ⟨(fun z => absurd z (by decide)), fun _ => h⟩
theorem p_nf {A B : Prop} (h : A) : ((!false) = true → A) ∧ ((!false) = false → B) := ⟨fun _ => h, (fun z => absurd z (by decide))⟩
theorem rangeD_get0 {n i : Nat} {d : D} (h : (rangeD 0 n)[i]? = some d) : d = I (i : Int) ∧ i < n := by
  obtain ⟨h1, h2⟩ := rangeD_get h
  rw [Int.zero_add] at h1
  exact ⟨h1, h2⟩
theorem p_ixHLs {M : Mem} {E : Exn → Mem → Prop} {Q : D → Mem → Prop} {k n : Nat} {f : Nat → D} {i : Int} (h : M[k]? = some (.lst (Ls n f))) (h0 : 0 ≤ i) (h1 : i < (n : Int)) (q : Q (f i.toNat) M) : P (gIx (.h k) (I i) M) E Q := p_ixH h (atI_Ls h0 h1) q
theorem p_eqIR {M : Mem} {E : Exn → Mem → Prop} {Q : D → Mem → Prop} {i : Int} (q : Q (Bo true) M) : P (gEq (I i) (I i) M) E Q := p_eqI (by rw [decide_eq_true rfl]; exact q)
theorem p_neIR {M : Mem} {E : Exn → Mem → Prop} {Q : D → Mem → Prop} {i : Int} (q : Q (Bo false) M) : P (gNe (I i) (I i) M) E Q := p_neI (by rw [decide_eq_true rfl]; exact q)
theorem p_eqSR {M : Mem} {E : Exn → Mem → Prop} {Q : D → Mem → Prop} {i : Str} (q : Q (Bo true) M) : P (gEq (Tx i) (Tx i) M) E Q := p_eqS (by rw [decide_eq_true rfl]; exact q)
theorem p_neSR {M : Mem} {E : Exn → Mem → Prop} {Q : D → Mem → Prop} {i : Str} (q : Q (Bo false) M) : P (gNe (Tx i) (Tx i) M) E Q := p_neS (by rw [decide_eq_true rfl]; exact q)
theorem p_lenLs {M : Mem} {E : Exn → Mem → Prop} {Q : D → Mem → Prop} {n : Nat} {f : Nat → D} (q : Q (I (n : Int)) M) : P (gLen [.lst (Ls n f)] M) E Q := p_len (n := n) (by simp [lenD, seqOf]) q
theorem p_lenHLs {M : Mem} {E : Exn → Mem → Prop} {Q : D → Mem → Prop} {n k : Nat} {f : Nat → D} (h : M[k]? = some (.lst (Ls n f))) (q : Q (I (n : Int)) M) : P (gLen [.h k] M) E Q := p_lenH h (by rw [Ls_len]; exact q)
theorem truD_bl {M : Mem} {b : Bool} : truD M (.v (.bl b)) = some b := rfl
theorem kit_int_int : kitB "int" "int" = some true := by decide +kernel
theorem kit_int_bool : kitB "int" "bool" = some false := by decide +kernel
theorem kit_int_str : kitB "int" "str" = some false := by decide +kernel
theorem kit_int_list : kitB "int" "list" = some false := by decide +kernel
theorem kit_int_tuple : kitB "int" "tuple" = some false := by decide +kernel
theorem kit_int_dict : kitB "int" "dict" = some false := by decide +kernel
theorem kit_bool_int : kitB "bool" "int" = some true := by decide +kernel
theorem kit_bool_bool : kitB "bool" "bool" = some true := by decide +kernel
theorem kit_bool_str : kitB "bool" "str" = some false := by decide +kernel
theorem kit_bool_list : kitB "bool" "list" = some false := by decide +kernel
theorem kit_bool_tuple : kitB "bool" "tuple" = some false := by decide +kernel
theorem kit_bool_dict : kitB "bool" "dict" = some false := by decide +kernel
theorem kit_str_int : kitB "str" "int" = some false := by decide +kernel
theorem kit_str_bool : kitB "str" "bool" = some false := by decide +kernel
theorem kit_str_str : kitB "str" "str" = some true := by decide +kernel
theorem kit_str_list : kitB "str" "list" = some false := by decide +kernel
theorem kit_str_tuple : kitB "str" "tuple" = some false := by decide +kernel
theorem kit_str_dict : kitB "str" "dict" = some false := by decide +kernel
theorem kit_list_int : kitB "list" "int" = some false := by decide +kernel
theorem kit_list_bool : kitB "list" "bool" = some false := by decide +kernel
theorem kit_list_str : kitB "list" "str" = some false := by decide +kernel
theorem kit_list_list : kitB "list" "list" = some true := by decide +kernel
theorem kit_list_tuple : kitB "list" "tuple" = some false := by decide +kernel
theorem kit_list_dict : kitB "list" "dict" = some false := by decide +kernel
theorem kit_tuple_int : kitB "tuple" "int" = some false := by decide +kernel
theorem kit_tuple_bool : kitB "tuple" "bool" = some false := by decide +kernel
theorem kit_tuple_str : kitB "tuple" "str" = some false := by decide +kernel
theorem kit_tuple_list : kitB "tuple" "list" = some false := by decide +kernel
theorem kit_tuple_tuple : kitB "tuple" "tuple" = some true := by decide +kernel
theorem kit_tuple_dict : kitB "tuple" "dict" = some false := by decide +kernel
theorem kit_dict_int : kitB "dict" "int" = some false := by decide +kernel
theorem kit_dict_bool : kitB "dict" "bool" = some false := by decide +kernel
theorem kit_dict_str : kitB "dict" "str" = some false := by decide +kernel
theorem kit_dict_list : kitB "dict" "list" = some false := by decide +kernel
theorem kit_dict_tuple : kitB "dict" "tuple" = some false := by decide +kernel
theorem kit_dict_dict : kitB "dict" "dict" = some true := by decide +kernel
theorem kit_NoneType_int : kitB "NoneType" "int" = some false := by decide +kernel
theorem kit_NoneType_bool : kitB "NoneType" "bool" = some false := by decide +kernel
theorem kit_NoneType_str : kitB "NoneType" "str" = some false := by decide +kernel
theorem kit_NoneType_list : kitB "NoneType" "list" = some false := by decide +kernel
theorem kit_NoneType_tuple : kitB "NoneType" "tuple" = some false := by decide +kernel
theorem kit_NoneType_dict : kitB "NoneType" "dict" = some false := by decide +kernel
theorem tyN_h {M : Mem} {k : Nat} {ds : List D} (h : M[k]? = some (.lst ds)) : tyN M (.h k) = some "list" := by unfold tyN; simp only [h]
theorem get_new {M : Mem} {c : D} : (M ++ [c])[M.length]? = some c := by simp
theorem set_new {M : Mem} {c d : D} : (M ++ [c]).set M.length d = M ++ [d] := by simp
theorem set_app {M L : Mem} {k : Nat} {d : D} (h : k < M.length) : (M ++ L).set k d = M.set k d ++ L := by rw [List.set_append_left _ _ h]
theorem len_h {M : Mem} {k : Nat} {ds : List D} (h : M[k]? = some (.lst ds)) : lenD M (.h k) = some ds.length := by simp [lenD, h]
theorem set_at {M : Mem} {k : Nat} {c : D} (h : M[k]? = some c) : M = M.set k c := by
  obtain ⟨h1, h2⟩ := List.getElem?_eq_some_iff.mp h
  subst h2
  rw [List.set_getElem_self]
end DL
set_option Elab.async false
set_option maxRecDepth 100000
set_option maxHeartbeats 2000000
namespace DL
open PySem PySem.Spec PyProof.Rows L2

/-! ### super().m(..) -/
/-- what the text says of a def that calls super(): its object, its code, the cell of its class, the class above -/
structure Sup (P : Program) (K : PySem.W.Frag) (f cc C B : Addr) (ar : Str) (cdv : Value) : Prop where
  fn : ∃ oc od fd osl a, K.lookup f = some ⟨oc, od, .func fd, osl⟩ ∧ (fd.params.posonlyargs ++ fd.params.args).head? = some a ∧ a.arg = ar
  code : ∃ cda ccl cdd vs ccs file tf, cdv = .ref cda ∧ K.lookup cda = some ⟨ccl, cdd, .fields vs, ccs⟩ ∧ vs[2]? = some (.str file tf) ∧ ((P.main.file : Str) == file) = true
  top : (P.main.scope.names.lookup ("super" : Str)).isSome = false
  cell : ∃ cl cld csl, K.lookup cc = some ⟨cl, cld, .cell (some (.ref C)), csl⟩
  sub : PySem.W.mroIn K C (.ref C) = some true
  above : ∃ cdC cdB, PySem.W.clsIn K C = some cdC ∧ PySem.W.clsIn K B = some cdB ∧ (cdC.mro.dropWhile (· != .ref C)).drop 1 = cdB.mro
  any : PySem.W.nsIn K cStatics "thirdparty.any" = some none
theorem superIn_of {K : PySem.W.Frag} {C B : Addr} {m : Str} {r : Option (Option Value)} {cdC cdB : ClassData} (h1 : PySem.W.clsIn K C = some cdC) (h2 : PySem.W.clsIn K B = some cdB) (h3 : (cdC.mro.dropWhile (· != .ref C)).drop 1 = cdB.mro) (hf : PySem.W.findIn K (.ref B) m = r) :
    PySem.W.ks_superIn K C C m = r := by
  unfold PySem.W.ks_superIn
  rw [h1, Option.bind_some, h3, ← hf]
  unfold PySem.W.findIn
  unfold PySem.W.clsIn at h2
  split at h2
  · rename_i e
    cases h2
    dsimp only
    rw [e]
  · cases h2
/-- the method of the class above -/
structure SupM (K : PySem.W.Frag) (B : Addr) (m : Str) (g : Addr) : Prop where
  at_ : PySem.W.findIn K (.ref B) m = some (some (.ref g))
  ty : PySem.W.typeIn K (.ref g) = some (.type "function")
  fi : PySem.W.fnIn K g = true
def PEat (X : Cx) (body : List Stmt) (e : Expr) (t : TE) : Prop := ∀ (pins : List (Addr × Obj)) (s : Shared) (σ : L2.St) (H : Hp) (Q : VK), Inv X pins σ H s → t σ H Q → _root_.PySem.wpAt (model X.prog X.w) X.A (.func body X.env) (eval e X.env) (EP X pins σ Q) X.xe s
def PSat (X : Cx) (body : List Stmt) (st : Stmt) (t : TS) : Prop := ∀ (pins : List (Addr × Obj)) (s : Shared) (σ : L2.St) (H : Hp) (D : Ends), Inv X pins σ H s → t D σ H → _root_.PySem.wpAt (model X.prog X.w) X.A (.func body X.env) (exec st X.env) (L2.SP X pins D) X.xe s
def PSsat (X : Cx) (body : List Stmt) (sts : List Stmt) (t : TS) : Prop := ∀ (pins : List (Addr × Obj)) (s : Shared) (σ : L2.St) (H : Hp) (D : Ends), Inv X pins σ H s → t D σ H → _root_.PySem.wpAt (model X.prog X.w) X.A (.func body X.env) (execs sts X.env) (L2.SP X pins D) X.xe s
/-- super().m(..): the instance stands in the slot i -/
def tSup (i : Nat) (C : Addr) (sp : Sp) (E : L2.St → XK) (t : TA) : TE := fun σ H Q => ∃ a dx fs, σ[i]? = some (some (.ref a)) ∧ H a = some (.ins C dx fs) ∧ t σ H fun vs H1 => sp (.ref a :: vs) H1 Q (E σ)
section
variable {X : Cx} {CX : CXT} {k : Nat} {f g cc C B : Addr} {fd : FuncData} {ps : List Str} {sp : Sp} {E : L2.St → XK} {m ar : Str} {pos apos p0 p1 : Pos} {e : Expr} {es : List Expr} {t : TA} {cdv : Value} {pins : List (Addr × Obj)} {σ : L2.St} {H : Hp} {s : Shared} {i : Nat} {body : List Stmt}
theorem super_get {whole : Sem Value} {plb : Sem Bool} {a dx : Addr} {fs : List (Str × V)} (S : Sup X.prog X.K f cc C B ar cdv) (M : SupM X.K B m g) (I : Inv X pins σ H s) (hf : X.env.func = some f) (hc : X.env.code = cdv) (hk : X.env.kindOf "super" = some .globalImplicit) (hkc : X.env.kindOf "__class__" = some .free)
    (hka : X.env.kindOf ar = some .local) (hcl : X.env.cells.lookup ("__class__" : Str) = some cc) (hi : X.N[i]? = some ar) (hs : σ[i]? = some (some (.ref a))) (ha : H a = some (.ins C dx fs)) (hms : X.mg "super" = none)
    (hat : (m == ("__class__" : Str)) = false) {Q : Value → Shared → Prop} {E : Value → Shared → Prop} (h : ∀ so s1, wpAny (model X.prog X.w) X.A (getMethod so m plb) (fun fx s2 => ∃ q, fx = (.ref q, []) ∧ X.base.get? q = none ∧ Inv X ((q, PySem.W.methodObj (.ref g) (.ref a)) :: pins) σ H s2) (fun _ _ => False) s1 → Q so s1) :
    _root_.PySem.wpAt (model X.prog X.w) X.A (.func body X.env) (attributeBase (.Call (.Name "super" p0) [] [] p1) m X.env whole) Q E s := by
  obtain ⟨oc, od, fd0, osl, ar0, lf, hp, rfl⟩ := S.fn
  obtain ⟨cda, ccl, cdd, vs, ccs, file, tf, rfl, lc, hvs, hfile⟩ := S.code
  obtain ⟨cl, cld, csl, lcc⟩ := S.cell
  obtain ⟨cdC, cdB, h1, h2, h3⟩ := S.above
  have X0 := I.kIn
  obtain ⟨oD, hD1, hD2⟩ : ∃ oD, s.heap.get? C = some oD ∧ oD.data = .cls cdC := by
    unfold PySem.W.clsIn at h1
    split at h1
    · rename_i c d cd' sl ho
      cases h1
      exact ⟨_, X0 _ _ ho, rfl⟩
    · cases h1
  obtain ⟨mm, hn, hl⟩ := id I.loc
  obtain ⟨u, ru, lu⟩ := hl i ar0.arg (.ref a) hi hs (.inl hka)
  obtain rfl : u = Value.ref a := ru
  have hm : mm ar0.arg = some (.ref a) := by
    rcases lu with ⟨_, z⟩ | ⟨z, _⟩
    · exact z
    · rw [hka] at z
      rcases z with z | z <;> cases z
  obtain ⟨mA, O, _, _, _, _⟩ := ins_get I.hok ha
  obtain ⟨od', J, _⟩ := O.look
  refine PySem.ks_wpAt_super_base (env := X.env) hk hkc hat hf (X0 _ _ lf) rfl hp hc (X0 _ _ lc) rfl hvs hfile S.top ?_
  obtain ⟨mb, b1, b2⟩ := I.mod.blt
  refine PySem.W.ks_loadName_global I.ok.kind hk (Calls.loadGlobal_builtin (by rw [I.ok.glob]; exact I.mod.glob.keeps I.bk) hms (by rw [I.ok.blt]; exact b1.keeps I.bk) ((b2 _ (by decide +kernel)).trans PyProof.Rows.Boot.«super») ⟨rfl, ?_⟩)
  refine wpAny_loadName_free I.ok.kind hkc hcl ⟨_, X0 _ _ lcc, rfl⟩ ?_
  refine wpAny_loadName_local I.ok.kind hka hn hm ?_
  refine PySem.ks_wpAny_isType_cls hD1 hD2 ⟨rfl, ?_⟩
  obtain ⟨hh, gg, dd, tt, oos⟩ := s
  refine PySem.ks_wpAny_call_super hD1 hD2 J.at_ J.cls (fun c z => ?_) (PySem.W.looks_mroIn X0 S.sub) (fun h' he hkp => ?_)
  · have := J.no
    unfold PySem.W.notCls at this
    rw [z] at this
    exact Bool.noConfusion this
  refine h _ _ ?_
  have I1 : Inv X ((hh.objs.size, PySem.W.ks_superObj C a C) :: pins) σ H { (⟨hh, gg, dd, tt, oos⟩ : Shared) with heap := h', toks := tt } := ClX.pin_new (t' := tt) I hkp (Nat.le_refl _) he (fun v z => nomatch z)
  have X1 := I1.kIn
  have hsup : PySem.W.ks_superIn X.K C C m = some (some (.ref g)) := superIn_of h1 h2 h3 M.at_
  obtain ⟨of, hof, hofc⟩ : ∃ of, h'.get? g = some of ∧ of.cls = .type "function" := by
    have ht' : (X.K.lookup g).map (·.cls) = some (.type "function") := M.ty
    cases z : X.K.lookup g with
    | none => rw [z] at ht'; cases ht'
    | some of => rw [z] at ht'; exact ⟨of, X1 _ _ z, Option.some.inj ht'⟩
  unfold PySem.W.ks_superIn at hsup
  rw [h1] at hsup
  have hJ : PySem.W.InstAt h' a (PySem.W.instObj C dx) C (some od') := ⟨hkp _ _ J.at_, J.cls, J.no, hkp _ _ J.dict⟩
  refine PySem.ks_wpAny_getMethod_super (ClX.pin_at I1) (PySem.W.looks_opaque X1 S.any) (l₀ := cdC.mro) ?_ rfl X1 hsup hof hofc (PySem.W.ks_ne X1 hJ h1) hat ?_
  · exact fun A Q E s k q => wpAny_bind ((PySem.W.looks_clsIn X1 h1) A _ E s k (wpAny_pure q))
  · exact ⟨_, rfl, ClX.base_none I1 (Nat.le_refl _), ClX.pin_new (s := ⟨h', gg, dd, tt, oos⟩) (t' := tt + 1) (ClX.unpin I1) (fun b o z => Heap.get?_push_of_some _ z) (Nat.le_refl _) (Heap.get?_push_size h' rfl) (fun v z => nomatch z)⟩
/-- super().m(e, ..) -/
theorem pe_super {plb : Sem Bool} (S : Sup X.prog X.K f cc C B ar cdv) (M : SupM X.K B m g) (F : FnOk X.prog X.w X.K X.mg X.base CX k g fd ps sp) (room : Room k X.A) (bi : Binds X.K fd ps []) (pass : ∀ σ, PassesAt CX X σ (E σ))
    (hf : X.env.func = some f) (hc : X.env.code = cdv) (hcl : X.env.cells.lookup ("__class__" : Str) = some cc) (hms : X.mg "super" = none) (hi : X.N[i]? = some ar) (has : PA X (e :: es) t)
    (hk : X.env.kindOf "super" = some .globalImplicit := by rfl) (hkc : X.env.kindOf "__class__" = some .free := by rfl) (hka : X.env.kindOf ar = some .local := by rfl)
    (hat : (m == ("__class__" : Str)) = false := by decide)
    (hst : starEach (e :: es) X.env = (false, eval e X.env) :: starEach es X.env := by rfl) (hpl : (backTo pos (starEach es X.env)).any (·.1) = false := by rfl)
    (he : eval (.Call (.Attribute (.Call (.Name "super" p0) [] [] p1) m apos) (e :: es) [] pos) X.env = (do
      let ov ← attributeBase (.Call (.Name "super" p0) [] [] p1) m X.env (eval (.Call (.Name "super" p0) [] [] p1) X.env)
      standAt apos.atName
      let (f, first) ← holding [ov] (getMethod ov m plb)
      callWith pos f first (backTo pos (starEach (e :: es) X.env)) []) := by rfl) :
    PEat X body (.Call (.Attribute (.Call (.Name "super" p0) [] [] p1) m apos) (e :: es) [] pos) (tSup i C sp E t) := fun pins s σ H Q I h => by
  obtain ⟨a, dx, fs, hs, ha, q⟩ := h
  refine ks_wpAt_MethodCall (pl := plb) (super_get (plb := plb) S M I hf hc hk hkc hka hcl hi hs ha hms hat fun so s1 h1 => wpAny_mono h1 (fun fx s2 h2 => ?_) fun _ _ z => z.elim) he
  obtain ⟨qa, rfl, hb, I2⟩ := h2
  refine ClX.callwith_cm I2 hb M.fi (thn (has.run pos _ s2 σ H _ I2 q) fun us s3 ⟨vs, H2, I3, r, q2⟩ => ⟨⟨ClX.pin_at I3, I3.kIn⟩, ?_⟩) hst hpl
  have z : wpAny (model X.prog X.w) X.A (call (.ref qa) us) (EP X ((qa, PySem.W.methodObj (.ref g) (.ref a)) :: pins) σ Q) X.xe s3 := by
    have r2 : Vals (.ref a :: vs) (.ref a :: us) := .cons rfl r
    have hl : (Value.ref a :: us).length = ps.length := by rw [← r2.length]; exact F.len _ _ _ _ q2
    have b := bi s3 (.ref a :: us) I3.kIn (by rw [List.append_nil]; exact hl)
    rw [List.append_nil] at b
    refine wpAny_call (PySem.W.method_call (ClX.pin_at I3) (codeAny_mono (F.run X.A X.stack s3 H2 ⟨.ref a :: us, []⟩ (.ref a :: us) (.ref a :: vs) Q (E σ) room I3.env0 b r2 q2) fun r s' hq => ?_))
    cases r with
    | error e => exact pass σ _ H2 s3 e s' I3 hq
    | ok fl =>
      cases fl with
      | ret u => exact I3.after hq
      | next => exact False.elim hq
      | brk => exact False.elim hq
      | cont => exact False.elim hq
  exact thn z fun _ _ y => ClX.unpinE y
/-- super().m() -/
theorem pe_super0 {plb : Sem Bool} (S : Sup X.prog X.K f cc C B ar cdv) (M : SupM X.K B m g) (F : FnOk X.prog X.w X.K X.mg X.base CX k g fd ps sp) (room : Room k X.A) (bi : Binds X.K fd ps []) (pass : ∀ σ, PassesAt CX X σ (E σ))
    (hf : X.env.func = some f) (hc : X.env.code = cdv) (hcl : X.env.cells.lookup ("__class__" : Str) = some cc) (hms : X.mg "super" = none) (hi : X.N[i]? = some ar)
    (hk : X.env.kindOf "super" = some .globalImplicit := by rfl) (hkc : X.env.kindOf "__class__" = some .free := by rfl) (hka : X.env.kindOf ar = some .local := by rfl)
    (hat : (m == ("__class__" : Str)) = false := by decide)
    (he : eval (.Call (.Attribute (.Call (.Name "super" p0) [] [] p1) m apos) [] [] pos) X.env = (do
      let ov ← attributeBase (.Call (.Name "super" p0) [] [] p1) m X.env (eval (.Call (.Name "super" p0) [] [] p1) X.env)
      standAt apos.atName
      let (f, first) ← holding [ov] (getMethod ov m plb)
      callWith pos f first (backTo pos (starEach [] X.env)) []) := by rfl) :
    PEat X body (.Call (.Attribute (.Call (.Name "super" p0) [] [] p1) m apos) [] [] pos) (tSup i C sp E tNil) := fun pins s σ H Q I h => by
  obtain ⟨a, dx, fs, hs, ha, q⟩ := h
  refine ks_wpAt_MethodCall (pl := plb) (super_get (plb := plb) S M I hf hc hk hkc hka hcl hi hs ha hms hat fun so s1 h1 => wpAny_mono h1 (fun fx s2 h2 => ?_) fun _ _ z => z.elim) he
  obtain ⟨qa, rfl, hb, I2⟩ := h2
  refine PySem.W.callWith_M0 (K := X.K) (g := g) (self := .ref a) ⟨ClX.pin_at I2, I2.kIn⟩ M.fi ?_
  have z : wpAny (model X.prog X.w) X.A (call (.ref qa) []) (EP X ((qa, PySem.W.methodObj (.ref g) (.ref a)) :: pins) σ Q) X.xe s2 := by
    have r2 : Vals [V.ref a] [Value.ref a] := .cons rfl .nil
    have hl : [Value.ref a].length = ps.length := by rw [← r2.length]; exact F.len _ _ _ _ q
    have b := bi s2 [.ref a] I2.kIn (by rw [List.append_nil]; exact hl)
    rw [List.append_nil] at b
    refine wpAny_call (PySem.W.method_call (ClX.pin_at I2) (codeAny_mono (F.run X.A X.stack s2 H ⟨[.ref a], []⟩ [.ref a] [.ref a] Q (E σ) room I2.env0 b r2 q) fun r s' hq => ?_))
    cases r with
    | error e => exact pass σ _ H s2 e s' I2 hq
    | ok fl =>
      cases fl with
      | ret u => exact I2.after hq
      | next => exact False.elim hq
      | brk => exact False.elim hq
      | cont => exact False.elim hq
  exact thn z fun _ _ y => ClX.unpinE y
end
section
variable {X : Cx} {body : List Stmt} {pos : Pos} {e : Expr} {te : TE} {st : Stmt} {rest : List Stmt} {t u : TS}
theorem psat_expr (he : PEat X body e te) (hs : swapsWith e none pos.line X.env = pure false := by rfl) : PSat X body (.Expr e pos) (tDrop te) := fun pins s σ H D I h =>
  ks_wpAt_Expr_any (ks_wpAt_mono (he pins s σ H _ I h) (fun v s1 ⟨x, H1, I1, r1, q1⟩ => ⟨σ, H1, I1, q1⟩) fun _ _ z => z) I.quiet hs
theorem psat_set {i : Nat} {x : Str} {pos' : Pos} (hN : X.N.Nodup) (hi : X.N[i]? = some x) (hx : Loc X.env.scope x) (he : PEat X body e te) (hs : swapsWith e (some (.Name x pos')) pos.line X.env = pure false := by rfl) (hf : X.fn x = true ∨ X.env.scope.names.lookup x = some .local := by first | exact .inl rfl | exact .inr rfl | assumption) :
    PSat X body (.Assign [.Name x pos'] e pos) (tAsg te (gName i)) := fun pins s σ H D I h =>
  ks_wpAt_Assign_Name (ks_wpAt_mono (he pins s σ H _ I h) (fun v s1 ⟨y, H1, I1, r1, q1⟩ => store_ok I1 hN hi hx r1 (fun s2 I2 => ⟨_, H1, I2, q1⟩) hf) fun _ _ z => z) hs
theorem psat_cons (h1 : PSat X body st t) (h2 : PSs X rest u) : PSsat X body (st :: rest) (tSeq t u) := fun pins s σ H D I h => by
  refine ks_wpAt_execs_cons (ks_wpAt_mono (h1 pins s σ H { D with nx := u D } I h) (fun f s1 q => ?_) fun _ _ z => z)
  cases f with
  | next =>
    obtain ⟨σ', H', I', q⟩ := q
    exact wpAt_of_wpAny (h2.run pins s1 σ' H' D I' q)
  | ret v => exact q
  | brk => exact q
  | cont => exact q
end
/-! ### a def that calls super() -/
/-- as FnScope, for a def whose only free name is __class__ -/
structure SScope (N P : List Str) (sc : Scope) : Prop where
  kind : sc.kind = .function
  co : sc.isCoroutine = false
  gen : sc.isGenerator = false
  nd : N.Nodup
  pre : N.take P.length = P
  par : ∀ x ∈ P, sc.names.lookup x = some .local
  nocell : ∀ y ∈ sc.names, y.2 ≠ .cell
  free : ∀ y ∈ sc.names, y.2 = .free → y.1 = ("__class__" : Str)
theorem lookup_nd {x : Str} {u : Value} : ∀ {l : List (Str × Value)}, (l.map (·.1)).Nodup → (x, u) ∈ l → l.lookup x = some u
  | [], _, h => by cases h
  | (y, v) :: l, nd, h => by
    rw [List.map_cons, List.nodup_cons] at nd
    rcases List.mem_cons.mp h with e | e
    · cases e
      simp [List.lookup]
    · have hne : x ≠ y := fun z => nd.1 (by rw [← z]; exact List.mem_map_of_mem (f := (·.1)) e)
      have hb : (x == y) = false := by simpa using hne
      rw [List.lookup, hb]
      exact lookup_nd nd.2 e
theorem rlook {P : List Str} {us : List Value} {i : Nat} {x : Str} {u : Value} (nd : P.Nodup) (h1 : P[i]? = some x) (h2 : us[i]? = some u) : (P.zip us).reverse.lookup x = some u := by
  refine lookup_nd ?_ (List.mem_reverse.mpr (List.mem_of_getElem? (i := i) (List.getElem?_zip_eq_some (z := (x, u)) |>.mpr ⟨h1, h2⟩)))
  rw [List.map_reverse]
  refine List.pairwise_reverse.mpr (List.Pairwise.imp (R := (· ≠ ·)) (fun h => Ne.symm h) ?_)
  have : ((P.zip us).map (·.1)).Sublist P := by
    clear h1 h2 nd
    induction P generalizing us with
    | nil => simp
    | cons p P ih =>
      cases us with
      | nil => simp
      | cons v us => simpa using ih (us := us)
  exact nd.sublist this
/-- the context of such a def's body -/
def cxS (CX : CXT) (P : Program) (w : World) (K : PySem.W.Frag) (mg : Str → Option Value) (base : Heap) (N : List Str) (qual : Str) (scope : Scope) (f : Addr) (cd : Value) (cc : Addr) (A : Around) (outer : List PySem.Env) (s : Shared) (H : Hp) (E : XK) : Cx where
  prog := P
  w := w
  K := K
  mg := mg
  base := base
  A := A.deeper (PySem.W.ksEnv qual scope s.heap.objs.size f cd cc)
  N := N
  s_0 := s
  H_0 := H
  env := PySem.W.ksEnv qual scope s.heap.objs.size f cd cc
  outer := outer
  stack := PySem.W.ksEnv qual scope s.heap.objs.size f cd cc :: outer
  ex := []
  calm := true
  fn := fun x => x != ("__class__" : Str)
  pn := []
  xe := fun e s' => wpAny (model P w) (A.deeper (PySem.W.ksEnv qual scope s.heap.objs.size f cd cc)) (leaving (PySem.W.ksEnv qual scope s.heap.objs.size f cd cc) e) (fun _ s'' => CX outer H s E e s'') (fun e' s'' => CX outer H s E e' s'') s'
theorem one_cell {cc c : Addr} {x : Str} (h : List.lookup x [(("__class__" : Str), cc)] = some c) : x = ("__class__" : Str) ∧ c = cc := by
  rw [List.lookup] at h
  cases e : (x == ("__class__" : Str)) with
  | true =>
    rw [e] at h
    exact ⟨by simpa using e, (Option.some.inj h).symm⟩
  | false =>
    rw [e] at h
    cases h
theorem inv_startS {CX : CXT} {P : Program} {w : World} {K : PySem.W.Frag} {mg : Str → Option Value} {base : Heap} {N ps : List Str} {qual : Str} {scope : Scope} {f : Addr} {cd : Value} {cc C : Addr} {A : Around} {outer : List PySem.Env} {s : Shared} {H : Hp} {E : XK} {us : List Value} {vs : List V} {h1 : Heap} {tk : Nat}
    {cl : Value} {cld : Option Addr} {csl : Array (Option Value)} (lcc : K.lookup cc = some ⟨cl, cld, .cell (some (.ref C)), csl⟩)
    (S : SScope N ps scope) (hd : A.handled = none) (e0 : Env0 P w K mg base A outer s H) (hl : vs.length = ps.length) (r : Vals vs us)
    (hns : h1.Ns s.heap.objs.size (fun x => (ps.zip us).reverse.lookup x)) (hk : ∀ b o, s.heap.get? b = some o → h1.get? b = some o) :
    Inv (cxS CX P w K mg base N qual scope f cd cc A outer s H E) [] (L2.start N vs) H { s with heap := h1, toks := tk } := by
  have hpl : ps.length ≤ N.length := by have := congrArg List.length S.pre; rw [List.length_take] at this; omega
  have noA : ∀ b : Addr, b ∉ (cxS CX P w K mg base N qual scope f cd cc A outer s H E).ex := fun b z => absurd (show b ∈ ([] : List Addr) from z) (by simp)
  have bcc := e0.mod.kin _ _ lcc
  refine ⟨⟨e0.mod, S.kind, rfl, rfl, Nat.le_refl _, fun y z c h1 h2 => ?_, fun y hy => ?_, fun y c hf h => ?_, fun _ => hd, Around.frames_deeper e0.frames, .inr ⟨rfl, rfl⟩, fun b z => absurd z (noA b), e0.bs, e0.bsz, fun b _ _ => noA b, fun b z => absurd z (noA b), e0.funs, e0.frf⟩,
    rfl, e0.bare, Un.kept hk, ⟨_, hns, fun i y v h1 h2 h3 => ?_⟩, fun y c h => ?_, e0.hok.fresh (Nat.le_refl _), fun y c h => ?_, fun p hp => absurd (show p ∈ ([] : List (Addr × Obj)) from hp) (by simp), e0.hok.kept hk, ?_⟩
  · exact (one_cell h1).1.trans (one_cell h2).1.symm
  · have hy : scope.names.lookup y = some .cell ∨ scope.names.lookup y = some .free := hy
    rcases hy with hy | hy
    · exact absurd rfl (S.nocell _ (PySem.mem_of_lookup hy))
    · have e := S.free _ (PySem.mem_of_lookup hy) rfl
      have e : y = ("__class__" : Str) := e
      subst e
      exact ⟨cc, rfl⟩
  · have e := (one_cell h).1
    subst e
    have hf : (("__class__" : Str) != ("__class__" : Str)) = true := hf
    rw [bne_self_eq_false] at hf
    cases hf
  · have hi : i < vs.length := by
      unfold L2.start at h2
      by_cases hi : i < vs.length
      · exact hi
      · rw [List.getElem?_append_right (by simpa using hi)] at h2
        rw [List.getElem?_replicate] at h2
        split at h2 <;> cases h2
    have ha : vs[i]? = some v := by
      unfold L2.start at h2
      rw [List.getElem?_append_left (by simpa using hi), List.getElem?_map] at h2
      cases e : vs[i]? with
      | none => rw [e] at h2; cases h2
      | some a => rw [e] at h2; cases h2; rfl
    obtain ⟨u, hu, rv⟩ := r.get ha
    have hp : ps[i]? = some y := by
      rw [← S.pre, List.getElem?_take_of_lt (by omega)]; exact h1
    have ndP : ps.Nodup := by rw [← S.pre]; exact S.nd.sublist (List.take_sublist _ _)
    exact ⟨u, rv, .inl ⟨S.par y (List.mem_of_getElem? hp), rlook ndP hp hu⟩⟩
  · obtain ⟨e1, e2⟩ := one_cell h
    subst e2
    exact ⟨_, _, hk _ _ (e0.bs _ _ bcc).1, rfl⟩
  · obtain ⟨e1, e2⟩ := one_cell h
    subst e2
    exact (e0.bs _ _ bcc).2
  · unfold L2.start
    show _ = N.length
    rw [List.length_append, List.length_map, List.length_replicate]
    omega
theorem fn_super {CX : CXT} {P : Program} {w : World} {K : PySem.W.Frag} {mg : Str → Option Value} {base : Heap} {k : Nat} {f : Addr} {name qual : Str} {params : Arguments} {body : List Stmt} {scope : Scope} {dV kV doc pm cdv ct oc : Value} {an od : Option Addr} {cc C : Addr}
    {osl : Array (Option Value)} {N ps : List Str} {sp : Sp} (lk : K.lookup f = some ⟨oc, od, .func (PySem.W.ksFn name qual params body scope dV kV doc pm an cdv ct cc), osl⟩) (hcd : PySem.W.codeIn K cdv qual = true) (S : SScope N ps scope)
    {cl : Value} {cld : Option Addr} {csl : Array (Option Value)} (lcc : K.lookup cc = some ⟨cl, cld, .cell (some (.ref C)), csl⟩)
    (len : ∀ vs H Q E, sp vs H Q E → vs.length = ps.length)
    (hbody : ∀ (A : Around) (outer : List PySem.Env) (s : Shared) (H : Hp) (vs : List V) (Q : VK) (E : XK), Room k (A.deeper (PySem.W.ksEnv qual scope s.heap.objs.size f cdv cc)) → sp vs H Q E →
      ∃ t, PSsat (cxS CX P w K mg base N qual scope f cdv cc A outer s H E) body body t ∧ t { nx := fun _ H' => Q .non H', rt := Q } (L2.start N vs) H) :
    FnOk P w K mg base CX (k + 1) f (PySem.W.ksFn name qual params body scope dV kV doc pm an cdv ct cc) ps sp := by
  refine ⟨len, fun A outer s H args us vs Q E hr e0 hb r hsp => ?_⟩
  have hl := len _ _ _ _ hsp
  have KX : K.In s.heap := e0.mod.kin.keeps fun b o e => (e0.bs b o e).1
  have lim : s.heap.NoLimit := e0.mod.nolimit.keeps fun b o e => (e0.bs b o e).1
  refine ks_codeAny_call_defAt (binds := ps.zip us) hr.depth (KX _ _ lk) rfl lim (PySem.W.codeRec_of KX hcd) rfl hb S.nocell (fun y hy => S.par _ (List.of_mem_zip (a := y.1) (b := y.2) hy).1) (fun h0 hns hk => ?_) S.co S.gen S.kind
  obtain ⟨t, ht, hq⟩ := hbody A outer s H vs Q E (hr.deeper _) hsp
  have I : Inv (cxS CX P w K mg base N qual scope f cdv cc A outer s H E) [] (L2.start N vs) H { s with heap := h0, toks := s.toks + (ps.zip us).length } := inv_startS lcc S hr.hd e0 hl r hns hk
  refine ks_wpAt_mono (ht [] _ (L2.start N vs) H _ I hq) (fun fl s' hs => ?_) fun e s' hs => hs
  have fin : ∀ {σ' : L2.St} {H' : Hp} {v : V} {u : Value}, Inv (cxS CX P w K mg base N qual scope f cdv cc A outer s H E) [] σ' H' s' → RelV v u → Q v H' → CE outer P w H s Q u s' :=
    fun {σ' H' v u} J rv q => ⟨v, H', J.os, J.bare, J.base, J.hok, rv, q⟩
  cases fl with
  | ret u =>
    obtain ⟨v, σ', H', J, rv, q⟩ := hs
    exact fin J rv q
  | next =>
    obtain ⟨σ', H', J, q⟩ := hs
    exact fin (v := V.non) (u := Value.none) J rfl q
  | brk =>
    obtain ⟨_, _, _, q⟩ := hs
    exact False.elim q
  | cont =>
    obtain ⟨_, _, _, q⟩ := hs
    exact False.elim q

/-! ### in the layer -/
abbrev PDat (X : Cx) (W : WX) (body : List Stmt) (e : Expr) (f : Env → C D) : Prop := PEat X body e (tD X.K W f)
abbrev SDat (X : Cx) (W : WX) (body : List Stmt) (st : Stmt) (f : Cs) : Prop := PSat X body st (tS X.K W f)
abbrev SDsat (X : Cx) (W : WX) (body : List Stmt) (sts : List Stmt) (f : Cs) : Prop := PSsat X body sts (tS X.K W f)
theorem PEat.up {X : Cx} {body : List Stmt} {e : Expr} {t t' : TE} (h : PEat X body e t) (i : ∀ σ H Q, t' σ H Q → t σ H Q) : PEat X body e t' := fun pins s σ H Q I q => h pins s σ H Q I (i σ H Q q)
theorem PSat.up {X : Cx} {body : List Stmt} {e : Stmt} {t t' : TS} (h : PSat X body e t) (i : ∀ D σ H, t' D σ H → t D σ H) : PSat X body e t' := fun pins s σ H D I q => h pins s σ H D I (i D σ H q)
theorem PSsat.up {X : Cx} {body : List Stmt} {e : List Stmt} {t t' : TS} (h : PSsat X body e t) (i : ∀ D σ H, t' D σ H → t D σ H) : PSsat X body e t' := fun pins s σ H D I q => h pins s σ H D I (i D σ H q)
/-- super().m(..) of the class c, the instance in the slot i -/
def eSup (i : Nat) (c : Str) (g : List D → C D) (fs : Env → C (List D)) : Env → C D := fun ρ M => match ρ[i]? with
  | some (some d) => (match insOf M d with
    | some (c', _, _) => if (c == c') = true then ((fs ρ).bind fun xs => g (d :: xs)) M else .stuck
    | none => .stuck)
  | _ => .stuck
section
variable {X : Cx} {W : WX} {body : List Stmt} {pos : Pos} {e : Expr} {fa : Env → C D} {st : Stmt} {rest : List Stmt} {f g : Cs}
theorem sdat_expr (he : PDat X W body e fa) (hs : swapsWith e none pos.line X.env = pure false := by rfl) : SDat X W body (.Expr e pos) (sExpr fa) := (psat_expr he hs).up fun De σ H h => by
  obtain ⟨S, as, M, ρ, st, env, fin⟩ := h
  exact ⟨S, as, M, ρ, st, env, FinS.bindE (g := fun d M => .nx ρ M) fin env fun S1 as1 M1 d v H1 e1 st1 env1 rx fin1 => fin_nx st1 env1 fin1⟩
theorem sdat_set {i : Nat} {x : Str} {pos' : Pos} (hN : X.N.Nodup) (he : PDat X W body e fa) (hi : X.N[i]? = some x := by rfl) (hx : Loc X.env.scope x := by first | exact Or.inl rfl | exact Or.inr rfl) (hs : swapsWith e (some (.Name x pos')) pos.line X.env = pure false := by rfl)
    (hf : X.fn x = true ∨ X.env.scope.names.lookup x = some .local := by first | exact .inl rfl | exact .inr rfl) : SDat X W body (.Assign [.Name x pos'] e pos) (sSet i fa) := (psat_set hN hi hx he hs hf).up fun De σ H h => by
  obtain ⟨S, as, M, ρ, st, env, fin⟩ := h
  exact ⟨S, as, M, ρ, st, env, FinS.bindE (g := fun d M => .nx (ρ.set i (some d)) M) fin env fun S1 as1 M1 d v H1 e1 st1 env1 rx fin1 => fin_nx st1 (env1.set rx) fin1⟩
theorem sdsat_cons (h1 : SDat X W body st f) (h2 : SDs X W rest g) : SDsat X W body (st :: rest) (sSeq f g) := (psat_cons h1 h2).up fun De σ H h => by
  obtain ⟨S, as, M, ρ, st, env, fin⟩ := h
  refine ⟨S, as, M, ρ, st, env, ?_⟩
  unfold sSeq at fin
  cases e : f ρ M with
  | nx ρ1 M1 =>
    simp only [e] at fin
    intro S' as' σ' H' e' st' env'
    exact ⟨S', as', M1, ρ1, st', env', fin.pre e'⟩
  | bk ρ1 M1 => simp only [e] at fin; exact fin
  | ct ρ1 M1 => simp only [e] at fin; exact fin
  | rt d M1 => simp only [e] at fin; exact fin
  | er x ρ1 M1 => simp only [e] at fin; exact fin
  | stuck => simp only [e] at fin; exact fin.elim
end
section
variable {X : Cx} {W : WX} {pos apos p0 p1 : Pos} {e : Expr} {es : List Expr} {fs : Env → C (List D)} {m c ar : Str} {n : Nat} {md : Mode} {N : Nat} {bd : Cs} {body : List Stmt} {k : Nat} {f g cc B : Addr} {fd : FuncData} {ps : List Str} {i : Nat} {cdv : Value}
theorem sup_up {t0 : TA} (hd : ∀ σ H Q, tDs X.K W fs σ H Q → t0 σ H Q) {σ : L2.St} {H : Hp} {Q : VK} (h : tD X.K W (eSup i c (runF md n N bd) fs) σ H Q) :
    tSup i (clsA X.K c) (spOf X.K n (runF md n N bd)) (WE W) t0 σ H Q := by
  obtain ⟨S, as, M, ρ, st, env, fin⟩ := h
  unfold eSup at fin
  cases hi : ρ[i]? with
  | none => simp only [hi] at fin; exact fin.elim
  | some o =>
    cases o with
    | none => simp only [hi] at fin; exact fin.elim
    | some d =>
      simp only [hi] at fin
      obtain ⟨v, hv, rv⟩ := env.2 i d hi
      cases hd' : insOf M d with
      | none => simp only [hd'] at fin; exact fin.elim
      | some q =>
        obtain ⟨c', ns, ds⟩ := q
        simp only [hd'] at fin
        by_cases hc : (c == c') = true
        · rw [if_pos hc] at fin
          have hc := beq_iff_eq.mp hc
          subst hc
          obtain ⟨a, dx, fl, h1, h2, h3, h4⟩ := ins_of st rv hd'
          subst h1
          refine ⟨a, dx, fl, hv, h2, hd _ _ _ ?_⟩
          refine ⟨S, as, M, ρ, st, env, Fin.bind (g := fun xs => runF md n N bd (d :: xs)) fin env fun S2 as2 M2 xs vs H2 e2 st2 env2 rxs fin2 => ?_⟩
          exact fin_callee st2 env2 (Reps.cons (Rep.mono e2.same e2.pre _ _ rv) rxs) fin2
        · rw [if_neg hc] at fin
          exact fin.elim
theorem pdat_super {plb : Sem Bool} (tk : Takes X W) (S : Sup X.prog X.K f cc (clsA X.K c) B ar cdv) (M : SupM X.K B m g) (G : FnOk X.prog X.w X.K X.mg X.base (L2.CX X.prog X.w) k g fd ps (spOf X.K n (runF md n N bd))) (room : Room k X.A) (bi : Binds X.K fd ps [])
    (hf : X.env.func = some f) (hc : X.env.code = cdv) (hcl : X.env.cells.lookup ("__class__" : Str) = some cc) (hms : X.mg "super" = none) (hi : X.N[i]? = some ar) (ha : PDs X W (e :: es) fs)
    (hk : X.env.kindOf "super" = some .globalImplicit := by rfl) (hkc : X.env.kindOf "__class__" = some .free := by rfl) (hka : X.env.kindOf ar = some .local := by rfl)
    (hat : (m == ("__class__" : Str)) = false := by decide)
    (hst : starEach (e :: es) X.env = (false, eval e X.env) :: starEach es X.env := by rfl) (hpl : (backTo pos (starEach es X.env)).any (·.1) = false := by rfl)
    (he : eval (.Call (.Attribute (.Call (.Name "super" p0) [] [] p1) m apos) (e :: es) [] pos) X.env = (do
      let ov ← attributeBase (.Call (.Name "super" p0) [] [] p1) m X.env (eval (.Call (.Name "super" p0) [] [] p1) X.env)
      standAt apos.atName
      let (f, first) ← holding [ov] (getMethod ov m plb)
      callWith pos f first (backTo pos (starEach (e :: es) X.env)) []) := by rfl) :
    PDat X W body (.Call (.Attribute (.Call (.Name "super" p0) [] [] p1) m apos) (e :: es) [] pos) (eSup i c (runF md n N bd) fs) :=
  (pe_super S M G room bi (fun σ => passAt tk σ) hf hc hcl hms hi ha hk hkc hka hat hst hpl he).up fun _ _ _ h => sup_up (fun _ _ _ z => z) h
theorem pdat_super0 {plb : Sem Bool} (tk : Takes X W) (S : Sup X.prog X.K f cc (clsA X.K c) B ar cdv) (M : SupM X.K B m g) (G : FnOk X.prog X.w X.K X.mg X.base (L2.CX X.prog X.w) k g fd ps (spOf X.K n (runF md n N bd))) (room : Room k X.A) (bi : Binds X.K fd ps [])
    (hf : X.env.func = some f) (hc : X.env.code = cdv) (hcl : X.env.cells.lookup ("__class__" : Str) = some cc) (hms : X.mg "super" = none) (hi : X.N[i]? = some ar)
    (hk : X.env.kindOf "super" = some .globalImplicit := by rfl) (hkc : X.env.kindOf "__class__" = some .free := by rfl) (hka : X.env.kindOf ar = some .local := by rfl)
    (hat : (m == ("__class__" : Str)) = false := by decide)
    (he : eval (.Call (.Attribute (.Call (.Name "super" p0) [] [] p1) m apos) [] [] pos) X.env = (do
      let ov ← attributeBase (.Call (.Name "super" p0) [] [] p1) m X.env (eval (.Call (.Name "super" p0) [] [] p1) X.env)
      standAt apos.atName
      let (f, first) ← holding [ov] (getMethod ov m plb)
      callWith pos f first (backTo pos (starEach [] X.env)) []) := by rfl) :
    PDat X W body (.Call (.Attribute (.Call (.Name "super" p0) [] [] p1) m apos) [] [] pos) (eSup i c (runF md n N bd) eNil) :=
  (pe_super0 S M G room bi (fun σ => passAt tk σ) hf hc hcl hms hi hk hkc hka hat he).up fun _ _ _ h => sup_up (fun σ H Q z => by
    obtain ⟨S, as, M, ρ, st, env, fin⟩ := z
    exact fin S as [] H (Ext.refl _ _ _) st rfl) h
end
/-- a def that calls super(), as it stands -/
structure FunS (P : Program) (K : PySem.W.Frag) (x qual : Str) (st : Stmt) (f : Addr) (fd : FuncData) (cc C B : Addr) (ar : Str) : Prop where
  ex : ∃ (oc : Value) (od : Option Addr) (kV doc pm : Value) (an : Option Addr) (cdv ct : Value) (osl : Array (Option Value)),
    fd = PySem.W.ksFn x qual (defArgs st) (defBody st) (defScope st) .none kV doc pm an cdv ct cc ∧ K.lookup f = some ⟨oc, od, .func fd, osl⟩ ∧ PySem.W.codeIn K cdv qual = true ∧ Sup P K f cc C B ar cdv
  kp : PySem.W.keepIn K (.ref f) = true
theorem fn_bodyS {P : Program} {w : World} {K : PySem.W.Frag} {mg : Str → Option Value} {base : Heap} {x qual : Str} {st : Stmt} {f : Addr} {fd : FuncData} {cc C B : Addr} {ar : Str} {N ps : List Str} {k : Nat} (md : Mode) {body : Cs} (F : FunS P K x qual st f fd cc C B ar) (sc : SScope N ps (defScope st))
    (h : ∀ (cdv : Value) (A : Around) (outer : List PySem.Env) (s : Shared) (H : Hp) (E : XK), Sup P K f cc C B ar cdv → Room k (A.deeper (PySem.W.ksEnv qual (defScope st) s.heap.objs.size f cdv cc)) →
      SDsat (cxS (L2.CX P w) P w K mg base N qual (defScope st) f cdv cc A outer s H E) (fun cls d _ H => E cls d H) (defBody st) (defBody st) body) :
    FnOk P w K mg base (L2.CX P w) (k + 1) f fd ps (spOf K ps.length (runF md ps.length N.length body)) := by
  obtain ⟨oc, od, kV, doc, pm, an, cdv, ct, osl, rfl, lk, hcd, su⟩ := F.ex
  obtain ⟨cl, cld, csl, lcc⟩ := su.cell
  refine fn_super lk hcd sc lcc (fun vs H Q E q => ?_) fun A outer s H vs Q E hr q => ⟨_, h cdv A outer s H E su hr, ?_⟩
  · obtain ⟨S, as, M, ds, _, r, hl, _⟩ := q
    rw [← r.length, hl]
  · obtain ⟨S, as, M, ds, st0, r, hl, fin⟩ := q
    have hvl := r.length
    refine ⟨S, as, M, ds.map some ++ List.replicate (N.length - ps.length) none, st0, ?_, ?_⟩
    · unfold L2.start
      rw [← hvl, hl]
      exact reps_env r _
    · unfold runF at fin
      rw [if_pos hl] at fin
      cases eb : body (ds.map some ++ List.replicate (N.length - ps.length) none) M with
      | nx ρ1 M1 =>
        simp only [eb] at fin
        intro S1 as1 σ1 H1 x1 st1 env1
        cases ef : finish md M M1 (.v .non) with
        | ok d' M2 =>
          rw [ef] at fin
          obtain ⟨S2, as2, x2, st2, r2⟩ := finish_ok (d := .v .non) (v := .non) st0 x1 st1 ⟨rfl, rfl⟩ ef
          exact fin S2 as2 .non H1 x2 st2 r2
        | er y M2 =>
          exfalso
          cases md <;> simp [finish, finVal] at ef <;> (try split at ef) <;> cases ef
        | stuck => rw [ef] at fin; exact fin.elim
      | rt d M1 =>
        simp only [eb] at fin
        intro S1 as1 v H1 x1 st1 rv
        cases ef : finish md M M1 d with
        | ok d' M2 =>
          rw [ef] at fin
          obtain ⟨S2, as2, x2, st2, r2⟩ := finish_ok st0 x1 st1 rv ef
          exact fin S2 as2 v H1 x2 st2 r2
        | er y M2 =>
          exfalso
          unfold finish finVal at ef
          cases md <;> cases d <;> simp only at ef <;> (repeat' (split at ef)) <;> cases ef
        | stuck => rw [ef] at fin; exact fin.elim
      | er y ρ1 M1 =>
        simp only [eb] at fin
        intro S1 as1 σ1 H1 dd x1 st1 env1 eo
        exact fin S1 as1 H1 dd x1 st1 eo
      | bk ρ1 M1 => simp only [eb] at fin; exact fin.elim
      | ct ρ1 M1 => simp only [eb] at fin; exact fin.elim
      | stuck => simp only [eb] at fin; exact fin.elim
theorem tk_ofS {P : Program} {w : World} {K : PySem.W.Frag} {mg : Str → Option Value} {base : Heap} {N : List Str} {qual : Str} {sc : Scope} {f cc : Addr} {cdv : Value} {A : Around} {outer : List PySem.Env} {s : Shared} {H : Hp} {E : XK} :
    Takes (cxS (L2.CX P w) P w K mg base N qual sc f cdv cc A outer s H E) (fun cls d _ H => E cls d H) := takes_of rfl rfl rfl rfl
theorem FunS.binds {P : Program} {K : PySem.W.Frag} {x qual : Str} {st : Stmt} {f : Addr} {fd : FuncData} {cc C B : Addr} {ar : Str} {ps : List Str} (F : FunS P K x qual st f fd cc C B ar)
    (h : ∀ (kV doc pm : Value) (an : Option Addr) (cdv ct : Value) (us : List Value), us.length = ps.length → bindArgs (PySem.W.ksFn x qual (defArgs st) (defBody st) (defScope st) .none kV doc pm an cdv ct cc) ⟨us, []⟩ = pure (ps.zip us)) : Binds K fd ps [] := by
  obtain ⟨oc, od, kV, doc, pm, an, cdv, ct, osl, rfl, _, _, _⟩ := F.ex
  exact .all (h kV doc pm an cdv ct)
def sscC (N P : List Str) (sc : Scope) : Bool := decide (sc.kind = .function) && !sc.isCoroutine && !sc.isGenerator && decide N.Nodup && decide (N.take P.length = P) && P.all (fun x => decide (sc.names.lookup x = some .local)) && sc.names.all (fun y => !decide (y.2 = .cell) && (!decide (y.2 = .free) || decide (y.1 = ("__class__" : Str))))
theorem sscope_by {N P : List Str} {sc : Scope} (h : sscC N P sc = true) : SScope N P sc := by
  unfold sscC at h
  simp only [Bool.and_eq_true, Bool.not_eq_true', decide_eq_true_eq, List.all_eq_true, Bool.or_eq_true, decide_eq_false_iff_not] at h
  obtain ⟨⟨⟨⟨⟨⟨h1, h2⟩, h3⟩, h4⟩, h5⟩, h6⟩, h7⟩ := h
  exact ⟨h1, h2, h3, h4, h5, h6, fun y hy => (h7 y hy).1, fun y hy e => (h7 y hy).2.resolve_left (fun z => z e)⟩
theorem funS_mk {P : Program} {K : PySem.W.Frag} {x qual : Str} {st : Stmt} {f cda cc C B : Addr} {oc ccl cl : Value} {od an cdd cld : Option Addr} {osl ccs csl : Array (Option Value)} {kV doc pm ct : Value} {vs : Array Value} {file : Str} {tf : Tok} {cdC cdB : ClassData} {a : Arg}
    (l : K.lookup f = some ⟨oc, od, .func (PySem.W.ksFn x qual (defArgs st) (defBody st) (defScope st) .none kV doc pm an (.ref cda) ct cc), osl⟩) (c : PySem.W.codeIn K (.ref cda) qual = true) (k : PySem.W.keepIn K (.ref f) = true)
    (lc : K.lookup cda = some ⟨ccl, cdd, .fields vs, ccs⟩) (hvs : vs[2]? = some (.str file tf)) (hfile : ((P.main.file : Str) == file) = true) (top : (P.main.scope.names.lookup ("super" : Str)).isSome = false)
    (lcc : K.lookup cc = some ⟨cl, cld, .cell (some (.ref C)), csl⟩) (sub : PySem.W.mroIn K C (.ref C) = some true) (h1 : PySem.W.clsIn K C = some cdC) (h2 : PySem.W.clsIn K B = some cdB) (h3 : (cdC.mro.dropWhile (· != .ref C)).drop 1 = cdB.mro)
    (any : PySem.W.nsIn K cStatics "thirdparty.any" = some none) (hp : ((defArgs st).posonlyargs ++ (defArgs st).args).head? = some a) : FunS P K x qual st f (PySem.W.ksFn x qual (defArgs st) (defBody st) (defScope st) .none kV doc pm an (.ref cda) ct cc) cc C B a.arg :=
  ⟨⟨oc, od, kV, doc, pm, an, .ref cda, ct, osl, rfl, l, c, ⟨⟨oc, od, _, osl, a, l, hp, rfl⟩, ⟨cda, ccl, cdd, vs, ccs, file, tf, rfl, lc, hvs, hfile⟩, top, ⟨cl, cld, csl, lcc⟩, sub, ⟨cdC, cdB, h1, h2, h3⟩, any⟩⟩, k⟩
end DL
set_option Elab.async false
set_option maxRecDepth 100000
namespace DL
open PySem PySem.Spec PyProof.Rows L2
/-! ### wp for classes, texts -/
section
variable {M : Mem} {ρ : Env} {E : Exn → Mem → Prop} {Q : D → Mem → Prop}
theorem p_fld {cs : List Str} {f C : Str} {x d : D} {ns : List Str} {ds : List D} (h : insOf M x = some (C, ns, ds)) (hc : cs.contains C = true) (hf : lookF ns ds f = some d) (q : Q d M) : P (gFld cs f x M) E Q := by
  unfold gFld; simp only [h]; rw [if_pos hc, hf]; exact P.k q
theorem s_put {cs : List Str} {f : Str} {fo fe : Env → C D} {nx : Env → Mem → Prop} {rt : D → Mem → Prop} {bk ct : Env → Mem → Prop} {er : Exn → Env → Mem → Prop}
    (h : P (fe ρ M) (fun x M1 => er x ρ M1) fun d M1 => P (fo ρ M1) (fun x M1 => er x ρ M1) fun o M2 => ∃ M3, putM cs f M2 o d = some M3 ∧ nx ρ M3) : SP (sPut cs f fo fe ρ M) nx rt bk ct er :=
  s_E (h.mono fun d M1 h => s_E (h.mono fun o M2 ⟨M3, e, q⟩ => by rw [e]; exact SP.kn q))
theorem p_put {cs : List Str} {f C : Str} {k : Nat} {d : D} {ns : List Str} {ds : List D} {Q : Mem → Prop} (h : M[k]? = some (.ins C ns ds)) (hc : cs.contains C = true) (hl : ns.length < 1000) (q : Q (M.set k (.ins C (putN ns f) (putD ns ds f d)))) :
    ∃ M3, putM cs f M (.h k) d = some M3 ∧ Q M3 := ⟨_, by unfold putM; simp only [h, hc, Bool.true_and, decide_eq_true_eq]; rw [if_pos hl], q⟩
theorem p_mc {m : Str} {tb : MTab} {fo : Env → C D} {fs : Env → C (List D)} (h : P (fo ρ M) E fun x M1 => ∃ c ns ds F, insOf M1 x = some (c, ns, ds) ∧ ns.contains m = false ∧ mget tb c = some F ∧ P (fs ρ M1) E fun xs M2 => P (F (x :: xs) M2) E Q) : P (eMc m tb fo fs ρ M) E Q :=
  p_bind (h.mono fun x M1 ⟨c, ns, ds, F, h1, h2, h3, h4⟩ => by
    simp only [h1, h3]
    rw [if_neg (by rw [h2]; exact Bool.false_ne_true)]
    exact p_bind h4)
theorem p_make {c : Str} {F : List D → C D} {xs : List D} (h : P (F (.h M.length :: xs) (M ++ [.ins c [] []])) E fun d M1 => d = No ∧ Q (.h M.length) M1) : P (gMake c F xs M) E Q := by
  unfold gMake
  cases e : F (.h M.length :: xs) (M ++ [.ins c [] []]) with
  | ok d M1 => rw [e] at h; obtain ⟨rfl, q⟩ := h.g; exact P.k q
  | er x M1 => rw [e] at h; exact P.e h.ge
  | stuck => rw [e] at h; exact h.gs.elim
theorem p_sup {i : Nat} {c : Str} {g : List D → C D} {fs : Env → C (List D)} {x : D} {ns : List Str} {ds : List D} (h1 : ρ[i]? = some (some x)) (h2 : insOf M x = some (c, ns, ds)) (h : P (fs ρ M) E fun xs M1 => P (g (x :: xs) M1) E Q) : P (eSup i c g fs ρ M) E Q := by
  unfold eSup
  simp only [h1, h2]
  rw [if_pos (by simp)]
  exact p_bind h
theorem p_isO {cs : List Str} {tab : IsTab} {x c : D} {t u : Ty} {b : Bool} (h1 : tyO cs M x = some t) (h2 : tyArg c = some u) (h3 : isO tab t u = some b) (q : Q (Bo b) M) : P (gIsO cs tab [x, c] M) E Q := by
  unfold gIsO; simp only [h1, h2, h3]; exact P.k q
theorem strsOf_map : ∀ ss : List Str, strsOf (ss.map Tx) = some ss
  | [] => rfl
  | s :: ss => by
    have h := strsOf_map ss
    unfold strsOf at h ⊢
    rw [List.map_cons, List.mapM_cons, h]; rfl
theorem p_join {a : Str} {y : D} {ss : List Str} (h : seqOf M y = some (ss.map Tx)) (hl : (ss.map (·.length)).sum + ss.length * a.length ≤ 16777216) (q : Q (Tx (Str.join a ss)) M) : P (gJoin (Tx a) [y] M) E Q := by
  unfold gJoin; simp only [h, strsOf_map]; rw [if_pos hl]; exact P.k q
theorem p_find {a b : Str} (q : Q (I (Txt.find a b)) M) : P (gFind (Tx a) [Tx b] M) E Q := P.k q
theorem p_extend {k : Nat} {ds es : List D} {y : D} (h : M[k]? = some (.lst ds)) (h2 : mlOf M y = some es) (hl : ds.length + es.length ≤ 16777216) (q : Q No (M.set k (.lst (ds ++ es)))) : P (gExtend (.h k) [y] M) E Q := by
  unfold gExtend; simp only [h, h2]; rw [if_pos hl]; exact P.k q
theorem p_tupOfL {ds : List D} (q : Q (.tup ds) M) : P (gTupOf [.lst ds] M) E Q := by unfold gTupOf; exact P.k q
theorem p_strI {i : Int} (h : i.natAbs.log2 < 1920) (q : Q (Tx (toString i)) M) : P (gStr [I i] M) E Q := by unfold gStr; simp only [if_pos h]; exact P.k q
theorem p_strS {s : Str} (q : Q (Tx s) M) : P (gStr [Tx s] M) E Q := P.k q
theorem p_fmtI {i : Int} (h : i.natAbs.log2 < 1920) (q : Q (Tx (toString i)) M) : P (gFmt (I i) M) E Q := by unfold gFmt; simp only [if_pos h]; exact P.k q
theorem p_fmtS {s : Str} (q : Q (Tx s) M) : P (gFmt (Tx s) M) E Q := P.k q
theorem p_fsN {acc : Str} (q : Q (Tx acc) M) : P (eFs [] acc ρ M) E Q := P.k q
theorem p_fsC {f : Env → C D} {fs : List (Env → C D)} {acc : Str} (h : P (f ρ M) E fun x M1 => ∃ y, x = Tx y ∧ acc.length + y.length ≤ 16777216 ∧ P (eFs fs (acc ++ y) ρ M1) E Q) : P (eFs (f :: fs) acc ρ M) E Q := by
  show P (C.bind (f ρ) _ M) E Q
  refine p_bind (h.mono ?_)
  rintro x M1 ⟨y, rfl, hl, q⟩
  show P (if acc.length + y.length ≤ 16777216 then eFs fs (acc ++ y) ρ M1 else .stuck) E Q
  rw [if_pos hl]; exact q
theorem p_fsI {y : Str} {acc : Str} {R : Str → Prop} (h : acc.length + y.length ≤ 16777216) (r : R y) : ∃ z, Tx y = Tx z ∧ acc.length + z.length ≤ 16777216 ∧ R z := ⟨y, rfl, h, r⟩
theorem intsOf_none {s : Str} {ss : List Str} : intsOf ((s :: ss).map Tx) = none := rfl
theorem p_sortedS {ss : List Str} (hl : ss.length < 64) (q : Q (.lst ((sortS ss).map Tx)) M) : P (gSorted mkV [.lst (ss.map Tx)] M) E Q := by
  unfold gSorted
  simp only [lstOf]
  cases ss with
  | nil =>
    have : (sortS []).map Tx = [] := by unfold sortS; simp
    rw [this] at q
    exact P.k q
  | cons s ss =>
    rw [intsOf_none]
    simp only [strsOf_map]
    rw [if_pos hl]; exact P.k q
end
theorem insOf_h {M : Mem} {k : Nat} {C : Str} {ns : List Str} {ds : List D} (h : M[k]? = some (.ins C ns ds)) : insOf M (.h k) = some (C, ns, ds) := by unfold insOf; simp only [h]
theorem tyO_h {cs : List Str} {M : Mem} {k : Nat} {C : Str} {ns : List Str} {ds : List D} (h : M[k]? = some (.ins C ns ds)) (hc : cs.contains C = true) : tyO cs M (.h k) = some (.o C) := by unfold tyO; rw [insOf_h h]; simp only [hc, if_true]
theorem seqOf_h {M : Mem} {k : Nat} {ds : List D} (h : M[k]? = some (.lst ds)) : seqOf M (.h k) = some ds := by simp [seqOf, h]
theorem lstOf_h {M : Mem} {k : Nat} {ds : List D} (h : M[k]? = some (.lst ds)) : lstOf M (.h k) = some ds := by simp [lstOf, h]
theorem mlOf_h {M : Mem} {k : Nat} {ds : List D} (h : M[k]? = some (.lst ds)) : mlOf M (.h k) = some ds := by simp [mlOf, h]
theorem itOf_h {M : Mem} {k : Nat} {ds : List D} (h : M[k]? = some (.lst ds)) : itOf M (.h k) = some ⟨ds, some (k, ds)⟩ := by simp [itOf, h]
theorem resM_h {M : Mem} {k : Nat} {c : D} (h : M[k]? = some c) : resM M (.h k) = c := by simp [resM, h]
theorem sortS_mem {ss : List Str} {s : Str} : s ∈ sortS ss ↔ s ∈ ss := by unfold sortS; exact List.mem_mergeSort
theorem sortS_len {ss : List Str} : (sortS ss).length = ss.length := by unfold sortS; simp
/-- a text of a number -/
theorem len_int {i : Int} (h : i.natAbs < 10 ^ 20) : (Str.ofString (toString i)).length ≤ 21 := by
  cases i with
  | ofNat n =>
    have h' : (n : Nat) < 10 ^ 20 := h
    exact Nat.le_trans (toString_length_le (k := 20) (Int.natCast_nonneg n) (by decide) (by show ((n : Int)) < 10 ^ 20; exact_mod_cast h')) (by decide)
  | negSucc n =>
    have h' : n + 1 < 10 ^ 20 := h
    have e : toString (Int.negSucc n) = "-" ++ toString ((n + 1 : Nat) : Int) := rfl
    have h2 := toString_length_le (v := ((n + 1 : Nat) : Int)) (k := 20) (Int.natCast_nonneg _) (by decide) (by exact_mod_cast h')
    rw [PyProof.Rows.ofString_length] at h2 ⊢
    rw [e, String.toList_append, List.length_append]
    have : ("-" : String).toList.length = 1 := rfl
    omega
theorem log_int {i : Int} (h : i.natAbs < 2 ^ 64) : i.natAbs.log2 < 1920 := by
  by_cases h0 : i.natAbs = 0
  · rw [h0]; decide
  · exact (Nat.log2_lt h0).mpr (Nat.lt_of_lt_of_le h (Nat.pow_le_pow_right (by decide) (by decide)))
theorem app_assoc (a b c : Str) : a ++ b ++ c = a ++ (b ++ c) := Str.append_assoc a b c
theorem join2 (a x y : Str) (r : List Str) : Str.join a (x :: y :: r) = x ++ a ++ Str.join a (y :: r) := rfl
theorem join_len (a : Str) : ∀ ss : List Str, (Str.join a ss).length ≤ (ss.map (·.length)).sum + ss.length * a.length
  | [] => by unfold Str.join; exact Nat.zero_le _
  | [x] => by unfold Str.join; simp
  | x :: y :: r => by
    have ih := join_len a (y :: r)
    rw [join2, len_app, len_app]
    simp only [List.map_cons, List.sum_cons, List.length_cons] at ih ⊢
    have : (r.length + 1 + 1) * a.length = (r.length + 1) * a.length + a.length := Nat.succ_mul _ _
    omega
theorem sum_len {B : Nat} : ∀ {ss : List Str}, (∀ s ∈ ss, s.length ≤ B) → (ss.map (·.length)).sum ≤ B * ss.length := fun {ss} h => by
  have := sumLen_le_of_bound (fun s : Str => s) B ss h
  rw [List.map_id'] at this
  exact this
end DL
set_option Elab.async false
set_option maxRecDepth 100000
set_option maxHeartbeats 4000000
namespace Law
open PySem PySem.Spec PyProof.Rows L2 DL
def topS (i : Nat) : Stmt := PySem.Challenge.pw_hearthdue_k37_papers_lines.main.body.getD i (.Pass ⟨0, 0, 0, 0⟩)
abbrev isCs : List Str := ["OrderPaper", "FreePaper", "UnlikePaper"]
abbrev isTab : IsTab := [(.o "OrderPaper", .o "FreePaper", false), (.o "FreePaper", .o "FreePaper", true), (.o "UnlikePaper", .o "FreePaper", false), (.b "NoneType", .o "FreePaper", false), (.b "bool", .o "FreePaper", false), (.b "int", .o "FreePaper", false), (.b "str", .o "FreePaper", false), (.b "list", .o "FreePaper", false), (.b "tuple", .o "FreePaper", false), (.b "dict", .o "FreePaper", false), (.o "OrderPaper", .o "OrderPaper", true), (.o "FreePaper", .o "OrderPaper", true), (.o "UnlikePaper", .o "OrderPaper", true), (.b "NoneType", .o "OrderPaper", false), (.b "bool", .o "OrderPaper", false), (.b "int", .o "OrderPaper", false), (.b "str", .o "OrderPaper", false), (.b "list", .o "OrderPaper", false), (.b "tuple", .o "OrderPaper", false), (.b "dict", .o "OrderPaper", false), (.o "OrderPaper", .o "UnlikePaper", false), (.o "FreePaper", .o "UnlikePaper", false), (.o "UnlikePaper", .o "UnlikePaper", true), (.b "NoneType", .o "UnlikePaper", false), (.b "bool", .o "UnlikePaper", false), (.b "int", .o "UnlikePaper", false), (.b "str", .o "UnlikePaper", false), (.b "list", .o "UnlikePaper", false), (.b "tuple", .o "UnlikePaper", false), (.b "dict", .o "UnlikePaper", false)]
abbrev s__law_draw : Stmt := topS 13
abbrev N__law_draw : List Str := ["pot", "size", "digit", "mixed"]
theorem sc__law_draw : FnScope N__law_draw ["pot", "size"] (defScope s__law_draw) := ⟨rfl, rfl, rfl, by decide +kernel, rfl, by decide +kernel, by decide +kernel⟩
@[reducible] noncomputable def B__law_draw_1 : Cs := (sSeq (sStore (eVar 0) (eC (.v (.int 0))) (e2 gDiv (eN gInt (eCons (e2 gIx (eVar 0) (eC (.v (.int 0)))) eNil)) (eVar 1))) (sRet (eVar 2)))
@[reducible] noncomputable def B__law_draw_2 : Cs := (sIf (eB (e2 gGt (e2 gIx (eVar 0) (eC (.v (.int 0)))) (eC (.v (.int 0))))) (sSeq (sSet 2 (e2 gMod (eN gInt (eCons (e2 gIx (eVar 0) (eC (.v (.int 0)))) eNil)) (eVar 1))) B__law_draw_1) sPass)
@[reducible] noncomputable def B__law_draw_3 : Cs := (sSeq (sSet 3 (e2 gMod (eN gInt (eCons (e2 gAdd (e2 gMul (eVar 3) (eVar 3)) (e2 gIx (eVar 0) (eC (.v (.int 1))))) eNil)) (eC (.v (.int 998244353))))) (sRet (e2 gMod (eN gInt (eCons (e2 gDiv (eVar 3) (eC (.v (.int 16)))) eNil)) (eVar 1))))
@[reducible] noncomputable def B__law_draw_4 : Cs := (sSeq (sSet 3 (e2 gMod (eN gInt (eCons (e2 gAdd (e2 gMul (eVar 3) (eC (.v (.int 48271)))) (e2 gMul (eC (.v (.int 69621))) (e2 gIx (eVar 0) (eC (.v (.int 2)))))) eNil)) (eC (.v (.int 2147483647))))) B__law_draw_3)
@[reducible] noncomputable def B__law_draw_5 : Cs := (sSeq (sSet 3 (e2 gMod (eN gInt (eCons (e2 gAdd (e2 gAdd (e2 gMul (eVar 3) (eVar 3)) (e2 gMul (eC (.v (.int 31))) (e2 gIx (eVar 0) (eC (.v (.int 1)))))) (e2 gIx (eVar 0) (eC (.v (.int 2))))) eNil)) (eC (.v (.int 998244353))))) B__law_draw_4)
@[reducible] noncomputable def B__law_draw_6 : Cs := (sSeq (sSet 3 (e2 gMod (eN gInt (eCons (e2 gAdd (e2 gIx (eVar 0) (eC (.v (.int 1)))) (e2 gMul (eC (.v (.int 7919))) (e2 gIx (eVar 0) (eC (.v (.int 2)))))) eNil)) (eC (.v (.int 1000003))))) B__law_draw_5)
@[reducible] noncomputable def B__law_draw_7 : Cs := (sSeq (sStore (eVar 0) (eC (.v (.int 2))) (e2 gAdd (e2 gIx (eVar 0) (eC (.v (.int 2)))) (eC (.v (.int 1))))) B__law_draw_6)
@[reducible] noncomputable def B__law_draw : Cs := (sSeq B__law_draw_2 B__law_draw_7)
noncomputable def F__law_draw : List D → C D := runF .frz 2 4 B__law_draw
abbrev s__law_word : Stmt := topS 14
abbrev N__law_word : List Str := ["pot", "size", "letters", "k"]
theorem sc__law_word : FnScope N__law_word ["pot", "size"] (defScope s__law_word) := ⟨rfl, rfl, rfl, by decide +kernel, rfl, by decide +kernel, by decide +kernel⟩
@[reducible] noncomputable def B__law_word : Cs := (sSeq (sSet 2 (eC (.v (.str "abcdefghijklmnopqrstuvwxyz")))) (sRet (eM "str" gJoin (eC (.v (.str ""))) (eCons (eLcG mkV (eRange1 (eCons (eVar 1) eNil)) (.nm 3) bYes (e2 gIx (eVar 2) (eN F__law_draw (eCons (eVar 0) (eCons (eC (.v (.int 26))) eNil)))) [3]) eNil))))
noncomputable def F__law_word : List D → C D := runF .frz 2 4 B__law_word
abbrev s__law_bumped : Stmt := topS 15
abbrev N__law_bumped : List Str := ["word", "names", "letters", "turn"]
theorem sc__law_bumped : FnScope N__law_bumped ["word", "names"] (defScope s__law_bumped) := ⟨rfl, rfl, rfl, by decide +kernel, rfl, by decide +kernel, by decide +kernel⟩
@[reducible] noncomputable def B__law_bumped_1 : Cs := (sIf (eB (e2 gIn (eVar 0) (eVar 1))) (sSet 0 (e2 gAdd (eSl (eVar 0) oNo (oYes (e1 gNeg (eC (.v (.int 1)))))) (e2 gIx (eVar 2) (e2 gMod (eN gInt (eCons (e2 gAdd (eM "str" gFind (eVar 2) (eCons (e2 gIx (eVar 0) (e1 gNeg (eC (.v (.int 1))))) eNil)) (eC (.v (.int 1)))) eNil)) (eC (.v (.int 26))))))) sPass)
@[reducible] noncomputable def B__law_bumped_2 : Cs := B__law_bumped_1
@[reducible] noncomputable def B__law_bumped_3 : Cs := (sFor (eRange1 (eCons (eN gLen (eCons (eVar 1) eNil)) eNil)) (.nm 3) B__law_bumped_2)
@[reducible] noncomputable def B__law_bumped_4 : Cs := (sSeq B__law_bumped_3 (sRet (eVar 0)))
@[reducible] noncomputable def B__law_bumped : Cs := (sSeq (sSet 2 (eC (.v (.str "abcdefghijklmnopqrstuvwxyz")))) B__law_bumped_4)
noncomputable def F__law_bumped : List D → C D := runF .frz 2 4 B__law_bumped
abbrev s__law_names : Stmt := topS 16
abbrev N__law_names : List Str := ["pot", "count", "letters", "style", "names", "k", "base", "first", "stride", "size", "place"]
theorem sc__law_names : FnScope N__law_names ["pot", "count"] (defScope s__law_names) := ⟨rfl, rfl, rfl, by decide +kernel, rfl, by decide +kernel, by decide +kernel⟩
@[reducible] noncomputable def B__law_names_1 : Cs := (sExpr (eM "list" gAppend (eVar 4) (eCons (eN F__law_bumped (eCons (eN F__law_word (eCons (eVar 0) (eCons (e2 gAdd (eC (.v (.int 1))) (eN F__law_draw (eCons (eVar 0) (eCons (eC (.v (.int 8))) eNil)))) eNil))) (eCons (eVar 4) eNil))) eNil)))
@[reducible] noncomputable def B__law_names_2 : Cs := (sFor (eRange1 (eCons (eVar 1) eNil)) (.nm 5) B__law_names_1)
@[reducible] noncomputable def B__law_names_3 : Cs := (sIf (eB (e2 gEq (eVar 3) (eC (.v (.int 3))))) (sSeq B__law_names_2 (sRet (eVar 4))) sPass)
@[reducible] noncomputable def B__law_names_4 : Cs := (sIf (eB (e2 gEq (eVar 3) (eC (.v (.int 2))))) (sExpr (eM "list" gAppend (eVar 4) (eCons (eSl (eVar 6) oNo (oYes (e2 gAdd (eC (.v (.int 1))) (e2 gMod (eN gInt (eCons (e2 gAdd (eVar 7) (e2 gMul (eVar 5) (eVar 8))) eNil)) (eC (.v (.int 8))))))) eNil))) (sExpr (eM "list" gAppend (eVar 4) (eCons (e2 gAdd (e2 gAdd (eSl (eVar 6) oNo (oYes (eVar 10))) (e2 gIx (eVar 2) (e2 gMod (eN gInt (eCons (e2 gAdd (eVar 7) (e2 gMul (eVar 5) (eVar 8))) eNil)) (eC (.v (.int 26)))))) (eSl (eVar 6) (oYes (e2 gAdd (eVar 10) (eC (.v (.int 1))))) (oYes (eVar 9)))) eNil))))
@[reducible] noncomputable def B__law_names_5 : Cs := B__law_names_4
@[reducible] noncomputable def B__law_names_6 : Cs := (sFor (eRange1 (eCons (eVar 1) eNil)) (.nm 5) B__law_names_5)
@[reducible] noncomputable def B__law_names_7 : Cs := (sSeq B__law_names_6 (sRet (eVar 4)))
@[reducible] noncomputable def B__law_names_8 : Cs := (sSeq (sSet 10 (eN F__law_draw (eCons (eVar 0) (eCons (eVar 9) eNil)))) B__law_names_7)
@[reducible] noncomputable def B__law_names_9 : Cs := (sSeq (sSet 9 (e2 gAdd (eC (.v (.int 1))) (eN F__law_draw (eCons (eVar 0) (eCons (eC (.v (.int 8))) eNil))))) B__law_names_8)
@[reducible] noncomputable def B__law_names_10 : Cs := (sSeq (sSet 8 (e2 gAdd (eC (.v (.int 1))) (e2 gMul (eC (.v (.int 2))) (eN F__law_draw (eCons (eVar 0) (eCons (eC (.v (.int 6))) eNil)))))) B__law_names_9)
@[reducible] noncomputable def B__law_names_11 : Cs := (sSeq (sSet 7 (eN F__law_draw (eCons (eVar 0) (eCons (eC (.v (.int 26))) eNil)))) B__law_names_10)
@[reducible] noncomputable def B__law_names_12 : Cs := (sSeq (sSet 6 (eN F__law_word (eCons (eVar 0) (eCons (eC (.v (.int 8))) eNil)))) B__law_names_11)
@[reducible] noncomputable def B__law_names_13 : Cs := (sSeq B__law_names_3 B__law_names_12)
@[reducible] noncomputable def B__law_names_14 : Cs := (sSeq (sSet 4 (eN (gLst mkH) eNil)) B__law_names_13)
@[reducible] noncomputable def B__law_names_15 : Cs := (sSeq (sSet 3 (eN F__law_draw (eCons (eVar 0) (eCons (eC (.v (.int 4))) eNil)))) B__law_names_14)
@[reducible] noncomputable def B__law_names : Cs := (sSeq (sSet 2 (eC (.v (.str "abcdefghijklmnopqrstuvwxyz")))) B__law_names_15)
noncomputable def F__law_names : List D → C D := runF .frz 2 11 B__law_names
abbrev s__law_pot : Stmt := topS 12
abbrev N__law_pot : List Str := ["script", "place", "cell", "seed", "one"]
theorem sc__law_pot : FnScope N__law_pot ["script", "place"] (defScope s__law_pot) := ⟨rfl, rfl, rfl, by decide +kernel, rfl, by decide +kernel, by decide +kernel⟩
@[reducible] noncomputable def B__law_pot_1 : Cs := (sIf (eB (e2 gLt (eVar 1) (eN gLen (eCons (eVar 0) eNil)))) (sSet 2 (eN gInt (eCons (e2 gIx (eVar 0) (eVar 1)) eNil))) sPass)
@[reducible] noncomputable def B__law_pot_2 : Cs := (sSeq (sSet 3 (e2 gMod (eN gInt (eCons (e2 gAdd (e2 gMod (eN gInt (eCons (eVar 2) eNil)) (eC (.v (.int 2147483629)))) (e2 gMul (eC (.v (.int 7919))) (eVar 1))) eNil)) (eC (.v (.int 2147483647))))) (sRet (eN (gLst mkH) (eCons (eIf (eB (e2 gGe (eVar 2) (e2 gPow (eC (.v (.int 10))) (eC (.v (.int 18)))))) (eVar 2) (eC (.v (.int 0)))) (eCons (eVar 3) (eCons (eC (.v (.int 0))) eNil))))))
@[reducible] noncomputable def B__law_pot_3 : Cs := (sSeq B__law_pot_1 B__law_pot_2)
@[reducible] noncomputable def B__law_pot : Cs := (sSeq (sSet 2 (e2 gAdd (e2 gMul (eC (.v (.int 101))) (eN gSum (eCons (eLcG mkV (eIt (eSl (eVar 0) oNo (oYes (eC (.v (.int 63)))))) (.nm 4) bYes (e2 gMod (eN gInt (eCons (eVar 4) eNil)) (eC (.v (.int 1000003)))) [4]) eNil))) (e2 gMul (eC (.v (.int 7))) (eVar 1)))) B__law_pot_3)
noncomputable def F__law_pot : List D → C D := runF .own 2 5 B__law_pot
abbrev s__law_ident : Stmt := topS 19
abbrev N__law_ident : List Str := ["pot", "signs", "k"]
theorem sc__law_ident : FnScope N__law_ident ["pot"] (defScope s__law_ident) := ⟨rfl, rfl, rfl, by decide +kernel, rfl, by decide +kernel, by decide +kernel⟩
@[reducible] noncomputable def B__law_ident : Cs := (sSeq (sSet 1 (eC (.v (.str "abcdefghijklmnopqrstuvwxyz0123456789")))) (sRet (eM "str" gJoin (eC (.v (.str ""))) (eCons (eLcG mkV (eRange1 (eCons (e2 gAdd (eC (.v (.int 1))) (eN F__law_draw (eCons (eVar 0) (eCons (eC (.v (.int 12))) eNil)))) eNil)) (.nm 2) bYes (e2 gIx (eVar 1) (eN F__law_draw (eCons (eVar 0) (eCons (eC (.v (.int 36))) eNil)))) [2]) eNil))))
noncomputable def F__law_ident : List D → C D := runF .frz 1 3 B__law_ident
abbrev s__law_version : Stmt := topS 20
abbrev N__law_version : List Str := ["pot", "kind"]
theorem sc__law_version : FnScope N__law_version ["pot"] (defScope s__law_version) := ⟨rfl, rfl, rfl, by decide +kernel, rfl, by decide +kernel, by decide +kernel⟩
@[reducible] noncomputable def B__law_version_1 : Cs := (sIf (eB (e2 gEq (eVar 1) (eC (.v (.int 3))))) (sRet (e2 gAdd (eC (.v (.int 1))) (eN F__law_draw (eCons (eVar 0) (eCons (e2 gPow (eC (.v (.int 10))) (eC (.v (.int 9)))) eNil))))) sPass)
@[reducible] noncomputable def B__law_version_2 : Cs := (sSeq B__law_version_1 (sRet (e2 gIx (eN (gLst mkV) (eCons (eC (.v (.int 1))) (eCons (e2 gAdd (eC (.v (.int 1))) (eN F__law_draw (eCons (eVar 0) (eCons (eC (.v (.int 12))) eNil)))) (eCons (e2 gPow (eC (.v (.int 10))) (eC (.v (.int 9)))) eNil)))) (eVar 1))))
@[reducible] noncomputable def B__law_version : Cs := (sSeq (sSet 1 (eN F__law_draw (eCons (eVar 0) (eCons (eC (.v (.int 4))) eNil)))) B__law_version_2)
noncomputable def F__law_version : List D → C D := runF .frz 1 2 B__law_version
abbrev s__law_some : Stmt := topS 21
abbrev N__law_some : List Str := ["pot", "names", "name"]
theorem sc__law_some : FnScope N__law_some ["pot", "names"] (defScope s__law_some) := ⟨rfl, rfl, rfl, by decide +kernel, rfl, by decide +kernel, by decide +kernel⟩
@[reducible] noncomputable def B__law_some_1 : Cs := (sIf (eB (e2 gEq (eN F__law_draw (eCons (eVar 0) (eCons (eC (.v (.int 3))) eNil))) (eC (.v (.int 0))))) (sRet (eN gTup eNil)) sPass)
@[reducible] noncomputable def B__law_some : Cs := (sSeq B__law_some_1 (sRet (eN gTupOf (eCons (eN (gSorted mkV) (eCons (eLcG mkV (eIt (eVar 1)) (.nm 2) (eB (e2 gEq (eN F__law_draw (eCons (eVar 0) (eCons (eC (.v (.int 2))) eNil))) (eC (.v (.int 1))))) (eVar 2) [2]) eNil)) eNil))))
noncomputable def F__law_some : List D → C D := runF .frz 2 3 B__law_some
abbrev s__law_cause : Stmt := topS 22
abbrev N__law_cause : List Str := ["pot", "names"]
theorem sc__law_cause : FnScope N__law_cause ["pot", "names"] (defScope s__law_cause) := ⟨rfl, rfl, rfl, by decide +kernel, rfl, by decide +kernel, by decide +kernel⟩
@[reducible] noncomputable def B__law_cause_1 : Cs := (sIf (eB (e2 gEq (eN F__law_draw (eCons (eVar 0) (eCons (eC (.v (.int 3))) eNil))) (eC (.v (.int 0))))) (sRet (eC (.v (.str "")))) sPass)
@[reducible] noncomputable def B__law_cause : Cs := (sSeq B__law_cause_1 (sRet (e2 gIx (eVar 1) (eN F__law_draw (eCons (eVar 0) (eCons (eN gLen (eCons (eVar 1) eNil)) eNil))))))
noncomputable def F__law_cause : List D → C D := runF .frz 2 2 B__law_cause
abbrev s__law_stretch : Stmt := topS 17
abbrev N__law_stretch : List Str := ["pot", "first"]
theorem sc__law_stretch : FnScope N__law_stretch ["pot"] (defScope s__law_stretch) := ⟨rfl, rfl, rfl, by decide +kernel, rfl, by decide +kernel, by decide +kernel⟩
@[reducible] noncomputable def B__law_stretch : Cs := (sSeq (sSet 1 (eN F__law_draw (eCons (eVar 0) (eCons (eC (.v (.int 720))) eNil)))) (sRet (eN gTup (eCons (eVar 1) (eCons (e2 gAdd (e2 gAdd (eVar 1) (eC (.v (.int 1)))) (eN F__law_draw (eCons (eVar 0) (eCons (e2 gSub (eC (.v (.int 720))) (eVar 1)) eNil)))) eNil)))))
noncomputable def F__law_stretch : List D → C D := runF .frz 1 2 B__law_stretch
abbrev s__law_content : Stmt := topS 18
abbrev N__law_content : List Str := ["pot", "names", "kind", "person", "place", "other", "first", "end"]
theorem sc__law_content : FnScope N__law_content ["pot", "names"] (defScope s__law_content) := ⟨rfl, rfl, rfl, by decide +kernel, rfl, by decide +kernel, by decide +kernel⟩
@[reducible] noncomputable def B__law_content_1 : Cs := (sIf (eB (e2 gEq (eVar 2) (eC (.v (.int 0))))) (sRet (eC (.v .non))) sPass)
@[reducible] noncomputable def B__law_content_2 : Cs := (sIf (eB (e2 gEq (eVar 2) (eC (.v (.int 1))))) (sRet (eN gTup (eCons (eC (.v (.str "born"))) (eCons (eVar 3) (eCons (e2 gSub (eN F__law_draw (eCons (eVar 0) (eCons (eC (.v (.int 36720))) eNil))) (eC (.v (.int 36000)))) eNil))))) sPass)
@[reducible] noncomputable def B__law_content_3 : Cs := (sIf (eB (e2 gEq (eVar 2) (eC (.v (.int 2))))) (sRet (eN gTup (eCons (eC (.v (.str "home"))) (eCons (eVar 3) (eCons (e2 gIx (eVar 1) (eVar 4)) (eCons (eVar 6) (eCons (eVar 7) eNil))))))) sPass)
@[reducible] noncomputable def B__law_content_4 : Cs := (sIf (eB (e2 gEq (eVar 2) (eC (.v (.int 3))))) (sRet (eN gTup (eCons (eC (.v (.str "merge"))) (eCons (e2 gIx (eVar 1) (eVar 4)) (eCons (e2 gIx (eVar 1) (eVar 5)) (eCons (eVar 6) (eCons (eVar 7) eNil))))))) sPass)
@[reducible] noncomputable def B__law_content_5 : Cs := (sIf (eB (e2 gEq (eVar 2) (eC (.v (.int 4))))) (sRet (eN gTup (eCons (eC (.v (.str "earns"))) (eCons (eVar 3) (eCons (e2 gAdd (eC (.v (.int 1))) (eN F__law_draw (eCons (eVar 0) (eCons (e2 gPow (eC (.v (.int 10))) (eC (.v (.int 9)))) eNil)))) (eCons (eVar 6) (eCons (eVar 7) eNil))))))) sPass)
@[reducible] noncomputable def B__law_content_6 : Cs := (sIf (eB (e2 gEq (eVar 2) (eC (.v (.int 5))))) (sRet (eN gTup (eCons (eC (.v (.str "mark"))) (eCons (eVar 3) (eCons (e2 gIx (eVar 1) (eVar 4)) (eCons (eVar 6) (eCons (eVar 7) eNil))))))) sPass)
@[reducible] noncomputable def B__law_content_7 : Cs := (sIf (eB (e2 gEq (eVar 2) (eC (.v (.int 6))))) (sRet (eN gTup (eCons (eC (.v (.str "claim"))) (eCons (eVar 3) (eCons (e2 gIx (eVar 1) (eVar 4)) (eCons (eVar 6) eNil)))))) sPass)
@[reducible] noncomputable def B__law_content_8 : Cs := (sSeq B__law_content_7 (sRet (eN gTup (eCons (eC (.v (.str "ruling"))) (eCons (eVar 3) (eCons (e2 gIx (eVar 1) (eVar 4)) (eCons (eN F__law_draw (eCons (eVar 0) (eCons (e2 gAdd (e2 gPow (eC (.v (.int 10))) (eC (.v (.int 9)))) (eC (.v (.int 1)))) eNil))) (eCons (eVar 6) (eCons (eVar 7) eNil)))))))))
@[reducible] noncomputable def B__law_content_9 : Cs := (sSeq B__law_content_6 B__law_content_8)
@[reducible] noncomputable def B__law_content_10 : Cs := (sSeq B__law_content_5 B__law_content_9)
@[reducible] noncomputable def B__law_content_11 : Cs := (sSeq B__law_content_4 B__law_content_10)
@[reducible] noncomputable def B__law_content_12 : Cs := (sSeq B__law_content_3 B__law_content_11)
@[reducible] noncomputable def B__law_content_13 : Cs := (sSeq B__law_content_2 B__law_content_12)
@[reducible] noncomputable def B__law_content_14 : Cs := (sSeq B__law_content_1 B__law_content_13)
@[reducible] noncomputable def B__law_content_15 : Cs := (sSeq (sAsg (.tp [(.nm 6), (.nm 7)]) (eN F__law_stretch (eCons (eVar 0) eNil))) B__law_content_14)
@[reducible] noncomputable def B__law_content_16 : Cs := (sSeq (sSet 5 (e2 gMod (eN gInt (eCons (e2 gAdd (e2 gAdd (eVar 4) (eC (.v (.int 1)))) (eN F__law_draw (eCons (eVar 0) (eCons (e2 gSub (eN gLen (eCons (eVar 1) eNil)) (eC (.v (.int 1)))) eNil)))) eNil)) (eN gLen (eCons (eVar 1) eNil)))) B__law_content_15)
@[reducible] noncomputable def B__law_content_17 : Cs := (sSeq (sSet 4 (eN F__law_draw (eCons (eVar 0) (eCons (eN gLen (eCons (eVar 1) eNil)) eNil)))) B__law_content_16)
@[reducible] noncomputable def B__law_content_18 : Cs := (sSeq (sSet 3 (e2 gIx (eVar 1) (eN F__law_draw (eCons (eVar 0) (eCons (eN gLen (eCons (eVar 1) eNil)) eNil))))) B__law_content_17)
@[reducible] noncomputable def B__law_content : Cs := (sSeq (sSet 2 (eN F__law_draw (eCons (eVar 0) (eCons (eC (.v (.int 8))) eNil)))) B__law_content_18)
noncomputable def F__law_content : List D → C D := runF .frz 2 8 B__law_content
abbrev s__law_note : Stmt := topS 23
abbrev N__law_note : List Str := ["pot", "names", "ident", "version", "persons", "cause"]
theorem sc__law_note : FnScope N__law_note ["pot", "names"] (defScope s__law_note) := ⟨rfl, rfl, rfl, by decide +kernel, rfl, by decide +kernel, by decide +kernel⟩
@[reducible] noncomputable def B__law_note_1 : Cs := (sSeq (sSet 5 (eN F__law_cause (eCons (eVar 0) (eCons (eVar 1) eNil)))) (sRet (eN gTup (eCons (eVar 2) (eCons (eVar 3) (eCons (eVar 4) (eCons (eVar 5) (eCons (eN F__law_content (eCons (eVar 0) (eCons (eVar 1) eNil))) eNil))))))))
@[reducible] noncomputable def B__law_note_2 : Cs := (sSeq (sSet 4 (eN F__law_some (eCons (eVar 0) (eCons (eVar 1) eNil)))) B__law_note_1)
@[reducible] noncomputable def B__law_note_3 : Cs := (sSeq (sSet 3 (eN F__law_version (eCons (eVar 0) eNil))) B__law_note_2)
@[reducible] noncomputable def B__law_note : Cs := (sSeq (sSet 2 (eN F__law_ident (eCons (eVar 0) eNil))) B__law_note_3)
noncomputable def F__law_note : List D → C D := runF .frz 2 6 B__law_note
abbrev s__law_entry : Stmt := topS 26
abbrev N__law_entry : List Str := ["pot", "names"]
theorem sc__law_entry : FnScope N__law_entry ["pot", "names"] (defScope s__law_entry) := ⟨rfl, rfl, rfl, by decide +kernel, rfl, by decide +kernel, by decide +kernel⟩
@[reducible] noncomputable def B__law_entry_1 : Cs := (sIf (eB (e2 gEq (eN F__law_draw (eCons (eVar 0) (eCons (eC (.v (.int 3))) eNil))) (eC (.v (.int 0))))) (sRet (eN gTup (eCons (eC (.v (.str "run"))) (eCons (eN F__law_draw (eCons (eVar 0) (eCons (eC (.v (.int 721))) eNil))) eNil)))) sPass)
@[reducible] noncomputable def B__law_entry : Cs := (sSeq B__law_entry_1 (sRet (eN gTup (eCons (eC (.v (.str "learn"))) (eCons (eN F__law_note (eCons (eVar 0) (eCons (eVar 1) eNil))) eNil)))))
noncomputable def F__law_entry : List D → C D := runF .frz 2 2 B__law_entry
abbrev s__law_journal : Stmt := topS 27
abbrev N__law_journal : List Str := ["pot", "names", "most", "k"]
theorem sc__law_journal : FnScope N__law_journal ["pot", "names"] (defScope s__law_journal) := ⟨rfl, rfl, rfl, by decide +kernel, rfl, by decide +kernel, by decide +kernel⟩
@[reducible] noncomputable def B__law_journal_1 : Cs := (sIf (eB (e2 gEq (eN F__law_draw (eCons (eVar 0) (eCons (eC (.v (.int 8))) eNil))) (eC (.v (.int 0))))) (sSet 2 (eC (.v (.int 41)))) sPass)
@[reducible] noncomputable def B__law_journal_2 : Cs := (sSeq B__law_journal_1 (sRet (eLcG mkV (eRange1 (eCons (eN F__law_draw (eCons (eVar 0) (eCons (eVar 2) eNil))) eNil)) (.nm 3) bYes (eN F__law_entry (eCons (eVar 0) (eCons (eVar 1) eNil))) [3])))
@[reducible] noncomputable def B__law_journal : Cs := (sSeq (sSet 2 (eC (.v (.int 8)))) B__law_journal_2)
noncomputable def F__law_journal : List D → C D := runF .frz 2 4 B__law_journal
abbrev s_OrderPaper___init__ : Stmt := inClass (topS 7) 0
abbrev N_OrderPaper___init__ : List Str := ["self", "over"]
theorem sc_OrderPaper___init__ : FnScope N_OrderPaper___init__ ["self", "over"] (defScope s_OrderPaper___init__) := ⟨rfl, rfl, rfl, by decide +kernel, rfl, by decide +kernel, by decide +kernel⟩
@[reducible] noncomputable def B_OrderPaper___init__ : Cs := (sPut ["OrderPaper", "FreePaper", "UnlikePaper"] "over" (eVar 0) (eVar 1))
noncomputable def F_OrderPaper___init__ : List D → C D := runF .frz 2 2 B_OrderPaper___init__
abbrev s_FreePaper___init__ : Stmt := inClass (topS 8) 0
abbrev N_FreePaper___init__ : List Str := ["self", "over", "statuses"]
theorem sc_FreePaper___init__ : SScope N_FreePaper___init__ ["self", "over", "statuses"] (defScope s_FreePaper___init__) := sscope_by (by decide +kernel)
@[reducible] noncomputable def B_FreePaper___init__ : Cs := (sSeq (sExpr (eSup 0 "FreePaper" F_OrderPaper___init__ (eCons (eVar 1) eNil))) (sPut ["FreePaper"] "statuses" (eVar 0) (eVar 2)))
noncomputable def F_FreePaper___init__ : List D → C D := runF .frz 3 3 B_FreePaper___init__
abbrev s_UnlikePaper___init__ : Stmt := inClass (topS 9) 0
abbrev N_UnlikePaper___init__ : List Str := ["self", "over", "one", "two"]
theorem sc_UnlikePaper___init__ : SScope N_UnlikePaper___init__ ["self", "over", "one", "two"] (defScope s_UnlikePaper___init__) := sscope_by (by decide +kernel)
@[reducible] noncomputable def B_UnlikePaper___init__ : Cs := (sSeq (sExpr (eSup 0 "UnlikePaper" F_OrderPaper___init__ (eCons (eVar 1) eNil))) (sSeq (sPut ["UnlikePaper"] "one" (eVar 0) (eVar 2)) (sPut ["UnlikePaper"] "two" (eVar 0) (eVar 3))))
noncomputable def F_UnlikePaper___init__ : List D → C D := runF .frz 4 4 B_UnlikePaper___init__
abbrev s__law_over : Stmt := topS 25
abbrev N__law_over : List Str := ["pot"]
theorem sc__law_over : FnScope N__law_over ["pot"] (defScope s__law_over) := ⟨rfl, rfl, rfl, by decide +kernel, rfl, by decide +kernel, by decide +kernel⟩
@[reducible] noncomputable def B__law_over : Cs := (sRet (e2 gIx (eN (gLst mkV) (eCons (eC (.v (.str "stretch"))) (eCons (eC (.v (.str "runs"))) eNil))) (eN F__law_draw (eCons (eVar 0) (eCons (eC (.v (.int 2))) eNil)))))
noncomputable def F__law_over : List D → C D := runF .frz 1 1 B__law_over
abbrev s__law_statuses : Stmt := topS 28
abbrev N__law_statuses : List Str := ["pot", "names", "k"]
theorem sc__law_statuses : FnScope N__law_statuses ["pot", "names"] (defScope s__law_statuses) := ⟨rfl, rfl, rfl, by decide +kernel, rfl, by decide +kernel, by decide +kernel⟩
@[reducible] noncomputable def B__law_statuses : Cs := (sRet (eN gTupOf (eCons (eLcG mkV (eRange1 (eCons (eN F__law_draw (eCons (eVar 0) (eCons (eC (.v (.int 9))) eNil))) eNil)) (.nm 2) bYes (e2 gIx (eVar 1) (eN F__law_draw (eCons (eVar 0) (eCons (eN gLen (eCons (eVar 1) eNil)) eNil)))) [2]) eNil)))
noncomputable def F__law_statuses : List D → C D := runF .frz 2 3 B__law_statuses
abbrev s_OrderPaper_lines : Stmt := inClass (topS 7) 1
abbrev N_OrderPaper_lines : List Str := ["self"]
theorem sc_OrderPaper_lines : FnScope N_OrderPaper_lines ["self"] (defScope s_OrderPaper_lines) := ⟨rfl, rfl, rfl, by decide +kernel, rfl, by decide +kernel, by decide +kernel⟩
@[reducible] noncomputable def B_OrderPaper_lines : Cs := (sRet (eN (gLst mkH) (eCons (eFs [(eC (.v (.str "over "))), (e1 gFmt (e1 (gFld ["OrderPaper", "FreePaper", "UnlikePaper"] "over") (eVar 0)))] Str.empty) eNil)))
noncomputable def F_OrderPaper_lines : List D → C D := runF .own 1 1 B_OrderPaper_lines
abbrev s_FreePaper_lines : Stmt := inClass (topS 8) 1
abbrev N_FreePaper_lines : List Str := ["self", "told", "status"]
theorem sc_FreePaper_lines : SScope N_FreePaper_lines ["self"] (defScope s_FreePaper_lines) := sscope_by (by decide +kernel)
@[reducible] noncomputable def B_FreePaper_lines_1 : Cs := (sExpr (eM "list" gAppend (eVar 1) (eCons (eFs [(eC (.v (.str "status "))), (e1 gFmt (eVar 2))] Str.empty) eNil)))
@[reducible] noncomputable def B_FreePaper_lines_2 : Cs := (sFor (eIt (e1 (gFld ["FreePaper"] "statuses") (eVar 0))) (.nm 2) B_FreePaper_lines_1)
@[reducible] noncomputable def B_FreePaper_lines : Cs := (sSeq (sSet 1 (eSup 0 "FreePaper" F_OrderPaper_lines eNil)) (sSeq B_FreePaper_lines_2 (sRet (eVar 1))))
noncomputable def F_FreePaper_lines : List D → C D := runF .own 1 3 B_FreePaper_lines
abbrev s_content_words : Stmt := topS 1
abbrev N_content_words : List Str := ["content", "part"]
theorem sc_content_words : FnScope N_content_words ["content"] (defScope s_content_words) := ⟨rfl, rfl, rfl, by decide +kernel, rfl, by decide +kernel, by decide +kernel⟩
@[reducible] noncomputable def B_content_words : Cs := (sRet (eLcG mkV (eIt (eVar 0)) (.nm 1) bYes (eN gStr (eCons (eVar 1) eNil)) [1]))
noncomputable def F_content_words : List D → C D := runF .frz 1 2 B_content_words
abbrev s_note_line : Stmt := topS 5
abbrev N_note_line : List Str := ["note", "ident", "version", "names", "cause", "content", "words"]
theorem sc_note_line : FnScope N_note_line ["note"] (defScope s_note_line) := ⟨rfl, rfl, rfl, by decide +kernel, rfl, by decide +kernel, by decide +kernel⟩
@[reducible] noncomputable def B_note_line_1 : Cs := (sIf (bIsN (eVar 5)) (sExpr (eM "list" gAppend (eVar 6) (eCons (eC (.v (.str "struck"))) eNil))) (sExpr (eM "list" gExtend (eVar 6) (eCons (eN F_content_words (eCons (eVar 5) eNil)) eNil))))
@[reducible] noncomputable def B_note_line_2 : Cs := (sSeq B_note_line_1 (sRet (eM "str" gJoin (eC (.v (.str " "))) (eCons (eVar 6) eNil))))
@[reducible] noncomputable def B_note_line_3 : Cs := (sSeq (sExpr (eM "list" gAppend (eVar 6) (eCons (eIf (eB (e2 gNe (eVar 4) (eC (.v (.str ""))))) (eVar 4) (eC (.v (.str "-")))) eNil))) B_note_line_2)
@[reducible] noncomputable def B_note_line_4 : Cs := (sSeq (sExpr (eM "list" gAppend (eVar 6) (eCons (eIf (eB (e2 gGt (eN gLen (eCons (eVar 3) eNil)) (eC (.v (.int 0))))) (eM "str" gJoin (eC (.v (.str ","))) (eCons (eVar 3) eNil)) (eC (.v (.str "-")))) eNil))) B_note_line_3)
@[reducible] noncomputable def B_note_line_5 : Cs := (sSeq (sSet 6 (eN (gLst mkH) (eCons (eFs [(e1 gFmt (eVar 1)), (eC (.v (.str "."))), (e1 gFmt (eVar 2))] Str.empty) eNil))) B_note_line_4)
@[reducible] noncomputable def B_note_line : Cs := (sSeq (sAsg (.tp [(.nm 1), (.nm 2), (.nm 3), (.nm 4), (.nm 5)]) (eVar 0)) B_note_line_5)
noncomputable def F_note_line : List D → C D := runF .frz 1 7 B_note_line
abbrev s__entry_lines : Stmt := topS 10
abbrev N__entry_lines : List Str := ["journal", "told", "word", "content"]
theorem sc__entry_lines : FnScope N__entry_lines ["journal"] (defScope s__entry_lines) := ⟨rfl, rfl, rfl, by decide +kernel, rfl, by decide +kernel, by decide +kernel⟩
@[reducible] noncomputable def B__entry_lines_1 : Cs := (sIf (eB (e2 gEq (eVar 2) (eC (.v (.str "learn"))))) (sExpr (eM "list" gAppend (eVar 1) (eCons (eFs [(eC (.v (.str "learn "))), (e1 gFmt (eN F_note_line (eCons (eVar 3) eNil)))] Str.empty) eNil))) (sExpr (eM "list" gAppend (eVar 1) (eCons (eFs [(eC (.v (.str "run "))), (e1 gFmt (eVar 3))] Str.empty) eNil))))
@[reducible] noncomputable def B__entry_lines_2 : Cs := B__entry_lines_1
@[reducible] noncomputable def B__entry_lines_3 : Cs := (sFor (eIt (eVar 0)) (.tp [(.nm 2), (.nm 3)]) B__entry_lines_2)
@[reducible] noncomputable def B__entry_lines_4 : Cs := (sSeq B__entry_lines_3 (sRet (eVar 1)))
@[reducible] noncomputable def B__entry_lines : Cs := (sSeq (sSet 1 (eN (gLst mkH) eNil)) B__entry_lines_4)
noncomputable def F__entry_lines : List D → C D := runF .frz 1 4 B__entry_lines
abbrev s_UnlikePaper_lines : Stmt := inClass (topS 9) 1
abbrev N_UnlikePaper_lines : List Str := ["self", "told"]
theorem sc_UnlikePaper_lines : SScope N_UnlikePaper_lines ["self"] (defScope s_UnlikePaper_lines) := sscope_by (by decide +kernel)
@[reducible] noncomputable def B_UnlikePaper_lines_1 : Cs := (sSeq (sExpr (eM "list" gExtend (eVar 1) (eCons (eN F__entry_lines (eCons (e1 (gFld ["UnlikePaper"] "two") (eVar 0)) eNil)) eNil))) (sRet (eVar 1)))
@[reducible] noncomputable def B_UnlikePaper_lines_2 : Cs := (sSeq (sExpr (eM "list" gAppend (eVar 1) (eCons (eC (.v (.str "two"))) eNil))) B_UnlikePaper_lines_1)
@[reducible] noncomputable def B_UnlikePaper_lines_3 : Cs := (sSeq (sExpr (eM "list" gExtend (eVar 1) (eCons (eN F__entry_lines (eCons (e1 (gFld ["UnlikePaper"] "one") (eVar 0)) eNil)) eNil))) B_UnlikePaper_lines_2)
@[reducible] noncomputable def B_UnlikePaper_lines : Cs := (sSeq (sSet 1 (eSup 0 "UnlikePaper" F_OrderPaper_lines eNil)) (sSeq (sExpr (eM "list" gAppend (eVar 1) (eCons (eC (.v (.str "one"))) eNil))) B_UnlikePaper_lines_3))
noncomputable def F_UnlikePaper_lines : List D → C D := runF .own 1 2 B_UnlikePaper_lines
abbrev s__law_same : Stmt := topS 32
abbrev N__law_same : List Str := ["told", "due", "line"]
theorem sc__law_same : FnScope N__law_same ["told", "due"] (defScope s__law_same) := ⟨rfl, rfl, rfl, by decide +kernel, rfl, by decide +kernel, by decide +kernel⟩
@[reducible] noncomputable def B__law_same_1 : Cs := (sIf (bOr (bNot (eT (eN gIsi (eCons (eVar 0) (eCons (eC (.v (.ty "list"))) eNil))))) (eB (e2 gNe (eN gLen (eCons (eVar 0) eNil)) (eN gLen (eCons (eVar 1) eNil))))) (sRet (eC (.v (.bl false)))) sPass)
@[reducible] noncomputable def B__law_same_2 : Cs := (sIf (bNot (eT (eN gIsi (eCons (eVar 2) (eCons (eC (.v (.ty "str"))) eNil))))) (sRet (eC (.v (.bl false)))) sPass)
@[reducible] noncomputable def B__law_same_3 : Cs := B__law_same_2
@[reducible] noncomputable def B__law_same_4 : Cs := (sFor (eIt (eVar 0)) (.nm 2) B__law_same_3)
@[reducible] noncomputable def B__law_same_5 : Cs := (sSeq B__law_same_4 (sRet (e2 gEq (eVar 0) (eVar 1))))
@[reducible] noncomputable def B__law_same : Cs := (sSeq B__law_same_1 B__law_same_5)
noncomputable def F__law_same : List D → C D := runF .frz 2 3 B__law_same
abbrev s__law_twice : Stmt := topS 33
abbrev N__law_twice : List Str := ["paper", "due", "told"]
theorem sc__law_twice : FnScope N__law_twice ["paper", "due"] (defScope s__law_twice) := ⟨rfl, rfl, rfl, by decide +kernel, rfl, by decide +kernel, by decide +kernel⟩
@[reducible] noncomputable def B__law_twice_1 : Cs := (sIf (bNot (eT (eN F__law_same (eCons (eVar 2) (eCons (eVar 1) eNil))))) (sRet (eC (.v (.bl false)))) sPass)
@[reducible] noncomputable def B__law_twice_2 : Cs := (sSeq (sStore (eVar 2) (eC (.v (.int 0))) (eC (.v (.str "")))) (sRet (eN F__law_same (eCons (eMc "lines" [("OrderPaper", F_OrderPaper_lines), ("FreePaper", F_FreePaper_lines), ("UnlikePaper", F_UnlikePaper_lines)] (eVar 0) eNil) (eCons (eVar 1) eNil)))))
@[reducible] noncomputable def B__law_twice_3 : Cs := (sSeq (sExpr (eM "list" gAppend (eVar 2) (eCons (eC (.v (.str "over"))) eNil))) B__law_twice_2)
@[reducible] noncomputable def B__law_twice_4 : Cs := (sSeq B__law_twice_1 B__law_twice_3)
@[reducible] noncomputable def B__law_twice : Cs := (sSeq (sSet 2 (eMc "lines" [("OrderPaper", F_OrderPaper_lines), ("FreePaper", F_FreePaper_lines), ("UnlikePaper", F_UnlikePaper_lines)] (eVar 0) eNil)) B__law_twice_4)
noncomputable def F__law_twice : List D → C D := runF .frz 2 3 B__law_twice
abbrev s__law_is_over : Stmt := topS 34
abbrev N__law_is_over : List Str := ["paper", "word"]
theorem sc__law_is_over : FnScope N__law_is_over ["paper", "word"] (defScope s__law_is_over) := ⟨rfl, rfl, rfl, by decide +kernel, rfl, by decide +kernel, by decide +kernel⟩
@[reducible] noncomputable def B__law_is_over : Cs := (sRet (eAndV (eN gIsi (eCons (e1 (gFld ["OrderPaper", "FreePaper", "UnlikePaper"] "over") (eVar 0)) (eCons (eC (.v (.ty "str"))) eNil))) (e2 gEq (e1 (gFld ["OrderPaper", "FreePaper", "UnlikePaper"] "over") (eVar 0)) (eVar 1))))
noncomputable def F__law_is_over : List D → C D := runF .frz 2 2 B__law_is_over
abbrev s__law_written : Stmt := topS 29
abbrev N__law_written : List Str := ["note", "persons", "cause", "told", "part"]
theorem sc__law_written : FnScope N__law_written ["note"] (defScope s__law_written) := ⟨rfl, rfl, rfl, by decide +kernel, rfl, by decide +kernel, by decide +kernel⟩
@[reducible] noncomputable def B__law_written_1 : Cs := (sIf (bNotN (e2 gIx (eVar 0) (eC (.v (.int 4))))) (sSet 3 (eM "str" gJoin (eC (.v (.str " "))) (eCons (eLcG mkV (eIt (e2 gIx (eVar 0) (eC (.v (.int 4))))) (.nm 4) bYes (eN gStr (eCons (eVar 4) eNil)) [4]) eNil))) sPass)
@[reducible] noncomputable def B__law_written_2 : Cs := (sSeq B__law_written_1 (sRet (e2 gAdd (e2 gAdd (e2 gAdd (e2 gAdd (e2 gAdd (e2 gAdd (e2 gAdd (e2 gAdd (e2 gIx (eVar 0) (eC (.v (.int 0)))) (eC (.v (.str ".")))) (eN gStr (eCons (e2 gIx (eVar 0) (eC (.v (.int 1)))) eNil))) (eC (.v (.str " ")))) (eVar 1)) (eC (.v (.str " ")))) (eVar 2)) (eC (.v (.str " ")))) (eVar 3))))
@[reducible] noncomputable def B__law_written_3 : Cs := (sSeq (sSet 3 (eC (.v (.str "struck")))) B__law_written_2)
@[reducible] noncomputable def B__law_written_4 : Cs := (sSeq (sSet 2 (eIf (eB (e2 gNe (e2 gIx (eVar 0) (eC (.v (.int 3)))) (eC (.v (.str ""))))) (e2 gIx (eVar 0) (eC (.v (.int 3)))) (eC (.v (.str "-"))))) B__law_written_3)
@[reducible] noncomputable def B__law_written : Cs := (sSeq (sSet 1 (eIf (eB (e2 gGt (eN gLen (eCons (e2 gIx (eVar 0) (eC (.v (.int 2)))) eNil)) (eC (.v (.int 0))))) (eM "str" gJoin (eC (.v (.str ","))) (eCons (eN (gListOf mkV) (eCons (e2 gIx (eVar 0) (eC (.v (.int 2)))) eNil)) eNil)) (eC (.v (.str "-"))))) B__law_written_4)
noncomputable def F__law_written : List D → C D := runF .frz 1 5 B__law_written
abbrev s__law_entries : Stmt := topS 30
abbrev N__law_entries : List Str := ["journal", "told", "word", "value"]
theorem sc__law_entries : FnScope N__law_entries ["journal"] (defScope s__law_entries) := ⟨rfl, rfl, rfl, by decide +kernel, rfl, by decide +kernel, by decide +kernel⟩
@[reducible] noncomputable def B__law_entries_1 : Cs := (sIf (eB (e2 gEq (eVar 2) (eC (.v (.str "run"))))) (sExpr (eM "list" gAppend (eVar 1) (eCons (e2 gAdd (eC (.v (.str "run "))) (eN gStr (eCons (eVar 3) eNil))) eNil))) (sExpr (eM "list" gAppend (eVar 1) (eCons (e2 gAdd (eC (.v (.str "learn "))) (eN F__law_written (eCons (eVar 3) eNil))) eNil))))
@[reducible] noncomputable def B__law_entries_2 : Cs := B__law_entries_1
@[reducible] noncomputable def B__law_entries_3 : Cs := (sFor (eIt (eVar 0)) (.tp [(.nm 2), (.nm 3)]) B__law_entries_2)
@[reducible] noncomputable def B__law_entries_4 : Cs := (sSeq B__law_entries_3 (sRet (eVar 1)))
@[reducible] noncomputable def B__law_entries : Cs := (sSeq (sSet 1 (eN (gLst mkH) eNil)) B__law_entries_4)
noncomputable def F__law_entries : List D → C D := runF .frz 1 4 B__law_entries
abbrev s__law_unlike_lines : Stmt := topS 31
abbrev N__law_unlike_lines : List Str := ["word", "first", "second"]
theorem sc__law_unlike_lines : FnScope N__law_unlike_lines ["word", "first", "second"] (defScope s__law_unlike_lines) := ⟨rfl, rfl, rfl, by decide +kernel, rfl, by decide +kernel, by decide +kernel⟩
@[reducible] noncomputable def B__law_unlike_lines : Cs := (sRet (e2 gAdd (e2 gAdd (e2 gAdd (eN (gLst mkV) (eCons (e2 gAdd (eC (.v (.str "over "))) (eVar 0)) (eCons (eC (.v (.str "one"))) eNil))) (eN F__law_entries (eCons (eVar 1) eNil))) (eN (gLst mkV) (eCons (eC (.v (.str "two"))) eNil))) (eN F__law_entries (eCons (eVar 2) eNil))))
noncomputable def F__law_unlike_lines : List D → C D := runF .frz 3 3 B__law_unlike_lines
abbrev s__law_is_journal : Stmt := topS 35
abbrev N__law_is_journal : List Str := ["told", "journal"]
theorem sc__law_is_journal : FnScope N__law_is_journal ["told", "journal"] (defScope s__law_is_journal) := ⟨rfl, rfl, rfl, by decide +kernel, rfl, by decide +kernel, by decide +kernel⟩
@[reducible] noncomputable def B__law_is_journal : Cs := (sRet (eAndV (eN gIsi (eCons (eVar 0) (eCons (eC (.v (.ty "list"))) eNil))) (e2 gEq (eVar 0) (eVar 1))))
noncomputable def F__law_is_journal : List D → C D := runF .frz 2 2 B__law_is_journal
abbrev s__law_unlike : Stmt := topS 37
abbrev N__law_unlike : List Str := ["paper", "word", "first", "second"]
theorem sc__law_unlike : FnScope N__law_unlike ["paper", "word", "first", "second"] (defScope s__law_unlike) := ⟨rfl, rfl, rfl, by decide +kernel, rfl, by decide +kernel, by decide +kernel⟩
@[reducible] noncomputable def B__law_unlike_1 : Cs := (sIf (bOr (bNot (eT (eN (gIsO isCs isTab) (eCons (eVar 0) (eCons (eC (.cl "OrderPaper")) eNil))))) (eT (eN (gIsO isCs isTab) (eCons (eVar 0) (eCons (eC (.cl "FreePaper")) eNil))))) (sRet (eC (.v (.bl false)))) sPass)
@[reducible] noncomputable def B__law_unlike_2 : Cs := (sIf (bOr (bNot (eT (eN F__law_is_journal (eCons (e1 (gFld ["UnlikePaper"] "one") (eVar 0)) (eCons (eVar 2) eNil))))) (bNot (eT (eN F__law_is_journal (eCons (e1 (gFld ["UnlikePaper"] "two") (eVar 0)) (eCons (eVar 3) eNil)))))) (sRet (eC (.v (.bl false)))) sPass)
@[reducible] noncomputable def B__law_unlike_3 : Cs := (sIf (bNot (eT (eN F__law_is_over (eCons (eVar 0) (eCons (eVar 1) eNil))))) (sRet (eC (.v (.bl false)))) sPass)
@[reducible] noncomputable def B__law_unlike_4 : Cs := (sSeq B__law_unlike_3 (sRet (eN F__law_twice (eCons (eVar 0) (eCons (eN F__law_unlike_lines (eCons (eVar 1) (eCons (eVar 2) (eCons (eVar 3) eNil)))) eNil)))))
@[reducible] noncomputable def B__law_unlike_5 : Cs := (sSeq B__law_unlike_2 B__law_unlike_4)
@[reducible] noncomputable def B__law_unlike : Cs := (sSeq B__law_unlike_1 B__law_unlike_5)
noncomputable def F__law_unlike : List D → C D := runF .frz 4 4 B__law_unlike
abbrev s__law_free : Stmt := topS 36
abbrev N__law_free : List Str := ["paper", "word", "statuses", "name"]
theorem sc__law_free : FnScope N__law_free ["paper", "word", "statuses"] (defScope s__law_free) := ⟨rfl, rfl, rfl, by decide +kernel, rfl, by decide +kernel, by decide +kernel⟩
@[reducible] noncomputable def B__law_free_1 : Cs := (sIf (bOr (bNot (eT (eN (gIsO isCs isTab) (eCons (eVar 0) (eCons (eC (.cl "OrderPaper")) eNil))))) (eT (eN (gIsO isCs isTab) (eCons (eVar 0) (eCons (eC (.cl "UnlikePaper")) eNil))))) (sRet (eC (.v (.bl false)))) sPass)
@[reducible] noncomputable def B__law_free_2 : Cs := (sIf (bOr (bNot (eT (eN gIsi (eCons (e1 (gFld ["FreePaper"] "statuses") (eVar 0)) (eCons (eC (.v (.ty "tuple"))) eNil))))) (bOr (eB (e2 gNe (e1 (gFld ["FreePaper"] "statuses") (eVar 0)) (eVar 2))) (bNot (eT (eN F__law_is_over (eCons (eVar 0) (eCons (eVar 1) eNil))))))) (sRet (eC (.v (.bl false)))) sPass)
@[reducible] noncomputable def B__law_free_3 : Cs := (sSeq B__law_free_2 (sRet (eN F__law_twice (eCons (eVar 0) (eCons (e2 gAdd (eN (gLst mkV) (eCons (e2 gAdd (eC (.v (.str "over "))) (eVar 1)) eNil)) (eLcG mkV (eIt (eVar 2)) (.nm 3) bYes (e2 gAdd (eC (.v (.str "status "))) (eVar 3)) [3])) eNil)))))
@[reducible] noncomputable def B__law_free : Cs := (sSeq B__law_free_1 B__law_free_3)
noncomputable def F__law_free : List D → C D := runF .frz 3 4 B__law_free
abbrev s__law_plain : Stmt := topS 38
abbrev N__law_plain : List Str := ["paper", "word"]
theorem sc__law_plain : FnScope N__law_plain ["paper", "word"] (defScope s__law_plain) := ⟨rfl, rfl, rfl, by decide +kernel, rfl, by decide +kernel, by decide +kernel⟩
@[reducible] noncomputable def B__law_plain_1 : Cs := (sIf (bOr (bNot (eT (eN (gIsO isCs isTab) (eCons (eVar 0) (eCons (eC (.cl "OrderPaper")) eNil))))) (bOr (eT (eN (gIsO isCs isTab) (eCons (eVar 0) (eCons (eC (.cl "FreePaper")) eNil)))) (eT (eN (gIsO isCs isTab) (eCons (eVar 0) (eCons (eC (.cl "UnlikePaper")) eNil)))))) (sRet (eC (.v (.bl false)))) sPass)
@[reducible] noncomputable def B__law_plain : Cs := (sSeq B__law_plain_1 (sRet (eAndV (eN F__law_is_over (eCons (eVar 0) (eCons (eVar 1) eNil))) (eN F__law_twice (eCons (eVar 0) (eCons (eN (gLst mkV) (eCons (e2 gAdd (eC (.v (.str "over "))) (eVar 1)) eNil)) eNil))))))
noncomputable def F__law_plain : List D → C D := runF .frz 2 2 B__law_plain
abbrev s_law : Stmt := topS 39
abbrev N_law : List Str := ["script", "names", "pot", "words", "statuses", "first", "second", "mine", "others", "plain", "free", "unlike", "added"]
theorem sc_law : FnScope N_law ["script"] (defScope s_law) := ⟨rfl, rfl, rfl, by decide +kernel, rfl, by decide +kernel, by decide +kernel⟩
@[reducible] noncomputable def B_law_1 : Cs := (sIf (bOr (bNot (eT (eN F__law_plain (eCons (eVar 9) (eCons (e2 gIx (eVar 3) (eC (.v (.int 0)))) eNil))))) (bNot (eT (eN F__law_free (eCons (eVar 10) (eCons (e2 gIx (eVar 3) (eC (.v (.int 1)))) (eCons (e2 gIx (eVar 4) (eC (.v (.int 0)))) eNil))))))) (sRet (eC (.v (.bl false)))) sPass)
@[reducible] noncomputable def B_law_2 : Cs := (sIf (bNot (eT (eN F__law_unlike (eCons (eVar 11) (eCons (e2 gIx (eVar 3) (eC (.v (.int 2)))) (eCons (eVar 5) (eCons (eVar 6) eNil))))))) (sRet (eC (.v (.bl false)))) sPass)
@[reducible] noncomputable def B_law_3 : Cs := (sIf (bNot (eT (eN F__law_free (eCons (eN (gMake "FreePaper" F_FreePaper___init__) (eCons (e2 gIx (eVar 3) (eC (.v (.int 0)))) (eCons (e2 gIx (eVar 4) (eC (.v (.int 1)))) eNil))) (eCons (e2 gIx (eVar 3) (eC (.v (.int 0)))) (eCons (e2 gIx (eVar 4) (eC (.v (.int 1)))) eNil)))))) (sRet (eC (.v (.bl false)))) sPass)
@[reducible] noncomputable def B_law_4 : Cs := (sIf (bNot (eT (eN F__law_unlike (eCons (eN (gMake "UnlikePaper" F_UnlikePaper___init__) (eCons (e2 gIx (eVar 3) (eC (.v (.int 1)))) (eCons (eN (gListOf mkV) (eCons (eVar 6) eNil)) (eCons (eN (gListOf mkV) (eCons (eVar 5) eNil)) eNil)))) (eCons (e2 gIx (eVar 3) (eC (.v (.int 1)))) (eCons (eVar 6) (eCons (eVar 5) eNil))))))) (sRet (eC (.v (.bl false)))) sPass)
@[reducible] noncomputable def B_law_5 : Cs := (sIf (bNot (eT (eN F__law_unlike (eCons (eVar 11) (eCons (e2 gIx (eVar 3) (eC (.v (.int 2)))) (eCons (e2 gAdd (eVar 5) (eSl (eVar 12) oNo (oYes (eC (.v (.int 1)))))) (eCons (e2 gAdd (eVar 6) (eSl (eVar 12) (oYes (eC (.v (.int 1)))) oNo)) eNil))))))) (sRet (eC (.v (.bl false)))) sPass)
@[reducible] noncomputable def B_law_6 : Cs := (sIf (bOr (eB (e2 gNe (eVar 7) (e2 gAdd (eVar 5) (eSl (eVar 12) oNo (oYes (eC (.v (.int 1)))))))) (eB (e2 gNe (eVar 8) (e2 gAdd (eVar 6) (eSl (eVar 12) (oYes (eC (.v (.int 1)))) oNo))))) (sRet (eC (.v (.bl false)))) sPass)
@[reducible] noncomputable def B_law_7 : Cs := (sSeq B_law_6 (sRet (eAndV (eN F__law_plain (eCons (eVar 9) (eCons (e2 gIx (eVar 3) (eC (.v (.int 0)))) eNil))) (eN F__law_free (eCons (eVar 10) (eCons (e2 gIx (eVar 3) (eC (.v (.int 1)))) (eCons (e2 gIx (eVar 4) (eC (.v (.int 0)))) eNil)))))))
@[reducible] noncomputable def B_law_8 : Cs := (sSeq B_law_5 B_law_7)
@[reducible] noncomputable def B_law_9 : Cs := (sSeq (sExpr (eM "list" gAppend (eVar 8) (eCons (e2 gIx (eVar 12) (eC (.v (.int 1)))) eNil))) B_law_8)
@[reducible] noncomputable def B_law_10 : Cs := (sSeq (sExpr (eM "list" gAppend (eVar 7) (eCons (e2 gIx (eVar 12) (eC (.v (.int 0)))) eNil))) B_law_9)
@[reducible] noncomputable def B_law_11 : Cs := (sSeq (sSet 12 (eN (gLst mkV) (eCons (eN F__law_entry (eCons (eVar 2) (eCons (eVar 1) eNil))) (eCons (eN F__law_entry (eCons (eVar 2) (eCons (eVar 1) eNil))) eNil)))) B_law_10)
@[reducible] noncomputable def B_law_12 : Cs := (sSeq B_law_4 B_law_11)
@[reducible] noncomputable def B_law_13 : Cs := (sSeq B_law_3 B_law_12)
@[reducible] noncomputable def B_law_14 : Cs := (sSeq B_law_2 B_law_13)
@[reducible] noncomputable def B_law_15 : Cs := (sSeq B_law_1 B_law_14)
@[reducible] noncomputable def B_law_16 : Cs := (sSeq (sSet 11 (eN (gMake "UnlikePaper" F_UnlikePaper___init__) (eCons (e2 gIx (eVar 3) (eC (.v (.int 2)))) (eCons (eVar 7) (eCons (eVar 8) eNil))))) B_law_15)
@[reducible] noncomputable def B_law_17 : Cs := (sSeq (sSet 10 (eN (gMake "FreePaper" F_FreePaper___init__) (eCons (e2 gIx (eVar 3) (eC (.v (.int 1)))) (eCons (e2 gIx (eVar 4) (eC (.v (.int 0)))) eNil)))) B_law_16)
@[reducible] noncomputable def B_law_18 : Cs := (sSeq (sSet 9 (eN (gMake "OrderPaper" F_OrderPaper___init__) (eCons (e2 gIx (eVar 3) (eC (.v (.int 0)))) eNil))) B_law_17)
@[reducible] noncomputable def B_law_19 : Cs := (sSeq (sSet 8 (eN (gListOf mkH) (eCons (eVar 6) eNil))) B_law_18)
@[reducible] noncomputable def B_law_20 : Cs := (sSeq (sSet 7 (eN (gListOf mkH) (eCons (eVar 5) eNil))) B_law_19)
@[reducible] noncomputable def B_law_21 : Cs := (sSeq (sSet 6 (eN F__law_journal (eCons (eN F__law_pot (eCons (eVar 0) (eCons (eC (.v (.int 3))) eNil))) (eCons (eVar 1) eNil)))) B_law_20)
@[reducible] noncomputable def B_law_22 : Cs := (sSeq (sSet 5 (eN F__law_journal (eCons (eN F__law_pot (eCons (eVar 0) (eCons (eC (.v (.int 2))) eNil))) (eCons (eVar 1) eNil)))) B_law_21)
@[reducible] noncomputable def B_law_23 : Cs := (sSeq (sSet 4 (eN (gLst mkV) (eCons (eN F__law_statuses (eCons (eVar 2) (eCons (eVar 1) eNil))) (eCons (eN F__law_statuses (eCons (eVar 2) (eCons (eVar 1) eNil))) eNil)))) B_law_22)
@[reducible] noncomputable def B_law_24 : Cs := (sSeq (sSet 3 (eN (gLst mkV) (eCons (eN F__law_over (eCons (eVar 2) eNil)) (eCons (eN F__law_over (eCons (eVar 2) eNil)) (eCons (eN F__law_over (eCons (eVar 2) eNil)) eNil))))) B_law_23)
@[reducible] noncomputable def B_law_25 : Cs := (sSeq (sSet 2 (eN F__law_pot (eCons (eVar 0) (eCons (eC (.v (.int 1))) eNil)))) B_law_24)
@[reducible] noncomputable def B_law : Cs := (sSeq (sSet 1 (eN F__law_names (eCons (eN F__law_pot (eCons (eVar 0) (eCons (eC (.v (.int 0))) eNil))) (eCons (eC (.v (.int 6))) eNil)))) B_law_25)
noncomputable def F_law : List D → C D := runF .frz 1 13 B_law
end Law
namespace Law
open PySem PySem.Spec PyProof.Rows L2 DL
local macro_rules | `(tactic| walk_at "mem") => `(tactic| first
  | assumption
  | rfl
  | (with_reducible exact get_new)
  | ((with_reducible apply get_set); walk_at "mem")
  | ((with_reducible apply get_set_ne); (· first | assumption | omega); walk_at "mem")
  | ((with_reducible apply get_app); walk_at "mem")
  | fail)
local macro_rules | `(tactic| walk_at "go1") => `(tactic| first
  | (with_reducible refine s_seq ?_) | (with_reducible refine s_set ?_) | (with_reducible refine s_ret ?_) | (with_reducible refine s_retN ?_) | (with_reducible refine s_expr ?_) | (with_reducible refine s_if ?_)
  | (with_reducible refine s_asg ?_) | (with_reducible refine s_store ?_) | (with_reducible refine s_pass ?_) | (with_reducible refine s_for ?_) | (with_reducible refine s_break ?_) | (with_reducible refine s_cont ?_)
  | ((with_reducible apply s_aug); (· with_unfolding_all exact rfl))
  | (with_reducible refine p_e2 ?_) | (with_reducible refine p_e1 ?_) | (with_reducible refine p_eN ?_) | (with_reducible refine p_cons ?_) | (with_reducible refine p_nil ?_) | (with_reducible refine p_c ?_)
  | ((with_reducible apply p_var); (· with_unfolding_all exact rfl))
  | ((with_reducible refine p_eM ?_))
  | (with_reducible refine p_eB ?_) | (with_reducible refine p_eT ?_) | (with_reducible refine p_bAnd ?_) | (with_reducible refine p_bOr ?_) | (with_reducible refine p_bNot ?_) | (with_reducible refine p_bIsN ?_) | (with_reducible refine p_bNotN ?_)
  | (with_reducible refine p_eIf ?_) | (with_reducible refine p_eAndV ?_) | (with_reducible refine p_eOrV ?_) | (with_reducible refine p_eNotV ?_) | (with_reducible refine p_chain ?_)
  | (with_reducible refine p_add ?_) | (with_reducible refine p_sub ?_) | ((with_reducible refine p_mod ?_ ?_); (· first | assumption | omega)) | (with_reducible refine p_neg ?_)
  | ((with_reducible refine p_mul ?_ ?_); (· first | assumption | (with_reducible exact pmul_r (by omega) (by omega)) | (with_reducible exact pmul_l (by omega) (by omega))))
  | ((with_reducible refine p_div ?_ ?_); (· first | assumption | (with_reducible exact pdiv_n (by omega) (by omega))))
  | ((with_reducible refine p_pow ?_ ?_); (· unfold CPow; decide); try dsimp only [Int.reduceToNat, Int.reducePow])
  | (dsimp only [Int.reduceToNat, List.set_cons_zero, List.set_cons_succ, List.length_cons, List.length_nil, List.cons_append, List.nil_append, Nat.reduceAdd, Int.toNat_natCast, Int.cast_ofNat_Int, isNon])
  | ((with_reducible refine p_eqR ?_ ?_); (· exact okEq_LsV fun _ => rfl)) | ((with_reducible refine p_neR ?_ ?_); (· exact okEq_LsV fun _ => rfl))
  | (with_reducible refine p_eqIR ?_) | (with_reducible refine p_neIR ?_) | (with_reducible refine p_eqSR ?_) | (with_reducible refine p_neSR ?_)
  | (with_reducible refine p_lt ?_) | (with_reducible refine p_le ?_) | (with_reducible refine p_gt ?_) | (with_reducible refine p_ge ?_)
  | (with_reducible refine p_eqI ?_) | (with_reducible refine p_neI ?_) | (with_reducible refine p_eqS ?_) | (with_reducible refine p_neS ?_) | (with_reducible refine p_isN ?_) | (with_reducible refine p_notN ?_)
  | ((with_reducible apply p_ixHLs); (· walk_at "mem"); (· first | assumption | omega); (· first | assumption | omega))
  | ((with_reducible apply p_ixH); (· walk_at "mem"); (· with_unfolding_all exact rfl))
  | ((with_reducible apply p_isi); (· first | rfl | exact tyN_h ‹_›); (· first | exact kit_int_int | exact kit_int_bool | exact kit_int_str | exact kit_int_list | exact kit_int_tuple | exact kit_int_dict | exact kit_bool_int | exact kit_bool_bool | exact kit_bool_str | exact kit_bool_list | exact kit_bool_tuple | exact kit_bool_dict | exact kit_str_int | exact kit_str_bool | exact kit_str_str | exact kit_str_list | exact kit_str_tuple | exact kit_str_dict | exact kit_list_int | exact kit_list_bool | exact kit_list_str | exact kit_list_list | exact kit_list_tuple | exact kit_list_dict | exact kit_tuple_int | exact kit_tuple_bool | exact kit_tuple_str | exact kit_tuple_list | exact kit_tuple_tuple | exact kit_tuple_dict | exact kit_dict_int | exact kit_dict_bool | exact kit_dict_str | exact kit_dict_list | exact kit_dict_tuple | exact kit_dict_dict | exact kit_NoneType_int | exact kit_NoneType_bool | exact kit_NoneType_str | exact kit_NoneType_list | exact kit_NoneType_tuple | exact kit_NoneType_dict))
  | ((with_reducible refine p_ixLs ?_ ?_ ?_); (· first | assumption | omega); (· first | assumption | omega))
  | ((with_reducible refine p_ixLI ?_ ?_ ?_); (· first | assumption | omega); (· first | assumption | omega))
  | ((with_reducible apply p_ixS); (· with_unfolding_all exact rfl); (· with_unfolding_all exact rfl))
  | (with_reducible refine p_oNo ?_) | (with_reducible refine p_oYes ?_) | (with_reducible refine p_eSl ?_) | (with_reducible refine p_slS ?_)
  | ((with_reducible apply p_lenHLs); (· walk_at "mem"))
  | ((with_reducible apply p_lenH); (· walk_at "mem"))
  | (with_reducible refine p_lenLs ?_)
  | ((with_reducible apply p_len); (· with_unfolding_all exact rfl))
  | ((with_reducible refine p_addS ?_ ?_); (· first | assumption | (simp only [len_app, len_c]; omega)))
  | ((with_reducible apply p_append); (· walk_at "mem"); (· first | assumption | omega | (simp; omega)))
  | ((with_reducible refine p_ty ?_ ?_); (· first | rfl | (simp [tyOk, *]; done)))
  | ((with_reducible apply p_listV); (· rfl)) | ((with_reducible apply p_revLV); (· rfl)) | ((with_reducible apply p_slL); (· rfl))
  | (with_reducible refine p_abs ?_) | (with_reducible refine p_intI ?_) | (with_reducible refine p_intB ?_) | (with_reducible refine p_max2 ?_) | (with_reducible refine p_min2 ?_)
  | ((with_reducible refine p_tup ?_ ?_); (· first | decide | (simp; done)))
  | ((with_reducible refine p_lstV ?_ ?_); (· (simp; done)))
  | ((with_reducible refine p_lstH ?_ ?_); (· (simp; done)))
  | (with_reducible refine p_mkV ?_) | (with_reducible refine p_mkH ?_) | (with_reducible refine p_bYes ?_)
  | (with_reducible refine p_lcG ?_) | (with_reducible refine p_eIt ?_) | (with_reducible refine p_eRange1 ?_) | (with_reducible refine p_eRange2 ?_) | (with_reducible refine p_eEnum ?_)
  | (with_reducible refine s_put ?_) | (with_reducible refine p_mc ?_) | (with_reducible refine p_strS ?_) | (with_reducible refine p_fmtS ?_) | (with_reducible refine p_fsC ?_) | (with_reducible refine p_fsN ?_) | (with_reducible refine p_find ?_) | (with_reducible refine p_tupOfL ?_) | (with_reducible refine p_make ?_)
  | ((with_reducible refine p_strI ?_ ?_); (· exact log_int (by omega))) | ((with_reducible refine p_fmtI ?_ ?_); (· exact log_int (by omega)))
  | ((with_reducible refine Exists.intro _ (And.intro rfl ?_)))
  | ((with_reducible show SP _ _); fail)
  | ((with_reducible apply p_store); (· walk_at "mem"); (· with_unfolding_all exact rfl))
  | (with_reducible refine p_tr ?_) | (with_reducible refine p_tt ?_) | (with_reducible refine p_nt ?_) | (with_reducible refine p_nf ?_) | (with_reducible refine p_ff ?_)
  | (dsimp only [Int.reduceToNat, List.set_cons_zero, List.set_cons_succ, List.length_cons, List.length_nil, List.cons_append, List.nil_append, Nat.reduceAdd, Int.toNat_natCast, Int.cast_ofNat_Int, isNon])
  | (rw [List.set_set])
  | (rw [set_new])
  | (rw [Ls_len])
  | (with_reducible refine ⟨_, truD_bl, ?_⟩))
local macro_rules | `(tactic| walk_at "split") => `(tactic| (first | (with_reducible refine p_dec (fun h => ?_) (fun h => ?_)) | (with_reducible refine p_ndec (fun h => ?_) (fun h => ?_)) | (with_reducible refine beq_true_eq (fun h => ?_) (fun h => ?_)) | fail))
local macro_rules | `(tactic| walk_at "gos") => `(tactic| repeat' (first | walk_at "go1" | walk_at "split" | fail))
local macro_rules | `(tactic| walk_at "def") => `(tactic| ((refine p_runF rfl ?_); simp only [List.map_cons, List.map_nil, List.cons_append, List.nil_append, List.replicate_succ, List.replicate_zero, Nat.reduceSub]))
local macro_rules | `(tactic| walk_at "go") => `(tactic| repeat walk_at "go1")
abbrev Pd (c s t : Int) : D := .lst [I c, I s, I t]
theorem hb_pd {L : Nat} {c s t : Int} : hb L (Pd c s t) = true := by simp [hb, hbs]
theorem fin_v {M : Mem} {k : Nat} {x : V} {c s t : Int} {E : Exn → Mem → Prop} {Q : D → Mem → Prop} (q : Q (.v x) (M.set k (Pd c s t))) : P (finish .frz M (M.set k (Pd c s t)) (.v x)) E Q :=
  p_finV (fun z => by cases z) ((CellsOk.refl M).set hb_pd) (by simp [List.take_set]) q
theorem draw_spec {M : Mem} {k : Nat} {c s t size : Int} {E : Exn → Mem → Prop} {Q : D → Mem → Prop} (hM : M[k]? = some (Pd c s t)) (h0 : 0 < size) (h1 : size ≤ 1073741823)
    (q : ∀ r c' s' t', 0 ≤ r → r < size → Q (I r) (M.set k (Pd c' s' t'))) : P (F__law_draw [.h k, I size] M) E Q := by
  have fin : ∀ (r c' s' t' : Int), 0 ≤ r → r < size → P (finish .frz M (M.set k (Pd c' s' t')) (I r)) E Q := fun r c' s' t' hr0 hr1 => fin_v (q r c' s' t' hr0 hr1)
  unfold F__law_draw
  walk_at "def"
  unfold B__law_draw
  walk_at "gos"
  all_goals exact fin _ _ _ _ (Int.emod_nonneg _ (by omega)) (Int.emod_lt_of_pos _ h0)
local macro_rules | `(tactic| walk_at "draw") => `(tactic| (refine draw_spec (by first | assumption | rfl | exact get_set ‹_› | exact get_app ‹_› | exact get_app (get_set ‹_›)) (by omega) (by omega) ?_; rintro r c s t r0 r1))
theorem pd_self {M : Mem} {k : Nat} {c s t : Int} (h : M[k]? = some (Pd c s t)) : M = M.set k (Pd c s t) := set_at h
theorem join_ones : ∀ cs : List Nat, (Str.join "" (cs.map fun c => (⟨#[c]⟩ : Str))).length = cs.length
  | [] => rfl
  | [c] => rfl
  | c :: d :: r => by
    have ih := join_ones (d :: r)
    rw [List.map_cons, List.map_cons, join2, len_app, len_app]
    rw [List.map_cons] at ih
    rw [ih]
    show 1 + 0 + (r.length + 1) = r.length + 1 + 1
    omega
theorem join_onesP {cs : List Nat} {y : D} {M : Mem} {E : Exn → Mem → Prop} {Q : D → Mem → Prop} (hl : cs.length ≤ 100) (h : y = .lst (cs.map fun c => Tx ⟨#[c]⟩)) (q : ∀ w : Str, w.length = cs.length → Q (Tx w) M) : P (gJoin (Tx "") [y] M) E Q := by
  refine p_join (ss := cs.map fun c => (⟨#[c]⟩ : Str)) (by rw [h, List.map_map]; rfl) ?_ (q _ (join_ones cs))
  have : ((cs.map fun c => (⟨#[c]⟩ : Str)).map (·.length)).sum = cs.length := by
    clear h hl q
    induction cs with
    | nil => rfl
    | cons c r ih => rw [List.map_cons, List.map_cons, List.sum_cons, ih, List.length_cons]; show 1 + r.length = _; omega
  rw [this]
  show cs.length + (cs.map _).length * 0 ≤ _
  omega
theorem alpha_at {r : Int} (h0 : 0 ≤ r) (h1 : r < 26) : ∃ c, atI ("abcdefghijklmnopqrstuvwxyz" : Str).cps.toList r = some c := by
  have h2 : r < ((("abcdefghijklmnopqrstuvwxyz" : Str).cps.toList).length : Int) := by rw [show (("abcdefghijklmnopqrstuvwxyz" : Str).cps.toList).length = 26 from rfl]; omega
  rw [atI_of h0 h2]
  exact ⟨_, List.getElem?_eq_getElem (by omega)⟩
theorem p_alpha {r : Int} {M : Mem} {E : Exn → Mem → Prop} {Q : D → Mem → Prop} (h0 : 0 ≤ r) (h1 : r < 26) (q : ∀ c, Q (Tx ⟨#[c]⟩) M) : P (gIx (Tx "abcdefghijklmnopqrstuvwxyz") (I r) M) E Q := by
  obtain ⟨c, hc⟩ := alpha_at h0 h1
  exact p_ixT hc (q c)
theorem sign_at {r : Int} (h0 : 0 ≤ r) (h1 : r < 36) : ∃ c, atI ("abcdefghijklmnopqrstuvwxyz0123456789" : Str).cps.toList r = some c := by
  have h2 : r < ((("abcdefghijklmnopqrstuvwxyz0123456789" : Str).cps.toList).length : Int) := by rw [show (("abcdefghijklmnopqrstuvwxyz0123456789" : Str).cps.toList).length = 36 from rfl]; omega
  rw [atI_of h0 h2]
  exact ⟨_, List.getElem?_eq_getElem (by omega)⟩
theorem p_sign {r : Int} {M : Mem} {E : Exn → Mem → Prop} {Q : D → Mem → Prop} (h0 : 0 ≤ r) (h1 : r < 36) (q : ∀ c, Q (Tx ⟨#[c]⟩) M) : P (gIx (Tx "abcdefghijklmnopqrstuvwxyz0123456789") (I r) M) E Q := by
  obtain ⟨c, hc⟩ := sign_at h0 h1
  exact p_ixT hc (q c)
theorem chars_app {cs : List Nat} {c : Nat} : (cs.map fun c => Tx ⟨#[c]⟩) ++ [Tx ⟨#[c]⟩] = (cs ++ [c]).map fun c => Tx ⟨#[c]⟩ := by rw [List.map_append]; rfl
theorem word_spec {M : Mem} {k : Nat} {c s t size : Int} {E : Exn → Mem → Prop} {Q : D → Mem → Prop} (hM : M[k]? = some (Pd c s t)) (h0 : 0 ≤ size) (h1 : size ≤ 20)
    (q : ∀ (w : Str) c' s' t', (w.length : Int) = size → Q (Tx w) (M.set k (Pd c' s' t'))) : P (F__law_word [.h k, I size] M) E Q := by
  unfold F__law_word
  walk_at "def"
  unfold B__law_word
  walk_at "gos"
  refine ⟨by omega, by rw [rangeD_len]; omega, ?_⟩
  refine p_lcL (fun i acc M1 => ∃ (cs : List Nat) (c s t : Int), acc = (cs.map fun c => Tx ⟨#[c]⟩) ∧ cs.length = i ∧ M1 = M.set k (Pd c s t)) ⟨[], c, s, t, rfl, rfl, pd_self hM⟩ (fun _ _ _ _ => trivial) ?_ ?_
  · rintro i d _ _ hd ⟨cs, c1, s1, t1, rfl, hl, rfl⟩
    obtain ⟨rfl, hi⟩ := rangeD_get hd
    refine ⟨_, rfl, ?_⟩
    walk_at "gos"
    refine draw_spec (get_set hM) (by omega) (by omega) (fun r c s t r0 r1 => ?_)
    refine p_alpha r0 r1 (fun c => ?_)
    exact ⟨cs ++ [c], _, _, _, chars_app, by simp [hl], by rw [List.set_set]⟩
  · rintro _ _ ⟨cs, c1, s1, t1, rfl, hl, rfl⟩
    rw [rangeD_len] at hl
    walk_at "gos"
    refine join_onesP (by omega) rfl (fun w hw => ?_)
    exact fin_v (q w _ _ _ (by omega))
theorem ident_spec {M : Mem} {k : Nat} {c s t : Int} {E : Exn → Mem → Prop} {Q : D → Mem → Prop} (hM : M[k]? = some (Pd c s t))
    (q : ∀ (w : Str) c' s' t', w.length ≤ 24 → Q (Tx w) (M.set k (Pd c' s' t'))) : P (F__law_ident [.h k] M) E Q := by
  unfold F__law_ident
  walk_at "def"
  unfold B__law_ident
  walk_at "gos"
  refine draw_spec hM (by omega) (by omega) (fun r c s t r0 r1 => ?_)
  walk_at "gos"
  refine ⟨by omega, by rw [rangeD_len]; omega, ?_⟩
  refine p_lcL (fun i acc M1 => ∃ (cs : List Nat) (c s t : Int), acc = (cs.map fun c => Tx ⟨#[c]⟩) ∧ cs.length = i ∧ M1 = M.set k (Pd c s t)) ⟨[], c, s, t, rfl, rfl, rfl⟩ (fun _ _ _ _ => trivial) ?_ ?_
  · rintro i d _ _ hd ⟨cs, c1, s1, t1, rfl, hl, rfl⟩
    obtain ⟨rfl, hi⟩ := rangeD_get hd
    refine ⟨_, rfl, ?_⟩
    walk_at "gos"
    refine draw_spec (get_set hM) (by omega) (by omega) (fun r c s t r0 r1 => ?_)
    refine p_sign r0 r1 (fun c => ?_)
    exact ⟨cs ++ [c], _, _, _, chars_app, by simp [hl], by rw [List.set_set]⟩
  · rintro _ _ ⟨cs, c1, s1, t1, rfl, hl, rfl⟩
    rw [rangeD_len] at hl
    walk_at "gos"
    refine join_onesP (by omega) rfl (fun w hw => ?_)
    exact fin_v (q w _ _ _ (by omega))
theorem p_inM {M : Mem} {j : Nat} {ws : List Str} {w : Str} {E : Exn → Mem → Prop} {Q : D → Mem → Prop} (h : M[j]? = some (.lst (ws.map Tx))) (q : ∀ b, Q (Bo b) M) : P (gIn (Tx w) (.h j) M) E Q :=
  p_inL (lstOf_h h) rfl (okEq_all fun d hd => by
    obtain ⟨w, _, rfl⟩ := List.mem_map.mp hd
    exact ⟨rfl, by unfold dep; omega⟩) (q _)
theorem p_lastT {w : Str} {M : Mem} {E : Exn → Mem → Prop} {Q : D → Mem → Prop} (h : 1 ≤ w.length) (q : ∀ c, Q (Tx ⟨#[c]⟩) M) : P (gIx (Tx w) (I (-1)) M) E Q := by
  have h2 : 1 ≤ w.cps.toList.length := by simpa [Str.length] using h
  have : ∃ c, atI w.cps.toList (-1) = some c := by
    unfold atI ixN
    rw [if_neg (by omega), if_pos (by omega)]
    exact ⟨_, List.getElem?_eq_getElem (by omega)⟩
  obtain ⟨c, hc⟩ := this
  exact p_ixT hc (q c)
theorem cut_last {w : Str} (h : 1 ≤ w.length) : (cutS w none (some (-1))).length + 1 ≤ w.length := by
  have e : w.length = w.cps.toList.length := by simp [Str.length]
  have hc : (cutS w none (some (-1))).length ≤ w.cps.toList.length - 1 := by
    unfold cutS
    show (List.toArray _).size ≤ _
    simp [HT.sIx]
    have e2 : w.cps.size = w.length := rfl
    omega
  omega
theorem bumped_spec {M : Mem} {j : Nat} {ws : List Str} {w : Str} {E : Exn → Mem → Prop} {Q : D → Mem → Prop} (hM : M[j]? = some (.lst (ws.map Tx))) (h0 : 1 ≤ w.length) (h1 : w.length ≤ 24) (hw : ws.length ≤ 100)
    (q : ∀ w : Str, w.length ≤ 24 → Q (Tx w) M) : P (F__law_bumped [Tx w, .h j] M) E Q := by
  unfold F__law_bumped
  walk_at "def"
  unfold B__law_bumped
  walk_at "gos"
  refine ⟨by simp; omega, ?_⟩
  refine s_forL (fun _ ρ M1 => ∃ (w : Str) (t : Option D), ρ = [some (Tx w), some (.h j), some (Tx "abcdefghijklmnopqrstuvwxyz"), t] ∧ M1 = M ∧ 1 ≤ w.length ∧ w.length ≤ 24) ⟨w, none, rfl, rfl, h0, h1⟩ (fun _ _ _ _ => trivial) ?_ ?_
  · rintro i d _ _ hd ⟨w, t, rfl, rfl, a0, a1⟩
    refine ⟨_, rfl, ?_⟩
    walk_at "gos"
    refine p_inM hM (fun b => ?_)
    walk_at "gos"
    · refine p_lastT a0 (fun c => ?_)
      walk_at "gos"
      refine p_alpha (Int.emod_nonneg _ (by omega)) (Int.emod_lt_of_pos _ (by omega)) (fun c2 => ?_)
      have h3 := cut_last a0
      refine p_addS (by rw [len_c]; omega) ?_
      exact ⟨_, _, rfl, rfl, by rw [len_app, len_c]; omega, by rw [len_app, len_c]; omega⟩
    · exact ⟨_, _, rfl, rfl, a0, a1⟩
  · rintro _ _ ⟨w, t, rfl, rfl, a0, a1⟩
    walk_at "gos"
    exact p_finY (q w a1)
theorem names_fin {c0 s0 t0 c s t : Int} {E : Exn → Mem → Prop} {Q : D → Mem → Prop} {ws : List Str} (q : Q (.lst (ws.map Tx)) [Pd c s t]) : P (finish .frz [Pd c0 s0 t0] [Pd c s t, .lst (ws.map Tx)] (.h 1)) E Q :=
  p_finF (Nat.le_refl _) rfl (by
    have := ((CellsOk.refl [Pd c0 s0 t0]).set (k := 0) (hb_pd (L := 1) (c := c) (s := s) (t := t))).app (L := [.lst (ws.map Tx)]) (Nat.le_refl _)
    exact this) (hb_lst fun d hd => by
      obtain ⟨w, _, rfl⟩ := List.mem_map.mp hd
      exact hb_v) rfl q
theorem cut_le {w : Str} {lo hi : Option Int} : (cutS w lo hi).length ≤ w.length := by
  have e : w.length = w.cps.toList.length := by simp [Str.length]
  rw [e]
  unfold cutS
  show (List.toArray _).size ≤ _
  simp
  omega
theorem names_spec {c s t : Int} {E : Exn → Mem → Prop} {Q : D → Mem → Prop} (q : ∀ (ws : List Str) c s t, ws.length = 6 → (∀ w ∈ ws, w.length ≤ 24) → Q (.lst (ws.map Tx)) [Pd c s t]) : P (F__law_names [.h 0, I 6] [Pd c s t]) E Q := by
  have app : ∀ (ws : List Str) (w : Str), ws.map Tx ++ [Tx w] = (ws ++ [w]).map Tx := fun ws w => by rw [List.map_append]; rfl
  have mem : ∀ (ws : List Str) (w : Str), (∀ w ∈ ws, w.length ≤ 24) → w.length ≤ 24 → ∀ v ∈ ws ++ [w], v.length ≤ 24 := fun ws w h1 h2 v hv => by
    rcases List.mem_append.mp hv with h8 | h8
    · exact h1 v h8
    · rw [List.mem_singleton.mp h8]; exact h2
  unfold F__law_names
  walk_at "def"
  unfold B__law_names
  walk_at "gos"
  refine draw_spec rfl (by omega) (by omega) (fun r c s t r0 r1 => ?_)
  walk_at "gos"
  · refine ⟨by omega, ?_⟩
    refine s_forL (fun i ρ M => ∃ (ws : List Str) (u : Option D) (c s t : Int), ρ = [some (.h 0), some (I 6), some (Tx "abcdefghijklmnopqrstuvwxyz"), some (I r), some (.h 1), u, none, none, none, none, none] ∧ M = [Pd c s t, .lst (ws.map Tx)] ∧ ws.length = i ∧ ∀ w ∈ ws, w.length ≤ 24) ⟨[], none, _, _, _, rfl, rfl, rfl, by simp⟩ (fun _ _ _ _ => trivial) ?_ ?_
    · rintro i d _ _ hd ⟨ws, u, c, s, t, rfl, rfl, hl, hw⟩
      obtain ⟨rfl, hi⟩ := rangeD_get hd
      refine ⟨_, rfl, ?_⟩
      walk_at "gos"
      refine draw_spec rfl (by omega) (by omega) (fun r2 c s t r20 r21 => ?_)
      walk_at "gos"
      refine word_spec rfl (by omega) (by omega) (fun w c s t hw1 => ?_)
      walk_at "gos"
      refine bumped_spec (ws := ws) rfl (by omega) (by omega) (by omega) (fun w2 hw2 => ?_)
      walk_at "gos"
      exact ⟨ws ++ [w2], _, _, _, _, rfl, by rw [← app]; rfl, by simp [hl], mem _ _ hw hw2⟩
    · rintro _ _ ⟨ws, u, c, s, t, rfl, rfl, hl, hw⟩
      rw [rangeD_len] at hl
      walk_at "gos"
      exact names_fin (q ws _ _ _ hl hw)
  · refine word_spec rfl (by omega) (by omega) (fun base c s t hb => ?_)
    walk_at "gos"
    refine draw_spec rfl (by omega) (by omega) (fun first c s t f0 f1 => ?_)
    walk_at "gos"
    refine draw_spec rfl (by omega) (by omega) (fun st c s t st0 st1 => ?_)
    walk_at "gos"
    refine draw_spec rfl (by omega) (by omega) (fun sz c s t z0 z1 => ?_)
    walk_at "gos"
    refine draw_spec rfl (by omega) (by omega) (fun pl c s t p0 p1 => ?_)
    walk_at "gos"
    refine ⟨by omega, ?_⟩
    refine s_forL (fun i ρ M => ∃ (ws : List Str) (u : Option D), ρ = [some (.h 0), some (I 6), some (Tx "abcdefghijklmnopqrstuvwxyz"), some (I r), some (.h 1), u, some (Tx base), some (I first), some (I (1 + 2 * st)), some (I (1 + sz)), some (I pl)] ∧ M = [Pd c s t, .lst (ws.map Tx)] ∧ ws.length = i ∧ ∀ w ∈ ws, w.length ≤ 24) ⟨[], none, rfl, rfl, rfl, by simp⟩ (fun _ _ _ _ => trivial) ?_ ?_
    · rintro i d _ _ hd ⟨ws, u, rfl, rfl, hl, hw⟩
      obtain ⟨rfl, hi⟩ := rangeD_get hd
      refine ⟨_, rfl, ?_⟩
      have hcl : ∀ lo hi, (cutS base lo hi).length ≤ 8 := fun lo hi => Nat.le_trans cut_le (by omega)
      walk_at "gos"
      · exact ⟨ws ++ [_], _, rfl, by rw [← app]; rfl, by simp [hl], mem _ _ hw (Nat.le_trans (hcl _ _) (by omega))⟩
      · refine p_alpha (Int.emod_nonneg _ (by omega)) (Int.emod_lt_of_pos _ (by omega)) (fun c2 => ?_)
        have h1 := hcl none (some pl)
        have h2 := hcl (some (pl + 1)) (some (1 + sz))
        walk_at "gos"
        exact ⟨ws ++ [_], _, rfl, by rw [← app]; rfl, by simp [hl], mem _ _ hw (by rw [len_app, len_app, len_c]; omega)⟩
    · rintro _ _ ⟨ws, u, rfl, rfl, hl, hw⟩
      rw [rangeD_len] at hl
      walk_at "gos"
      exact names_fin (q ws _ _ _ hl hw)
/-! models -/
inductive Pa where
  | s (x : Str)
  | i (n : Int)
def PaD : Pa → D
  | .s x => Tx x
  | .i n => I n
def PaOk : Pa → Prop
  | .s x => x.length ≤ 24
  | .i n => n.natAbs < 2 ^ 40
structure Nt where
  ident : Str
  version : Int
  names : List Str
  cause : Str
  content : Option (List Pa)
def ctD : Option (List Pa) → D
  | none => No
  | some ps => .tup (ps.map PaD)
def CtOk : Option (List Pa) → Prop
  | none => True
  | some ps => 1 ≤ ps.length ∧ ps.length ≤ 8 ∧ ∀ p ∈ ps, PaOk p
def ND (n : Nt) : D := .tup [Tx n.ident, I n.version, .tup (n.names.map Tx), Tx n.cause, ctD n.content]
structure NtOk (n : Nt) : Prop where
  id : n.ident.length ≤ 24
  ver : n.version.natAbs < 2 ^ 40
  nl : n.names.length ≤ 6
  nm : ∀ s ∈ n.names, s.length ≤ 24
  ca : n.cause.length ≤ 24
  ct : CtOk n.content
inductive En where
  | run (i : Int)
  | note (n : Nt)
def ED : En → D
  | .run i => .tup [Tx "run", I i]
  | .note n => .tup [Tx "learn", ND n]
def EnOk : En → Prop
  | .run i => i.natAbs < 2 ^ 40
  | .note n => NtOk n
def JD (es : List En) : D := .lst (es.map ED)
def JOk (es : List En) : Prop := es.length ≤ 60 ∧ ∀ e ∈ es, EnOk e
theorem hbs_tx {L : Nat} (ss : List Str) : hbs L (ss.map Tx) = true := hbs_of fun d hd => by
  obtain ⟨w, _, rfl⟩ := List.mem_map.mp hd
  exact hb_v
theorem hb_pa {L : Nat} (p : Pa) : hb L (PaD p) = true := by cases p <;> exact hb_v
theorem hb_ct {L : Nat} (c : Option (List Pa)) : hb L (ctD c) = true := by
  cases c with
  | none => exact hb_v
  | some ps =>
    refine hb_tup fun d hd => ?_
    obtain ⟨p, _, rfl⟩ := List.mem_map.mp hd
    exact hb_pa p
theorem hb_nd {L : Nat} (n : Nt) : hb L (ND n) = true := by
  unfold ND
  simp only [hb, hbs, hbs_tx, hb_ct, Bool.and_self]
theorem hb_ed {L : Nat} (e : En) : hb L (ED e) = true := by
  cases e with
  | run i => simp [ED, hb, hbs]
  | note n => simp [ED, hb, hbs, hb_nd]
theorem hb_jd {L : Nat} (es : List En) : hb L (JD es) = true := hb_lst fun d hd => by
  obtain ⟨p, _, rfl⟩ := List.mem_map.mp hd
  exact hb_ed p
theorem fin_d {M : Mem} {k : Nat} {d : D} {c s t : Int} {E : Exn → Mem → Prop} {Q : D → Mem → Prop} (hd : noH d = true) (hv : ∀ L, hb L d = true) (q : Q d (M.set k (Pd c s t))) : P (finish .frz M (M.set k (Pd c s t)) d) E Q :=
  p_finD (fun z => by cases z) hd ((CellsOk.refl M).set hb_pd) (hv _) (by simp [List.take_set]) q
section
variable {M : Mem} {k : Nat} {c s t : Int} {E : Exn → Mem → Prop} {Q : D → Mem → Prop} {w : Nat → Str}
theorem p_w6 {r : Int} {M : Mem} {Q : D → Mem → Prop} (h0 : 0 ≤ r) (h1 : r < 6) (q : ∀ i, Q (Tx (w i)) M) : P (gIx (.lst (Ls 6 fun i => Tx (w i))) (I r) M) E Q := p_ixLs h0 (by omega) (q _)
theorem version_spec (hM : M[k]? = some (Pd c s t)) (q : ∀ v c s t, 0 ≤ v → v ≤ 1000000000 → Q (I v) (M.set k (Pd c s t))) : P (F__law_version [.h k] M) E Q := by
  unfold F__law_version
  walk_at "def"
  unfold B__law_version
  walk_at "gos"
  refine draw_spec hM (by omega) (by omega) (fun r c s t r0 r1 => ?_)
  walk_at "gos"
  · refine draw_spec (get_set hM) (by omega) (by omega) (fun r2 c s t r20 r21 => ?_)
    walk_at "gos"
    exact fin_v (q _ _ _ _ (by omega) (by omega))
  · refine draw_spec (get_set hM) (by omega) (by omega) (fun r2 c s t r20 r21 => ?_)
    walk_at "gos"
    have : r = 0 ∨ r = 1 ∨ r = 2 := by omega
    rcases this with rfl | rfl | rfl
    · exact p_ixS rfl rfl (fin_v (q _ _ _ _ (by omega) (by omega)))
    · exact p_ixS rfl rfl (fin_v (q _ _ _ _ (by omega) (by omega)))
    · exact p_ixS rfl rfl (fin_v (q _ _ _ _ (by decide) (by decide)))
theorem some_spec (hM : M[k]? = some (Pd c s t)) (hw : ∀ i, (w i).length ≤ 24) (q : ∀ (ss : List Str) c s t, ss.length ≤ 6 → (∀ x ∈ ss, x.length ≤ 24) → Q (.tup (ss.map Tx)) (M.set k (Pd c s t))) :
    P (F__law_some [.h k, .lst (Ls 6 fun i => Tx (w i))] M) E Q := by
  unfold F__law_some
  walk_at "def"
  unfold B__law_some
  walk_at "gos"
  refine draw_spec hM (by omega) (by omega) (fun r c s t r0 r1 => ?_)
  walk_at "gos"
  · exact fin_d rfl (fun _ => rfl) (q [] _ _ _ (by simp) (by simp))
  · refine ⟨by simp, ?_⟩
    refine p_lcL (fun i acc M1 => ∃ (ss : List Str) (c s t : Int), acc = ss.map Tx ∧ ss.length ≤ i ∧ (∀ x ∈ ss, x.length ≤ 24) ∧ M1 = M.set k (Pd c s t)) ⟨[], c, s, t, rfl, Nat.le_refl _, by simp, rfl⟩ (fun _ _ _ _ => trivial) ?_ ?_
    · rintro i d _ _ hd ⟨ss, c1, s1, t1, rfl, hl, hs, rfl⟩
      obtain ⟨hi, rfl⟩ := Ls_get_of hd
      refine ⟨_, rfl, ?_⟩
      walk_at "gos"
      refine draw_spec (get_set hM) (by omega) (by omega) (fun r2 c s t r20 r21 => ?_)
      walk_at "gos"
      · exact ⟨ss ++ [w i], _, _, _, by rw [List.map_append]; rfl, by simp; omega, fun x hx => by
          rcases List.mem_append.mp hx with h8 | h8
          · exact hs x h8
          · rw [List.mem_singleton.mp h8]; exact hw i, by first | rw [List.set_set] | rfl⟩
      · exact ⟨ss, _, _, _, rfl, by omega, hs, by first | rw [List.set_set] | rfl⟩
    · rintro _ _ ⟨ss, c1, s1, t1, rfl, hl, hs, rfl⟩
      rw [Ls_len] at hl
      walk_at "gos"
      refine p_sortedS (by omega) ?_
      walk_at "gos"
      exact fin_d rfl (fun _ => by unfold hb; exact hbs_tx _) (q (sortS ss) _ _ _ (by rw [sortS_len]; exact hl) fun x hx => hs x (sortS_mem.mp hx))
theorem cause_spec (hM : M[k]? = some (Pd c s t)) (hw : ∀ i, (w i).length ≤ 24) (q : ∀ (x : Str) c s t, x.length ≤ 24 → Q (Tx x) (M.set k (Pd c s t))) :
    P (F__law_cause [.h k, .lst (Ls 6 fun i => Tx (w i))] M) E Q := by
  unfold F__law_cause
  walk_at "def"
  unfold B__law_cause
  walk_at "gos"
  refine draw_spec hM (by omega) (by omega) (fun r c s t r0 r1 => ?_)
  walk_at "gos"
  · exact fin_v (q _ _ _ _ (by decide))
  · refine draw_spec (get_set hM) (by omega) (by omega) (fun r2 c s t r20 r21 => ?_)
    walk_at "gos"
    exact fin_v (q _ _ _ _ (hw _))
theorem stretch_spec (hM : M[k]? = some (Pd c s t)) (q : ∀ a b c s t, 0 ≤ a → a < b → b ≤ 720 → Q (.tup [I a, I b]) (M.set k (Pd c s t))) : P (F__law_stretch [.h k] M) E Q := by
  unfold F__law_stretch
  walk_at "def"
  unfold B__law_stretch
  walk_at "gos"
  refine draw_spec hM (by omega) (by omega) (fun r c s t r0 r1 => ?_)
  walk_at "gos"
  refine draw_spec (get_set hM) (by omega) (by omega) (fun r2 c s t r20 r21 => ?_)
  walk_at "gos"
  exact fin_d rfl (fun _ => rfl) (q _ _ _ _ _ (by omega) (by omega) (by omega))
theorem over_spec (hM : M[k]? = some (Pd c s t)) (q : ∀ (x : Str) c s t, x.length ≤ 24 → Q (Tx x) (M.set k (Pd c s t))) : P (F__law_over [.h k] M) E Q := by
  unfold F__law_over
  walk_at "def"
  unfold B__law_over
  walk_at "gos"
  refine draw_spec hM (by omega) (by omega) (fun r c s t r0 r1 => ?_)
  have : r = 0 ∨ r = 1 := by omega
  rcases this with rfl | rfl
  · exact p_ixS rfl rfl (fin_v (q _ _ _ _ (by decide)))
  · exact p_ixS rfl rfl (fin_v (q _ _ _ _ (by decide)))
theorem statuses_spec (hM : M[k]? = some (Pd c s t)) (hw : ∀ i, (w i).length ≤ 24) (q : ∀ (ss : List Str) c s t, ss.length ≤ 9 → (∀ x ∈ ss, x.length ≤ 24) → Q (.tup (ss.map Tx)) (M.set k (Pd c s t))) :
    P (F__law_statuses [.h k, .lst (Ls 6 fun i => Tx (w i))] M) E Q := by
  unfold F__law_statuses
  walk_at "def"
  unfold B__law_statuses
  walk_at "gos"
  refine draw_spec hM (by omega) (by omega) (fun r c s t r0 r1 => ?_)
  walk_at "gos"
  refine ⟨by omega, by rw [rangeD_len]; omega, ?_⟩
  refine p_lcL (fun i acc M1 => ∃ (ss : List Str) (c s t : Int), acc = ss.map Tx ∧ ss.length ≤ i ∧ (∀ x ∈ ss, x.length ≤ 24) ∧ M1 = M.set k (Pd c s t)) ⟨[], c, s, t, rfl, Nat.le_refl _, by simp, rfl⟩ (fun _ _ _ _ => trivial) ?_ ?_
  · rintro i d _ _ hd ⟨ss, c1, s1, t1, rfl, hl, hs, rfl⟩
    obtain ⟨rfl, hi⟩ := rangeD_get hd
    refine ⟨_, rfl, ?_⟩
    walk_at "gos"
    refine draw_spec (get_set hM) (by omega) (by omega) (fun r2 c s t r20 r21 => ?_)
    walk_at "gos"
    exact ⟨ss ++ [_], _, _, _, by rw [List.map_append]; rfl, by simp; omega, fun x hx => by
        rcases List.mem_append.mp hx with h8 | h8
        · exact hs x h8
        · rw [List.mem_singleton.mp h8]; exact hw _, by first | rw [List.set_set] | rfl⟩
  · rintro _ _ ⟨ss, c1, s1, t1, rfl, hl, hs, rfl⟩
    rw [rangeD_len] at hl
    walk_at "gos"
    exact fin_d rfl (fun _ => by unfold hb; exact hbs_tx _) (q ss _ _ _ (by omega) hs)
end
local macro_rules | `(tactic| walk_at "gd") => `(tactic| repeat' (first | walk_at "go1" | walk_at "split" | walk_at "draw" | ((with_reducible refine stretch_spec (get_set ‹_›) ?_); rintro a b c s t a0 a1 a2) | fail))
local macro_rules | `(tactic| walk_at "pa") => `(tactic| first | exact ‹∀ i, Str.length _ ≤ 24› _ | (show Str.length _ ≤ 24; decide) | (show Int.natAbs _ < 2 ^ 40; omega))
theorem ct3 {a b c : Pa} (ha : PaOk a) (hb : PaOk b) (hc : PaOk c) : CtOk (some [a, b, c]) := ⟨by simp, by simp, by
  intro p hp; simp only [List.mem_cons, List.not_mem_nil, or_false] at hp; rcases hp with rfl | rfl | rfl <;> assumption⟩
theorem ct4 {a b c d : Pa} (ha : PaOk a) (hb : PaOk b) (hc : PaOk c) (hd : PaOk d) : CtOk (some [a, b, c, d]) := ⟨by simp, by simp, by
  intro p hp; simp only [List.mem_cons, List.not_mem_nil, or_false] at hp; rcases hp with rfl | rfl | rfl | rfl <;> assumption⟩
theorem ct5 {a b c d e : Pa} (ha : PaOk a) (hb : PaOk b) (hc : PaOk c) (hd : PaOk d) (he : PaOk e) : CtOk (some [a, b, c, d, e]) := ⟨by simp, by simp, by
  intro p hp; simp only [List.mem_cons, List.not_mem_nil, or_false] at hp; rcases hp with rfl | rfl | rfl | rfl | rfl <;> assumption⟩
theorem ct6 {a b c d e f : Pa} (ha : PaOk a) (hb : PaOk b) (hc : PaOk c) (hd : PaOk d) (he : PaOk e) (hf : PaOk f) : CtOk (some [a, b, c, d, e, f]) := ⟨by simp, by simp, by
  intro p hp; simp only [List.mem_cons, List.not_mem_nil, or_false] at hp; rcases hp with rfl | rfl | rfl | rfl | rfl | rfl <;> assumption⟩
section
variable {M : Mem} {k : Nat} {c s t : Int} {E : Exn → Mem → Prop} {Q : D → Mem → Prop} {w : Nat → Str}
theorem content_spec (hM : M[k]? = some (Pd c s t)) (hw : ∀ i, (w i).length ≤ 24) (q : ∀ ct c s t, CtOk ct → Q (ctD ct) (M.set k (Pd c s t))) :
    P (F__law_content [.h k, .lst (Ls 6 fun i => Tx (w i))] M) E Q := by
  unfold F__law_content
  walk_at "def"
  unfold B__law_content
  walk_at "gd"
  all_goals first
    | exact fin_v (q none _ _ _ trivial)
    | exact fin_d rfl (fun _ => rfl) (q (some [.s _, .s _, .i _]) _ _ _ (ct3 (by walk_at "pa") (by walk_at "pa") (by walk_at "pa")))
    | exact fin_d rfl (fun _ => rfl) (q (some [.s _, .s _, .s _, .i _]) _ _ _ (ct4 (by walk_at "pa") (by walk_at "pa") (by walk_at "pa") (by walk_at "pa")))
    | exact fin_d rfl (fun _ => rfl) (q (some [.s _, .s _, .s _, .i _, .i _]) _ _ _ (ct5 (by walk_at "pa") (by walk_at "pa") (by walk_at "pa") (by walk_at "pa") (by walk_at "pa")))
    | exact fin_d rfl (fun _ => rfl) (q (some [.s _, .s _, .i _, .i _, .i _]) _ _ _ (ct5 (by walk_at "pa") (by walk_at "pa") (by walk_at "pa") (by walk_at "pa") (by walk_at "pa")))
    | exact fin_d rfl (fun _ => rfl) (q (some [.s _, .s _, .s _, .i _, .i _, .i _]) _ _ _ (ct6 (by walk_at "pa") (by walk_at "pa") (by walk_at "pa") (by walk_at "pa") (by walk_at "pa") (by walk_at "pa")))
theorem note_spec (hM : M[k]? = some (Pd c s t)) (hw : ∀ i, (w i).length ≤ 24) (q : ∀ n c s t, NtOk n → Q (ND n) (M.set k (Pd c s t))) :
    P (F__law_note [.h k, .lst (Ls 6 fun i => Tx (w i))] M) E Q := by
  unfold F__law_note
  walk_at "def"
  unfold B__law_note
  walk_at "gos"
  refine ident_spec hM (fun id c s t hid => ?_)
  walk_at "gos"
  refine version_spec (get_set hM) (fun v c s t v0 v1 => ?_)
  walk_at "gos"
  refine some_spec (get_set hM) hw (fun ss c s t hl hs => ?_)
  walk_at "gos"
  refine cause_spec (get_set hM) hw (fun ca c s t hc => ?_)
  walk_at "gos"
  refine content_spec (get_set hM) hw (fun ct c s t hct => ?_)
  walk_at "gos"
  exact fin_d rfl (fun _ => hb_nd ⟨id, v, ss, ca, ct⟩) (q ⟨id, v, ss, ca, ct⟩ _ _ _ ⟨hid, by show v.natAbs < _; omega, hl, hs, hc, hct⟩)
theorem entry_spec (hM : M[k]? = some (Pd c s t)) (hw : ∀ i, (w i).length ≤ 24) (q : ∀ e c s t, EnOk e → Q (ED e) (M.set k (Pd c s t))) :
    P (F__law_entry [.h k, .lst (Ls 6 fun i => Tx (w i))] M) E Q := by
  unfold F__law_entry
  walk_at "def"
  unfold B__law_entry
  walk_at "gd"
  · rename_i r1 _ _ _ r10 r11
    exact fin_d rfl (fun _ => rfl) (q (.run _) _ _ _ (by show Int.natAbs _ < _; omega))
  · refine note_spec (get_set hM) hw (fun n c s t hn => ?_)
    walk_at "gos"
    exact fin_d rfl (fun _ => hb_ed (.note n)) (q (.note n) _ _ _ hn)
theorem journal_spec (hM : M[k]? = some (Pd c s t)) (hw : ∀ i, (w i).length ≤ 24) (q : ∀ es c s t, JOk es → Q (JD es) (M.set k (Pd c s t))) :
    P (F__law_journal [.h k, .lst (Ls 6 fun i => Tx (w i))] M) E Q := by
  unfold F__law_journal
  walk_at "def"
  unfold B__law_journal
  refine s_seq (s_set (p_c ?_))
  refine s_seq ?_
  refine SP.cut (fun ρ M1 => ∃ (m c s t : Int), ρ = [some (.h k), some (.lst (Ls 6 fun i => Tx (w i))), some (I m), none] ∧ M1 = M.set k (Pd c s t) ∧ 0 < m ∧ m ≤ 41) ?_ ?_
  · walk_at "gd"
    · exact ⟨_, _, _, _, rfl, rfl, by omega, by omega⟩
    · exact ⟨_, _, _, _, rfl, rfl, by omega, by omega⟩
  rintro _ _ ⟨m, c, s, t, rfl, rfl, m0, m1⟩
  walk_at "gos"
  refine draw_spec (get_set hM) (by omega) (by omega) (fun n c s t n0 n1 => ?_)
  walk_at "gos"
  refine ⟨by omega, by rw [rangeD_len]; omega, ?_⟩
  refine p_lcL (fun i acc M1 => ∃ (es : List En) (c s t : Int), acc = es.map ED ∧ es.length = i ∧ (∀ x ∈ es, EnOk x) ∧ M1 = M.set k (Pd c s t)) ⟨[], c, s, t, rfl, rfl, by simp, rfl⟩ (fun _ _ _ _ => trivial) ?_ ?_
  · rintro i d _ _ hd ⟨es, c1, s1, t1, rfl, hl, hs, rfl⟩
    obtain ⟨rfl, hi⟩ := rangeD_get hd
    refine ⟨_, rfl, ?_⟩
    walk_at "gos"
    refine entry_spec (get_set hM) hw (fun e c s t he => ?_)
    exact ⟨es ++ [e], _, _, _, by rw [List.map_append]; rfl, by simp; omega, fun x hx => by
        rcases List.mem_append.mp hx with h8 | h8
        · exact hs x h8
        · rw [List.mem_singleton.mp h8]; exact he, by first | rw [List.set_set] | rfl⟩
  · rintro _ _ ⟨es, c1, s1, t1, rfl, hl, hs, rfl⟩
    rw [rangeD_len] at hl
    walk_at "gos"
    exact fin_d rfl (fun _ => hb_jd es) (q es _ _ _ ⟨by omega, hs⟩)
end
def PaW : Pa → Str
  | .s x => x
  | .i n => toString n
theorem paw_len {p : Pa} (h : PaOk p) : (PaW p).length ≤ 24 := by
  cases p with
  | s x => exact h
  | i n =>
    have h' : n.natAbs < 2 ^ 40 := h
    exact Nat.le_trans (len_int (Nat.lt_trans h' (by decide))) (by decide)
noncomputable def pers (n : Nt) : Str := if n.names = [] then "-" else Str.join "," n.names
noncomputable def caus (n : Nt) : Str := if n.cause = "" then "-" else n.cause
def told (n : Nt) : Str := match n.content with
  | none => "struck"
  | some ps => Str.join " " (ps.map PaW)
noncomputable def wr (n : Nt) : Str := n.ident ++ "." ++ (toString n.version : String) ++ " " ++ pers n ++ " " ++ caus n ++ " " ++ told n
theorem emp_app (x : Str) : Str.empty ++ x = x := Str.ext' (by show (#[] : Array Nat) ++ x.cps = x.cps; simp)
theorem wr_eq {a p c : Str} {ws : List Str} (h : ws ≠ []) : Str.join " " (a :: p :: c :: ws) = a ++ " " ++ (p ++ " " ++ (c ++ " " ++ Str.join " " ws)) := by
  cases ws with
  | nil => exact absurd rfl h
  | cons w r => rw [join2, join2, join2]
theorem l_emp : Str.empty.length = 0 := rfl
theorem l_dot : (("." : String) : Str).length = 1 := rfl
theorem l_sp : ((" " : String) : Str).length = 1 := rfl
theorem l_co : (("," : String) : Str).length = 1 := rfl
theorem l_da : (("-" : String) : Str).length = 1 := rfl
theorem l_st : (("struck" : String) : Str).length = 6 := rfl
theorem l_ov : (("over " : String) : Str).length = 5 := rfl
theorem l_ss : (("status " : String) : Str).length = 7 := rfl
theorem l_le : (("learn " : String) : Str).length = 6 := rfl
theorem l_ru : (("run " : String) : Str).length = 4 := rfl
theorem pers_len {n : Nt} (ok : NtOk n) : (pers n).length ≤ 200 := by
  unfold pers
  split
  · rw [l_da]; omega
  · have h1 := join_len "," n.names
    have h2 := sum_len (B := 24) ok.nm
    have h3 := ok.nl
    rw [l_co] at h1
    omega
theorem caus_len {n : Nt} (ok : NtOk n) : (caus n).length ≤ 24 := by
  unfold caus
  split
  · rw [l_da]; omega
  · exact ok.ca
theorem told_len {n : Nt} (ok : NtOk n) : (told n).length ≤ 300 := by
  obtain ⟨a, b, c, d, ct⟩ := n
  have h := ok.ct
  cases ct with
  | none => show (("struck" : String) : Str).length ≤ 300; rw [l_st]; omega
  | some ps =>
    obtain ⟨h1, h2, h3⟩ := h
    show (Str.join " " (ps.map PaW)).length ≤ 300
    have q1 := join_len " " (ps.map PaW)
    have q2 := sum_len (B := 24) (ss := ps.map PaW) fun s hs => by
      obtain ⟨p, hp, rfl⟩ := List.mem_map.mp hs
      exact paw_len (h3 p hp)
    rw [l_sp, List.length_map] at q1
    rw [List.length_map] at q2
    omega
theorem ver_len {n : Nt} (ok : NtOk n) : (Str.ofString (toString n.version)).length ≤ 21 := len_int (Nat.lt_trans ok.ver (by decide))
theorem wr_len {n : Nt} (ok : NtOk n) : (wr n).length ≤ 700 := by
  have h1 := pers_len ok
  have h2 := caus_len ok
  have h3 := told_len ok
  have h4 := ver_len ok
  have h5 := ok.id
  unfold wr
  simp only [len_app, l_dot, l_sp]
  omega
theorem take_map {α β : Type} {f : α → β} {l : List α} {i : Nat} {x : α} (h : l[i]? = some x) : (l.take (i + 1)).map f = (l.take i).map f ++ [f x] := by
  rw [List.take_add_one, h, List.map_append]; rfl
theorem get_map {α β : Type} {f : α → β} {l : List α} {i : Nat} {d : β} (h : (l.map f)[i]? = some d) : ∃ x, l[i]? = some x ∧ x ∈ l ∧ d = f x := by
  rw [List.getElem?_map] at h
  obtain ⟨x, h1, h2⟩ := Option.map_eq_some_iff.mp h
  exact ⟨x, h1, List.mem_of_getElem? h1, h2.symm⟩
section
variable {M : Mem} {E : Exn → Mem → Prop} {Q : D → Mem → Prop}
theorem fin_app {L : Mem} {x : V} (q : Q (.v x) M) : P (finish .frz M (M ++ L) (.v x)) E Q := p_finZ ((CellsOk.refl M).app (Nat.le_refl _)) (by simp) q
theorem p_strP {p : Pa} (h : PaOk p) (q : Q (Tx (PaW p)) M) : P (gStr [PaD p] M) E Q := by
  cases p with
  | s x => exact p_strS q
  | i n => exact p_strI (log_int (Nat.lt_trans (show n.natAbs < 2 ^ 40 from h) (by decide))) q
theorem words_spec {ps : List Pa} (ok : ∀ p ∈ ps, PaOk p) (hl : ps.length ≤ 100) (q : Q (.lst ((ps.map PaW).map Tx)) M) : P (F_content_words [.tup (ps.map PaD)] M) E Q := by
  unfold F_content_words
  walk_at "def"
  unfold B_content_words
  walk_at "gos"
  refine ⟨by simp; omega, ?_⟩
  refine p_lcL (fun i acc M1 => acc = ((ps.take i).map fun p => Tx (PaW p)) ∧ M1 = M) ⟨rfl, rfl⟩ (fun _ _ _ _ => trivial) ?_ ?_
  · rintro i d _ _ hd ⟨rfl, rfl⟩
    obtain ⟨p, h1, h2, rfl⟩ := get_map hd
    refine ⟨_, rfl, ?_⟩
    walk_at "gos"
    refine p_strP (ok p h2) ?_
    exact ⟨(take_map h1).symm, rfl⟩
  · rintro _ _ ⟨rfl, rfl⟩
    rw [show ps.length = (ps.map PaD).length from (List.length_map ..).symm] at *
    walk_at "gos"
    have e : ((ps.take (ps.map PaD).length).map fun p => Tx (PaW p)) = (ps.map PaW).map Tx := by rw [List.length_map, List.take_length, List.map_map]; rfl
    rw [e]
    exact p_finD (fun z => by cases z) rfl (CellsOk.refl _) (by unfold hb; exact hbs_tx _) List.take_length q
end
local macro_rules | `(tactic| walk_at "len") => `(tactic| (simp only [len_app, l_emp, l_dot, l_sp, l_co, l_da, l_st, l_ov, l_ss, l_le, l_ru]; omega))
local macro_rules | `(tactic| walk_at "gw") => `(tactic| repeat' (first | walk_at "go1" | ((with_reducible refine p_append get_new ?_ ?_); (· first | (simp; done) | (simp; omega))) | walk_at "split" | ((with_reducible refine p_addS ?_ ?_); (· walk_at "len")) | ((with_reducible refine And.intro ?_ ?_); (· walk_at "len")) | fail))
section
variable {M : Mem} {E : Exn → Mem → Prop} {Q : D → Mem → Prop}
theorem p_joinTx {a : Str} {y : D} {ss : List Str} {B : Nat} (h : seqOf M y = some (ss.map Tx)) (hs : ∀ s ∈ ss, s.length ≤ B) (hl : (B + a.length) * ss.length ≤ 16777216) (q : Q (Tx (Str.join a ss)) M) : P (gJoin (Tx a) [y] M) E Q := by
  have h1 := sum_len hs
  rw [Nat.add_mul, Nat.mul_comm a.length] at hl
  exact p_join h (by omega) q
theorem p_joinP {y : D} {ss : List Str} (h : seqOf M y = some (ss.map Tx)) (hs : ∀ s ∈ ss, s.length ≤ 700) (hl : ss.length ≤ 100) (q : Q (Tx (Str.join " " ss)) M) : P (gJoin (Tx " ") [y] M) E Q :=
  p_joinTx h hs (by rw [l_sp]; exact Nat.le_trans (Nat.mul_le_mul_left _ hl) (by decide)) q
theorem p_joinC {y : D} {ss : List Str} (h : seqOf M y = some (ss.map Tx)) (hs : ∀ s ∈ ss, s.length ≤ 24) (hl : ss.length ≤ 100) (q : Q (Tx (Str.join "," ss)) M) : P (gJoin (Tx ",") [y] M) E Q :=
  p_joinTx h hs (by rw [l_co]; exact Nat.le_trans (Nat.mul_le_mul_left _ hl) (by decide)) q
theorem note_line_spec {n : Nt} (ok : NtOk n) (q : Q (Tx (wr n)) M) : P (F_note_line [ND n] M) E Q := by
  have h1 := pers_len ok
  have h2 := caus_len ok
  have h3 := told_len ok
  have h4 := ver_len ok
  have h5 := ok.id
  have hv := ok.ver
  have hn := ok.nl
  have hm := ok.nm
  have hct := ok.ct
  obtain ⟨id, ver, nm, ca, ct⟩ := n
  dsimp only at h4 h5 hv hn hm hct
  unfold ND
  dsimp only
  unfold F_note_line
  walk_at "def"
  unfold B_note_line
  refine s_seq ?_
  refine SP.cut (fun ρ M1 => ρ = [some (.tup [Tx id, I ver, .tup (nm.map Tx), Tx ca, ctD ct]), some (Tx id), some (I ver), some (.tup (nm.map Tx)), some (Tx ca), some (ctD ct), none] ∧ M1 = M) ?_ ?_
  · walk_at "gw"
    exact ⟨rfl, rfl⟩
  rintro ρ1 M1 ⟨e1, e2⟩
  rw [e1, e2]
  clear e1 e2 ρ1 M1
  refine s_seq ?_
  refine SP.cut (fun ρ M1 => ρ = [some (.tup [Tx id, I ver, .tup (nm.map Tx), Tx ca, ctD ct]), some (Tx id), some (I ver), some (.tup (nm.map Tx)), some (Tx ca), some (ctD ct), some (.h M.length)] ∧ M1 = M ++ [.lst [Tx (id ++ "." ++ (toString ver : String))]]) ?_ ?_
  · walk_at "gw"
    rw [emp_app]
    exact ⟨rfl, rfl⟩
  rintro ρ1 M1 ⟨e1, e2⟩
  rw [e1, e2]
  clear e1 e2 ρ1 M1
  have la : (id ++ "." ++ (toString ver : String)).length ≤ 700 := by rw [len_app, len_app, l_dot]; omega
  generalize ha : id ++ "." ++ (toString ver : String) = a at *
  refine s_seq ?_
  refine SP.cut (fun ρ M1 => ρ = [some (.tup [Tx id, I ver, .tup (nm.map Tx), Tx ca, ctD ct]), some (Tx id), some (I ver), some (.tup (nm.map Tx)), some (Tx ca), some (ctD ct), some (.h M.length)] ∧ M1 = M ++ [.lst [Tx a, Tx (pers ⟨id, ver, nm, ca, ct⟩)]]) ?_ ?_
  · walk_at "gw"
    · rename_i h
      refine p_joinC (ss := nm) (by rfl) hm (by omega) ?_
      walk_at "gw"
      refine ⟨rfl, ?_⟩
      have : nm ≠ [] := fun z => by rw [z] at h; exact absurd h (by decide)
      unfold pers
      rw [if_neg this]
      rfl
    · rename_i h
      refine ⟨rfl, ?_⟩
      have : nm = [] := by
        cases nm with
        | nil => rfl
        | cons x r => exact absurd (show (0 : Int) < _ by rw [List.length_map, List.length_cons]; omega) h
      unfold pers
      rw [if_pos this]
      rfl
  rintro ρ1 M1 ⟨e1, e2⟩
  rw [e1, e2]
  clear e1 e2 ρ1 M1
  refine s_seq ?_
  refine SP.cut (fun ρ M1 => ρ = [some (.tup [Tx id, I ver, .tup (nm.map Tx), Tx ca, ctD ct]), some (Tx id), some (I ver), some (.tup (nm.map Tx)), some (Tx ca), some (ctD ct), some (.h M.length)] ∧ M1 = M ++ [.lst [Tx a, Tx (pers ⟨id, ver, nm, ca, ct⟩), Tx (caus ⟨id, ver, nm, ca, ct⟩)]]) ?_ ?_
  · walk_at "gw"
    · rename_i h
      refine ⟨rfl, ?_⟩
      unfold caus
      rw [if_neg h]
      rfl
    · rename_i h
      refine ⟨rfl, ?_⟩
      unfold caus
      rw [if_pos h]
      rfl
  rintro ρ1 M1 ⟨e1, e2⟩
  rw [e1, e2]
  clear e1 e2 ρ1 M1
  have ew : ∀ ws : List Str, ws ≠ [] → Str.join " " ws = told ⟨id, ver, nm, ca, ct⟩ → Str.join " " (a :: pers ⟨id, ver, nm, ca, ct⟩ :: caus ⟨id, ver, nm, ca, ct⟩ :: ws) = wr ⟨id, ver, nm, ca, ct⟩ := fun ws h0 h => by
    rw [wr_eq h0, h, ← ha]
    unfold wr
    simp only [app_assoc]
  generalize hp : pers ⟨id, ver, nm, ca, ct⟩ = pe at *
  generalize hc : caus ⟨id, ver, nm, ca, ct⟩ = cu at *
  cases ct with
  | none =>
    walk_at "gw"
    · refine p_joinP (ss := [a, pe, cu, "struck"]) (by rw [seqOf_h get_new]; rfl) ?_ (by simp) ?_
      · intro s hs
        simp only [List.mem_cons, List.not_mem_nil, or_false] at hs
        rcases hs with rfl | rfl | rfl | rfl
        · exact la
        · omega
        · omega
        · rw [l_st]; omega
      · rw [ew ["struck"] (by simp) rfl]
        exact fin_app q
    all_goals (rename_i h; exact absurd h (by decide))
  | some ps =>
    obtain ⟨c1, c2, c3⟩ := hct
    walk_at "gw"
    · rename_i h; exact absurd h (by simp [ctD, DL.isNon])
    · refine words_spec c3 (by omega) ?_
      walk_at "gw"
      refine p_extend get_new rfl (by simp; omega) ?_
      walk_at "gw"
      refine p_joinP (ss := a :: pe :: cu :: ps.map PaW) (by rw [seqOf_h get_new]; rfl) ?_ (by simp; omega) ?_
      · intro s hs
        simp only [List.mem_cons] at hs
        rcases hs with rfl | rfl | rfl | hs
        · exact la
        · omega
        · omega
        · obtain ⟨p, hp, rfl⟩ := List.mem_map.mp hs
          exact Nat.le_trans (paw_len (c3 p hp)) (by omega)
      · rw [ew (ps.map PaW) (by cases ps with | nil => exact absurd c1 (by decide) | cons x r => simp) rfl]
        exact fin_app q
end
noncomputable def eline : En → Str
  | .run i => "run " ++ (toString i : String)
  | .note n => "learn " ++ wr n
noncomputable def TL (es : List En) : List Str := es.map eline
theorem eline_len {e : En} (ok : EnOk e) : (eline e).length ≤ 800 := by
  cases e with
  | run i =>
    have h : i.natAbs < 2 ^ 40 := ok
    have := len_int (i := i) (Nat.lt_trans h (by decide))
    show (("run " : Str) ++ _).length ≤ 800
    rw [len_app, l_ru]; omega
  | note n =>
    have := wr_len (n := n) ok
    show (("learn " : Str) ++ _).length ≤ 800
    rw [len_app, l_le]; omega
def Jn (M : Mem) (x : D) (es : List En) : Prop := ∃ g, ∀ L, itOf (M ++ L) x = some ⟨es.map ED, g⟩ ∧ gOk g (M ++ L)
theorem Jn.app {M : Mem} {x : D} {es : List En} (h : Jn M x es) (Z : Mem) : Jn (M ++ Z) x es := by
  obtain ⟨g, h⟩ := h
  exact ⟨g, fun L => by rw [List.append_assoc]; exact h _⟩
theorem jn_lst {M : Mem} {es : List En} : Jn M (JD es) es := ⟨none, fun _ => ⟨rfl, trivial⟩⟩
theorem jn_h {M : Mem} {k : Nat} {es : List En} (h : M[k]? = some (JD es)) : Jn M (.h k) es := ⟨some (k, es.map ED), fun L => ⟨itOf_h (get_app h), get_app h⟩⟩
section
variable {M : Mem} {E : Exn → Mem → Prop} {Q : D → Mem → Prop}
theorem written_spec {n : Nt} (ok : NtOk n) (q : Q (Tx (wr n)) M) : P (F__law_written [ND n] M) E Q := by
  have h1 := pers_len ok
  have h2 := caus_len ok
  have h3 := told_len ok
  have h4 := ver_len ok
  have h5 := ok.id
  have hv := ok.ver
  have hn := ok.nl
  have hm := ok.nm
  have hct := ok.ct
  obtain ⟨id, ver, nm, ca, ct⟩ := n
  dsimp only at h4 h5 hv hn hm hct
  unfold ND
  dsimp only
  unfold F__law_written
  walk_at "def"
  unfold B__law_written
  refine s_seq ?_
  refine SP.cut (fun ρ M1 => ρ = [some (.tup [Tx id, I ver, .tup (nm.map Tx), Tx ca, ctD ct]), some (Tx (pers ⟨id, ver, nm, ca, ct⟩)), none, none, none] ∧ M1 = M) ?_ ?_
  · walk_at "gw"
    · rename_i h
      refine p_joinC (ss := nm) (by rfl) hm (by omega) ?_
      refine ⟨?_, rfl⟩
      have : nm ≠ [] := fun z => by rw [z] at h; exact absurd h (by decide)
      unfold pers
      rw [if_neg this]
      rfl
    · rename_i h
      refine ⟨?_, rfl⟩
      have : nm = [] := by
        cases nm with
        | nil => rfl
        | cons x r => exact absurd (show (0 : Int) < _ by rw [List.length_map, List.length_cons]; omega) h
      unfold pers
      rw [if_pos this]
      rfl
  rintro ρ1 M1 ⟨e1, e2⟩
  rw [e1, e2]
  clear e1 e2 ρ1 M1
  refine s_seq ?_
  refine SP.cut (fun ρ M1 => ρ = [some (.tup [Tx id, I ver, .tup (nm.map Tx), Tx ca, ctD ct]), some (Tx (pers ⟨id, ver, nm, ca, ct⟩)), some (Tx (caus ⟨id, ver, nm, ca, ct⟩)), none, none] ∧ M1 = M) ?_ ?_
  · walk_at "gw"
    · rename_i h
      refine ⟨?_, rfl⟩
      unfold caus
      rw [if_neg h]
      rfl
    · rename_i h
      refine ⟨?_, rfl⟩
      unfold caus
      rw [if_pos h]
      rfl
  rintro ρ1 M1 ⟨e1, e2⟩
  rw [e1, e2]
  clear e1 e2 ρ1 M1
  refine s_seq (s_set (p_c ?_))
  refine s_seq ?_
  refine SP.cut (fun ρ M1 => ∃ t, ρ = [some (.tup [Tx id, I ver, .tup (nm.map Tx), Tx ca, ctD ct]), some (Tx (pers ⟨id, ver, nm, ca, ct⟩)), some (Tx (caus ⟨id, ver, nm, ca, ct⟩)), some (Tx (told ⟨id, ver, nm, ca, ct⟩)), t] ∧ M1 = M) ?_ ?_
  · cases ct with
    | none =>
      walk_at "gw"
      · rename_i h; exact absurd h (by simp [ctD, DL.isNon])
      · first | exact rfl | exact ⟨none, rfl, rfl⟩
    | some ps =>
      obtain ⟨c1, c2, c3⟩ := hct
      walk_at "gw"
      · refine ⟨by simp; omega, ?_⟩
        refine p_lcL (fun i acc M1 => acc = ((ps.take i).map fun p => Tx (PaW p)) ∧ M1 = M) ⟨rfl, rfl⟩ (fun _ _ _ _ => trivial) ?_ ?_
        · rintro i d ac M1 hd ⟨e1, e2⟩
          rw [e1, e2]
          obtain ⟨p, h1, h2, rfl⟩ := get_map hd
          refine ⟨_, rfl, ?_⟩
          walk_at "gw"
          refine p_strP (c3 p h2) ?_
          exact ⟨(take_map h1).symm, rfl⟩
        · rintro ac M1 ⟨e1, e2⟩
          rw [e1, e2]
          walk_at "gw"
          have e : ((ps.take (ps.map PaD).length).map fun p => Tx (PaW p)) = (ps.map PaW).map Tx := by rw [List.length_map, List.take_length, List.map_map]; rfl
          rw [e]
          refine p_joinP (ss := ps.map PaW) rfl ?_ (by simp; omega) ?_
          · intro s hs
            obtain ⟨p, hp, rfl⟩ := List.mem_map.mp hs
            exact Nat.le_trans (paw_len (c3 p hp)) (by omega)
          · exact ⟨none, rfl, rfl⟩
      · rename_i h; exact absurd h (by simp [ctD, DL.isNon])
  rintro ρ1 M1 ⟨t, e1, e2⟩
  rw [e1, e2]
  clear e1 e2 ρ1 M1
  walk_at "gw"
  exact p_finY q
theorem fin_told {L : Mem} {ss : List Str} (q : Q (.lst (ss.map Tx)) M) : P (finish .frz M (M ++ [.lst (ss.map Tx)]) (.h M.length)) E Q :=
  p_finF (Nat.le_refl _) get_new ((CellsOk.refl M).app (Nat.le_refl _)) (by unfold hb; exact hbs_tx _) (by simp) q
theorem take_tl {es : List En} {i : Nat} {e : En} (h : es[i]? = some e) : (TL (es.take (i + 1))).map Tx = (TL (es.take i)).map Tx ++ [Tx (eline e)] := by
  unfold TL
  rw [take_map h, List.map_append]; rfl
theorem entry_lines_spec {x : D} {es : List En} (hj : Jn M x es) (ok : JOk es) (q : Q (.lst ((TL es).map Tx)) M) : P (F__entry_lines [x] M) E Q := by
  obtain ⟨g, hj⟩ := hj
  unfold F__entry_lines
  walk_at "def"
  unfold B__entry_lines
  walk_at "gw"
  refine ⟨_, (hj _).1, ?_⟩
  refine s_forL (fun i ρ M1 => ∃ t u, ρ = [some x, some (.h M.length), t, u] ∧ M1 = M ++ [.lst ((TL (es.take i)).map Tx)]) ⟨none, none, rfl, rfl⟩ ?_ ?_ ?_
  · rintro i ρ M1 ⟨t, u, e1, e2⟩
    rw [e2]
    exact (hj _).2
  · rintro i d ρ M1 hd ⟨t, u, e1, e2⟩
    rw [e1, e2]
    clear e1 e2
    obtain ⟨e, h1, h2, rfl⟩ := get_map hd
    have he := ok.2 e h2
    have hl : i < 60 := by have := ok.1; have := (List.getElem?_eq_some_iff.mp h1).1; omega
    have tk := take_tl h1
    cases e with
    | run n =>
      have h6 : n.natAbs < 2 ^ 40 := he
      have h7 := len_int (i := n) (Nat.lt_trans h6 (by decide))
      refine ⟨_, rfl, ?_⟩
      walk_at "gw"
      · rename_i h; exact absurd h (by decide)
      · refine p_append get_new (by unfold TL; simp; omega) ?_
        rw [set_new, emp_app]
        exact ⟨_, _, rfl, by rw [tk]; rfl⟩
    | note n =>
      have h7 := wr_len (n := n) he
      refine ⟨_, rfl, ?_⟩
      walk_at "gw"
      · refine note_line_spec he ?_
        walk_at "gw"
        refine p_append get_new (by unfold TL; simp; omega) ?_
        rw [set_new, emp_app]
        exact ⟨_, _, rfl, by rw [tk]; rfl⟩
  · rintro ρ M1 ⟨t, u, e1, e2⟩
    rw [e1, e2]
    walk_at "gw"
    rw [List.length_map, List.take_length]
    exact fin_told (L := []) q
theorem law_entries_spec {x : D} {es : List En} (hj : Jn M x es) (ok : JOk es) (q : Q (.lst ((TL es).map Tx)) M) : P (F__law_entries [x] M) E Q := by
  obtain ⟨g, hj⟩ := hj
  unfold F__law_entries
  walk_at "def"
  unfold B__law_entries
  walk_at "gw"
  refine ⟨_, (hj _).1, ?_⟩
  refine s_forL (fun i ρ M1 => ∃ t u, ρ = [some x, some (.h M.length), t, u] ∧ M1 = M ++ [.lst ((TL (es.take i)).map Tx)]) ⟨none, none, rfl, rfl⟩ ?_ ?_ ?_
  · rintro i ρ M1 ⟨t, u, e1, e2⟩
    rw [e2]
    exact (hj _).2
  · rintro i d ρ M1 hd ⟨t, u, e1, e2⟩
    rw [e1, e2]
    clear e1 e2
    obtain ⟨e, h1, h2, rfl⟩ := get_map hd
    have he := ok.2 e h2
    have hl : i < 60 := by have := ok.1; have := (List.getElem?_eq_some_iff.mp h1).1; omega
    have tk := take_tl h1
    cases e with
    | run n =>
      have h6 : n.natAbs < 2 ^ 40 := he
      have h7 := len_int (i := n) (Nat.lt_trans h6 (by decide))
      refine ⟨_, rfl, ?_⟩
      walk_at "gw"
      · refine p_append get_new (by unfold TL; simp; omega) ?_
        rw [set_new]
        exact ⟨_, _, rfl, by rw [tk]; rfl⟩
    | note n =>
      have h7 := wr_len (n := n) he
      refine ⟨_, rfl, ?_⟩
      walk_at "gw"
      · rename_i h; exact absurd h (by decide)
      · refine written_spec he ?_
        walk_at "gw"
        refine p_append get_new (by unfold TL; simp; omega) ?_
        rw [set_new]
        exact ⟨_, _, rfl, by rw [tk]; rfl⟩
  · rintro ρ M1 ⟨t, u, e1, e2⟩
    rw [e1, e2]
    walk_at "gw"
    rw [List.length_map, List.take_length]
    exact fin_told (L := []) q
end
theorem l_on : (("one" : String) : Str).length = 3 := rfl
noncomputable def ovL (w : Str) : Str := "over " ++ w
noncomputable def stL (s : Str) : Str := "status " ++ s
abbrev Cs3 : List Str := ["OrderPaper", "FreePaper", "UnlikePaper"]
noncomputable abbrev linesTb : MTab := [("OrderPaper", F_OrderPaper_lines), ("FreePaper", F_FreePaper_lines), ("UnlikePaper", F_UnlikePaper_lines)]
section
variable {M : Mem} {k : Nat} {w : Str} {E : Exn → Mem → Prop} {Q : D → Mem → Prop}
theorem fin_own {ss : List Str} (q : Q (.h M.length) (M ++ [.lst (ss.map Tx)])) : P (finish .own M (M ++ [.lst (ss.map Tx)]) (.h M.length)) E Q :=
  p_finO (Nat.le_refl _) get_new ((CellsOk.refl M).app (Nat.le_refl _)) (by unfold hb; exact hbs_tx _) (by simp) q
theorem order_lines_spec {C : Str} {ns : List Str} {ds : List D} (hM : M[k]? = some (.ins C ns ds)) (hC : Cs3.contains C = true) (hf : lookF ns ds "over" = some (Tx w)) (hw : w.length ≤ 24) (q : Q (.h M.length) (M ++ [.lst ([ovL w].map Tx)])) : P (F_OrderPaper_lines [.h k] M) E Q := by
  unfold F_OrderPaper_lines
  walk_at "def"
  unfold B_OrderPaper_lines
  walk_at "gw"
  refine p_fld (insOf_h hM) hC hf ?_
  walk_at "gw"
  rw [emp_app]
  exact fin_own (ss := [ovL w]) q
theorem free_lines_spec {ss : List Str} (hM : M[k]? = some (.ins "FreePaper" ["over", "statuses"] [Tx w, .tup (ss.map Tx)])) (hw : w.length ≤ 24) (hl : ss.length ≤ 20) (hs : ∀ s ∈ ss, s.length ≤ 24)
    (q : Q (.h M.length) (M ++ [.lst ((ovL w :: ss.map stL).map Tx)])) : P (F_FreePaper_lines [.h k] M) E Q := by
  unfold F_FreePaper_lines
  walk_at "def"
  unfold B_FreePaper_lines
  refine s_seq (s_set (p_sup rfl (insOf_h hM) (p_nil (order_lines_spec hM (by decide) rfl hw ?_))))
  walk_at "gw"
  refine p_fld (insOf_h (get_app hM)) (by decide) rfl ?_
  refine ⟨_, rfl, ?_⟩
  refine s_forL (fun i ρ M1 => ∃ t, ρ = [some (.h k), some (.h M.length), t] ∧ M1 = M ++ [.lst ((ovL w :: (ss.take i).map stL).map Tx)]) ⟨none, rfl, rfl⟩ (fun _ _ _ _ => trivial) ?_ ?_
  · rintro i d ρ M1 hd ⟨t, e1, e2⟩
    rw [e1, e2]
    clear e1 e2
    obtain ⟨x, h1, h2, rfl⟩ := get_map hd
    have hx := hs x h2
    refine ⟨_, rfl, ?_⟩
    walk_at "gw"
    rw [emp_app, take_map h1, ← List.cons_append, List.map_append]; rfl
  · rintro ρ M1 ⟨t, e1, e2⟩
    rw [e1, e2]
    walk_at "gw"
    rw [List.length_map, List.take_length]
    exact fin_own q
noncomputable def unL (w : Str) (es fs : List En) : List Str := [ovL w, ("one" : String)] ++ TL es ++ [(("two" : String) : Str)] ++ TL fs
theorem tl_len {es : List En} (ok : JOk es) : (TL es).length ≤ 60 := by unfold TL; rw [List.length_map]; exact ok.1
theorem unlike_lines_spec {x y : D} {es fs : List En} (hM : M[k]? = some (.ins "UnlikePaper" ["over", "one", "two"] [Tx w, x, y])) (hw : w.length ≤ 24) (jx : Jn M x es) (jy : Jn M y fs) (ox : JOk es) (oy : JOk fs)
    (q : Q (.h M.length) (M ++ [.lst ((unL w es fs).map Tx)])) : P (F_UnlikePaper_lines [.h k] M) E Q := by
  have l1 := tl_len ox
  have l2 := tl_len oy
  unfold F_UnlikePaper_lines
  walk_at "def"
  unfold B_UnlikePaper_lines
  refine s_seq (s_set (p_sup rfl (insOf_h hM) (p_nil (order_lines_spec hM (by decide) rfl hw ?_))))
  walk_at "gw"
  refine p_fld (insOf_h (get_app hM)) (by decide) rfl ?_
  walk_at "gw"
  refine entry_lines_spec (jx.app _) ox ?_
  walk_at "gw"
  refine p_extend get_new rfl (by simp; omega) ?_
  rw [set_new]
  walk_at "gw"
  refine p_fld (insOf_h (get_app hM)) (by decide) rfl ?_
  walk_at "gw"
  refine entry_lines_spec (jy.app _) oy ?_
  walk_at "gw"
  refine p_extend get_new rfl (by simp; omega) ?_
  rw [set_new]
  walk_at "gw"
  have e : List.map Tx [ovL w] ++ [Tx "one"] ++ List.map Tx (TL es) ++ [Tx "two"] ++ List.map Tx (TL fs) = (unL w es fs).map Tx := by
    unfold unL
    simp only [List.map_append, List.map_cons, List.map_nil, List.append_assoc, List.cons_append, List.nil_append]
  rw [e]
  exact fin_own q
theorem okEq_tx (ss : List Str) : okEq (.lst (ss.map Tx)) = true := okEq_all fun d hd => by
  obtain ⟨w, _, rfl⟩ := List.mem_map.mp hd
  exact ⟨rfl, by unfold dep; omega⟩
theorem same_spec {ss : List Str} (hM : M[k]? = some (.lst (ss.map Tx))) (q : Q (Bo true) M) : P (F__law_same [.h k, .lst (ss.map Tx)] M) E Q := by
  have ht := tyN_h hM
  unfold F__law_same
  walk_at "def"
  unfold B__law_same
  refine s_seq ?_
  refine SP.cut (fun ρ M1 => ρ = [some (.h k), some (.lst (ss.map Tx)), none] ∧ M1 = M) ?_ ?_
  · walk_at "gw"
    exact ⟨rfl, rfl⟩
  rintro ρ1 M1 ⟨e1, e2⟩
  rw [e1, e2]
  clear e1 e2 ρ1 M1
  walk_at "gw"
  refine ⟨_, itOf_h hM, ?_⟩
  refine s_forL (fun i ρ M1 => ∃ t, ρ = [some (.h k), some (.lst (ss.map Tx)), t] ∧ M1 = M) ⟨none, rfl, rfl⟩ ?_ ?_ ?_
  · rintro i ρ M1 ⟨t, e1, e2⟩
    rw [e2]
    exact hM
  · rintro i d ρ M1 hd ⟨t, e1, e2⟩
    rw [e1, e2]
    clear e1 e2
    obtain ⟨x, h1, h2, rfl⟩ := get_map hd
    refine ⟨_, rfl, ?_⟩
    walk_at "gw"
    first | exact rfl | exact ⟨_, rfl, rfl⟩
  · rintro ρ M1 ⟨t, e1, e2⟩
    rw [e1, e2]
    walk_at "gw"
    refine p_eqD (by rw [resM_h hM]; exact okEq_tx ss) (okEq_tx ss) ?_
    rw [resM_h hM, show resM M (.lst (ss.map Tx)) = .lst (ss.map Tx) from rfl, deq_refl]
    exact p_finY q
def LinesOk (M : Mem) (x : D) (ss : List Str) : Prop := ∀ (M' : Mem) (E : Exn → Mem → Prop) (Q : D → Mem → Prop) (ρ : DL.Env), (∃ Z, M' = M ++ Z) → ρ[0]? = some (some x) → Q (.h M'.length) (M' ++ [.lst (ss.map Tx)]) → P (eMc "lines" linesTb (eVar 0) eNil ρ M') E Q
theorem twice_spec {x : D} {s0 : Str} {ss : List Str} (h : LinesOk M x (s0 :: ss)) (hl : ss.length ≤ 1000) (q : Q (Bo true) M) : P (F__law_twice [x, .lst ((s0 :: ss).map Tx)] M) E Q := by
  unfold F__law_twice
  walk_at "def"
  unfold B__law_twice
  refine s_seq (s_set (h _ _ _ _ ⟨[], by simp⟩ rfl ?_))
  walk_at "gw"
  refine same_spec get_new ?_
  walk_at "gw"
  refine p_store get_new (j := 0) (by simp [ixN]; omega) ?_
  rw [set_new]
  refine s_ret (p_eN (p_cons ?_))
  refine h _ _ _ _ ⟨_, rfl⟩ rfl ?_
  walk_at "gw"
  refine same_spec get_new ?_
  rw [List.append_assoc]
  exact fin_app q
end
section
variable {M : Mem} {k : Nat} {w : Str} {E : Exn → Mem → Prop} {Q : D → Mem → Prop}
theorem p_addL {xs ys : List D} (h : xs.length + ys.length ≤ 16777216) (q : Q (.lst (xs ++ ys)) M) : P (gAdd (.lst xs) (.lst ys) M) E Q := by
  show P (addD (.lst xs) (.lst ys) M) E Q
  unfold addD; simp only [mlOf, if_pos h]; exact P.k q
theorem p_addTx {xs ys : List Str} (h : xs.length + ys.length ≤ 16777216) (q : Q (.lst ((xs ++ ys).map Tx)) M) : P (gAdd (.lst (xs.map Tx)) (.lst (ys.map Tx)) M) E Q :=
  p_addL (by simpa using h) (by rw [← List.map_append]; exact q)
theorem p_addE {xs ys : List En} (h : xs.length + ys.length ≤ 16777216) (q : Q (JD (xs ++ ys)) M) : P (gAdd (JD xs) (JD ys) M) E Q :=
  p_addL (by simpa using h) (by rw [← List.map_append]; exact q)
theorem is_over_spec {C : Str} {ns : List Str} {ds : List D} (hM : M[k]? = some (.ins C ns ds)) (hC : Cs3.contains C = true) (hf : lookF ns ds "over" = some (Tx w)) (q : Q (Bo true) M) : P (F__law_is_over [.h k, Tx w] M) E Q := by
  unfold F__law_is_over
  walk_at "def"
  unfold B__law_is_over
  walk_at "gw"
  refine p_fld (insOf_h hM) hC hf ?_
  walk_at "gw"
  refine p_fld (insOf_h hM) hC hf ?_
  walk_at "gw"
  exact p_finY q
theorem plain_ct (c : Option (List Pa)) : plain (ctD c) = true ∧ dep (ctD c) ≤ 1 := by
  cases c with
  | none => exact ⟨rfl, by show dep No ≤ 1; unfold dep; omega⟩
  | some ps =>
    have h : ∀ d ∈ ps.map PaD, plain d = true ∧ dep d ≤ 0 := fun d hd => by
      obtain ⟨p, _, rfl⟩ := List.mem_map.mp hd
      cases p <;> exact ⟨rfl, by unfold PaD dep; omega⟩
    refine ⟨?_, ?_⟩
    · show plain (.tup (ps.map PaD)) = true
      unfold DL.plain; exact plains_of fun d hd => (h d hd).1
    · show dep (.tup (ps.map PaD)) ≤ 1
      unfold dep
      have := deps_of fun d hd => (h d hd).2
      omega
theorem plain_txs (ss : List Str) : plain (.tup (ss.map Tx)) = true ∧ dep (.tup (ss.map Tx)) ≤ 1 := by
  have h : ∀ d ∈ ss.map Tx, plain d = true ∧ dep d ≤ 0 := fun d hd => by
    obtain ⟨p, _, rfl⟩ := List.mem_map.mp hd
    exact ⟨rfl, by unfold dep; omega⟩
  refine ⟨?_, ?_⟩
  · unfold DL.plain; exact plains_of fun d hd => (h d hd).1
  · unfold dep
    have := deps_of fun d hd => (h d hd).2
    omega
theorem plain_nd (n : Nt) : plain (ND n) = true ∧ dep (ND n) ≤ 3 := by
  obtain ⟨a1, a2⟩ := plain_txs n.names
  obtain ⟨b1, b2⟩ := plain_ct n.content
  have h : ∀ d ∈ [Tx n.ident, I n.version, .tup (n.names.map Tx), Tx n.cause, ctD n.content], plain d = true ∧ dep d ≤ 2 := fun d hd => by
    simp only [List.mem_cons, List.not_mem_nil, or_false] at hd
    rcases hd with rfl | rfl | rfl | rfl | rfl
    · exact ⟨rfl, by unfold dep; omega⟩
    · exact ⟨rfl, by unfold dep; omega⟩
    · exact ⟨a1, by omega⟩
    · exact ⟨rfl, by unfold dep; omega⟩
    · exact ⟨b1, by omega⟩
  unfold ND
  refine ⟨?_, ?_⟩
  · unfold DL.plain; exact plains_of fun d hd => (h d hd).1
  · unfold dep
    have := deps_of fun d hd => (h d hd).2
    omega
theorem plain_ed (e : En) : plain (ED e) = true ∧ dep (ED e) ≤ 62 := by
  cases e with
  | run i =>
    refine ⟨rfl, ?_⟩
    show dep (.tup [Tx "run", I i]) ≤ 62
    simp [dep, deps]
  | note n =>
    obtain ⟨a1, a2⟩ := plain_nd n
    refine ⟨?_, ?_⟩
    · show plain (.tup [Tx "learn", ND n]) = true
      unfold DL.plain plains plains plains
      rw [a1]; rfl
    · show dep (.tup [Tx "learn", ND n]) ≤ 62
      unfold dep deps deps deps
      have : dep (Tx "learn") = 0 := by unfold dep; rfl
      omega
theorem okEq_jd (es : List En) : okEq (JD es) = true := okEq_all fun d hd => by
  obtain ⟨e, _, rfl⟩ := List.mem_map.mp hd
  exact plain_ed e
theorem okEq_tup (ss : List Str) : okEq (.tup (ss.map Tx)) = true := by
  obtain ⟨a, b⟩ := plain_txs ss
  unfold okEq
  rw [a, decide_eq_true (by omega)]; rfl
theorem p_eqJ {x : D} {es : List En} (hx : resM M x = JD es) (q : Q (Bo true) M) : P (gEq x (JD es) M) E Q :=
  p_eqD (by rw [hx]; exact okEq_jd es) (okEq_jd es) (by rw [hx, show resM M (JD es) = JD es from rfl, deq_refl]; exact q)
theorem p_neJ {x : D} {es : List En} (hx : resM M x = JD es) (q : Q (Bo false) M) : P (gNe x (JD es) M) E Q :=
  p_neD (by rw [hx]; exact okEq_jd es) (okEq_jd es) (by rw [hx, show resM M (JD es) = JD es from rfl, deq_refl]; exact q)
theorem is_journal_spec {x : D} {es : List En} (hx : resM M x = JD es) (ht : tyN M x = some "list") (q : Q (Bo true) M) : P (F__law_is_journal [x, JD es] M) E Q := by
  unfold F__law_is_journal
  walk_at "def"
  unfold B__law_is_journal
  refine s_ret (p_eAndV (p_eN (p_cons (p_var rfl (p_cons (p_c (p_nil (p_isi ht kit_list_list ⟨true, rfl, fun _ => ?_, fun z => by cases z⟩))))))))
  refine p_e2 (p_var rfl (p_var rfl (p_eqJ hx ?_)))
  exact p_finY q
theorem law_unlike_lines_spec {es fs : List En} (hw : w.length ≤ 24) (ox : JOk es) (oy : JOk fs) (q : Q (.lst ((unL w es fs).map Tx)) M) : P (F__law_unlike_lines [Tx w, JD es, JD fs] M) E Q := by
  have l1 := tl_len ox
  have l2 := tl_len oy
  unfold F__law_unlike_lines
  walk_at "def"
  unfold B__law_unlike_lines
  walk_at "gw"
  refine law_entries_spec jn_lst ox ?_
  walk_at "gw"
  refine p_addTx (xs := [ovL w, ("one" : String)]) (by simp; omega) ?_
  walk_at "gw"
  refine p_addTx (ys := [(("two" : String) : Str)]) (by simp; omega) ?_
  walk_at "gw"
  refine law_entries_spec jn_lst oy ?_
  refine p_addTx (by simp; omega) ?_
  exact p_finD (fun z => by cases z) rfl (CellsOk.refl _) (by unfold hb; exact hbs_tx _) List.take_length q
theorem mget1 : mget linesTb "OrderPaper" = some F_OrderPaper_lines := by unfold mget; rw [if_pos (by decide)]
theorem mget2 : mget linesTb "FreePaper" = some F_FreePaper_lines := by unfold mget; rw [if_neg (by decide)]; unfold mget; rw [if_pos (by decide)]
theorem mget3 : mget linesTb "UnlikePaper" = some F_UnlikePaper_lines := by unfold mget; rw [if_neg (by decide)]; unfold mget; rw [if_neg (by decide)]; unfold mget; rw [if_pos (by decide)]
theorem linesOk1 (hM : M[k]? = some (.ins "OrderPaper" ["over"] [Tx w])) (hw : w.length ≤ 24) : LinesOk M (.h k) [ovL w] := by
  rintro M' E Q ρ ⟨Z, rfl⟩ hρ q
  exact p_mc (p_var hρ ⟨_, _, _, _, insOf_h (get_app hM), by decide, mget1, p_nil (order_lines_spec (get_app hM) (by decide) rfl hw q)⟩)
theorem linesOk2 {ss : List Str} (hM : M[k]? = some (.ins "FreePaper" ["over", "statuses"] [Tx w, .tup (ss.map Tx)])) (hw : w.length ≤ 24) (hl : ss.length ≤ 20) (hs : ∀ s ∈ ss, s.length ≤ 24) : LinesOk M (.h k) (ovL w :: ss.map stL) := by
  rintro M' E Q ρ ⟨Z, rfl⟩ hρ q
  exact p_mc (p_var hρ ⟨_, _, _, _, insOf_h (get_app hM), by decide, mget2, p_nil (free_lines_spec (get_app hM) hw hl hs q)⟩)
theorem linesOk3 {x y : D} {es fs : List En} (hM : M[k]? = some (.ins "UnlikePaper" ["over", "one", "two"] [Tx w, x, y])) (hw : w.length ≤ 24) (jx : Jn M x es) (jy : Jn M y fs) (ox : JOk es) (oy : JOk fs) : LinesOk M (.h k) (unL w es fs) := by
  rintro M' E Q ρ ⟨Z, rfl⟩ hρ q
  exact p_mc (p_var hρ ⟨_, _, _, _, insOf_h (get_app hM), by decide, mget3, p_nil (unlike_lines_spec (get_app hM) hw (jx.app _) (jy.app _) ox oy q)⟩)
theorem plain_spec (hM : M[k]? = some (.ins "OrderPaper" ["over"] [Tx w])) (hw : w.length ≤ 24) (q : Q (Bo true) M) : P (F__law_plain [.h k, Tx w] M) E Q := by
  unfold F__law_plain
  walk_at "def"
  unfold B__law_plain
  walk_at "gw"
  refine p_isO (tyO_h hM (by decide)) rfl (b := true) (by decide +kernel) ?_
  walk_at "gw"
  refine p_isO (tyO_h hM (by decide)) rfl (b := false) (by decide +kernel) ?_
  walk_at "gw"
  refine p_isO (tyO_h hM (by decide)) rfl (b := false) (by decide +kernel) ?_
  walk_at "gw"
  refine is_over_spec hM (by decide) rfl ?_
  walk_at "gw"
  refine twice_spec (linesOk1 hM hw) (by simp) ?_
  exact p_finY q
theorem free_spec {ss : List Str} (hM : M[k]? = some (.ins "FreePaper" ["over", "statuses"] [Tx w, .tup (ss.map Tx)])) (hw : w.length ≤ 24) (hl : ss.length ≤ 20) (hs : ∀ s ∈ ss, s.length ≤ 24) (q : Q (Bo true) M) : P (F__law_free [.h k, Tx w, .tup (ss.map Tx)] M) E Q := by
  unfold F__law_free
  walk_at "def"
  unfold B__law_free
  walk_at "gw"
  refine p_isO (tyO_h hM (by decide)) rfl (b := true) (by decide +kernel) ?_
  walk_at "gw"
  refine p_isO (tyO_h hM (by decide)) rfl (b := false) (by decide +kernel) ?_
  walk_at "gw"
  refine p_fld (insOf_h hM) (by decide) rfl ?_
  walk_at "gw"
  refine p_fld (insOf_h hM) (by decide) rfl ?_
  walk_at "gw"
  refine p_neR (okEq_tup ss) ?_
  walk_at "gw"
  refine is_over_spec hM (by decide) rfl ?_
  walk_at "gw"
  refine ⟨by simp; omega, ?_⟩
  refine p_lcL (fun i acc M1 => acc = (((ss.take i).map stL).map Tx) ∧ M1 = M) ⟨rfl, rfl⟩ (fun _ _ _ _ => trivial) ?_ ?_
  · rintro i d ac M1 hd ⟨e1, e2⟩
    rw [e1, e2]
    obtain ⟨x, h1, h2, rfl⟩ := get_map hd
    have hx := hs x h2
    refine ⟨_, rfl, ?_⟩
    walk_at "gw"
    refine ⟨?_, rfl⟩
    rw [take_map h1, List.map_append]; rfl
  · rintro ac M1 ⟨e1, e2⟩
    rw [e1, e2]
    walk_at "gw"
    rw [List.length_map, List.take_length]
    refine p_addTx (xs := [ovL w]) (by simp; omega) ?_
    walk_at "gw"
    refine twice_spec (s0 := ovL w) (linesOk2 hM hw hl hs) (by simp; omega) ?_
    exact p_finY q
theorem unlike_spec {x y : D} {es fs : List En} (hM : M[k]? = some (.ins "UnlikePaper" ["over", "one", "two"] [Tx w, x, y])) (hw : w.length ≤ 24) (jx : Jn M x es) (jy : Jn M y fs) (ox : JOk es) (oy : JOk fs)
    (rx : resM M x = JD es) (ry : resM M y = JD fs) (tx : tyN M x = some "list") (ty : tyN M y = some "list") (q : Q (Bo true) M) : P (F__law_unlike [.h k, Tx w, JD es, JD fs] M) E Q := by
  have l1 := tl_len ox
  have l2 := tl_len oy
  unfold F__law_unlike
  walk_at "def"
  unfold B__law_unlike
  walk_at "gw"
  refine p_isO (tyO_h hM (by decide)) rfl (b := true) (by decide +kernel) ?_
  walk_at "gw"
  refine p_isO (tyO_h hM (by decide)) rfl (b := false) (by decide +kernel) ?_
  walk_at "gw"
  refine p_fld (insOf_h hM) (by decide) rfl ?_
  walk_at "gw"
  refine is_journal_spec rx tx ?_
  walk_at "gw"
  refine p_fld (insOf_h hM) (by decide) rfl ?_
  walk_at "gw"
  refine is_journal_spec ry ty ?_
  walk_at "gw"
  refine is_over_spec hM (by decide) rfl ?_
  walk_at "gw"
  refine law_unlike_lines_spec hw ox oy ?_
  walk_at "gw"
  refine twice_spec (s0 := ovL w) (linesOk3 hM hw jx jy ox oy) (by simp; omega) ?_
  exact p_finY q
end
/-! pots -/
theorem p_sumLs {M : Mem} {E : Exn → Mem → Prop} {Q : D → Mem → Prop} {n : Nat} {f : Nat → Int} (q : Q (I (Ls n f).sum) M) : P (gSum [.lst (Ls n fun i => I (f i))] M) E Q := p_sum rfl (by
  rw [show (Ls n fun i => I (f i)) = (Ls n f).map I from (Ls_map I).symm]
  exact intsOf_map) q
theorem fin_pd {M : Mem} {c s t : Int} {E : Exn → Mem → Prop} {Q : D → Mem → Prop} (q : Q (.h M.length) (M ++ [Pd c s t])) : P (finish .own M (M ++ [Pd c s t]) (.h M.length)) E Q :=
  p_finO (Nat.le_refl _) get_new ((CellsOk.refl M).app (Nat.le_refl _)) hb_pd (by simp) q
theorem pot_spec {ns : List Int} {place : Int} {M : Mem} {E : Exn → Mem → Prop} {Q : D → Mem → Prop} (p0 : 0 ≤ place) (hp : place ≤ 10) (q : ∀ c s t, Q (.h M.length) (M ++ [Pd c s t])) : P (F__law_pot [.ro (ns.map fun i => .v (.int i)), I place] M) E Q := by
  unfold F__law_pot
  walk_at "def"
  unfold B__law_pot
  walk_at "gos"
  rw [show (some (63 : Int)) = some ((63 : Nat) : Int) from rfl, cutG_hi, ← List.map_take]
  generalize hc : ns.take 63 = cs
  have hl : cs.length ≤ 63 := by subst hc; simp; omega
  refine ⟨by simp; omega, ?_⟩
  refine p_lcR (fun i => I (cs.getD i 0 % 1000003)) trivial ?_ ?_
  · intro i d hd
    rw [List.getElem?_map] at hd
    obtain ⟨c, h1, rfl⟩ := Option.map_eq_some_iff.mp hd
    refine ⟨_, rfl, ?_⟩
    walk_at "gos"
    exact ⟨by simp [List.getD, h1], rfl⟩
  · rw [List.length_map]
    walk_at "gos"
    refine p_sumLs ?_
    generalize (Ls cs.length fun i => cs.getD i 0 % 1000003).sum = sm
    walk_at "gos"
    · rename_i h
      refine p_ixS (d := I (ns.getD place.toNat 0)) rfl ?_ ?_
      · have e : (fun i => D.v (.int i)) = I := rfl
        rw [e]
        exact atI_mapI p0 h
      · walk_at "gos"
        all_goals exact fin_pd (q _ _ _)
    all_goals exact fin_pd (q _ _ _)
section
variable {M : Mem} {k : Nat} {c s t : Int} {E : Exn → Mem → Prop} {Q : D → Mem → Prop} {w : Nat → Str}
theorem journal_spec2 (hM : M[k]? = some (Pd c s t)) (hw : ∀ i, (w i).length ≤ 24) (q : ∀ es c s t, JOk es → es.length ≤ 50 → Q (JD es) (M.set k (Pd c s t))) :
    P (F__law_journal [.h k, .lst (Ls 6 fun i => Tx (w i))] M) E Q := by
  unfold F__law_journal
  walk_at "def"
  unfold B__law_journal
  refine s_seq (s_set (p_c ?_))
  refine s_seq ?_
  refine SP.cut (fun ρ M1 => ∃ (m c s t : Int), ρ = [some (.h k), some (.lst (Ls 6 fun i => Tx (w i))), some (I m), none] ∧ M1 = M.set k (Pd c s t) ∧ 0 < m ∧ m ≤ 41) ?_ ?_
  · walk_at "gd"
    · exact ⟨_, _, _, _, rfl, rfl, by omega, by omega⟩
    · exact ⟨_, _, _, _, rfl, rfl, by omega, by omega⟩
  rintro _ _ ⟨m, c, s, t, rfl, rfl, m0, m1⟩
  walk_at "gos"
  refine draw_spec (get_set hM) (by omega) (by omega) (fun n c s t n0 n1 => ?_)
  walk_at "gos"
  refine ⟨by omega, by rw [rangeD_len]; omega, ?_⟩
  refine p_lcL (fun i acc M1 => ∃ (es : List En) (c s t : Int), acc = es.map ED ∧ es.length = i ∧ (∀ x ∈ es, EnOk x) ∧ M1 = M.set k (Pd c s t)) ⟨[], c, s, t, rfl, rfl, by simp, rfl⟩ (fun _ _ _ _ => trivial) ?_ ?_
  · rintro i d _ _ hd ⟨es, c1, s1, t1, rfl, hl, hs, rfl⟩
    obtain ⟨rfl, hi⟩ := rangeD_get hd
    refine ⟨_, rfl, ?_⟩
    walk_at "gos"
    refine entry_spec (get_set hM) hw (fun e c s t he => ?_)
    exact ⟨es ++ [e], _, _, _, by rw [List.map_append]; rfl, by simp; omega, fun x hx => by
        rcases List.mem_append.mp hx with h8 | h8
        · exact hs x h8
        · rw [List.mem_singleton.mp h8]; exact he, by first | rw [List.set_set] | rfl⟩
  · rintro _ _ ⟨es, c1, s1, t1, rfl, hl, hs, rfl⟩
    rw [rangeD_len] at hl
    walk_at "gos"
    exact fin_d rfl (fun _ => hb_jd es) (q es _ _ _ ⟨by omega, hs⟩ (by omega))
end
section
variable {M : Mem} {k : Nat} {w : Str} {E : Exn → Mem → Prop} {Q : D → Mem → Prop}
theorem fin_set {d : D} {x : V} (h : hb M.length d = true) (q : Q (.v x) (M.set k d)) : P (finish .frz M (M.set k d) (.v x)) E Q := p_finZ ((CellsOk.refl M).set h) (by simp [List.take_set]) q
theorem order_init {C : Str} (hM : M[k]? = some (.ins C [] [])) (hC : Cs3.contains C = true) (q : Q No (M.set k (.ins C ["over"] [Tx w]))) : P (F_OrderPaper___init__ [.h k, Tx w] M) E Q := by
  unfold F_OrderPaper___init__
  walk_at "def"
  unfold B_OrderPaper___init__
  walk_at "gw"
  refine p_put hM hC (by simp) ?_
  exact fin_set (by simp [putD, hb, hbs]) q
theorem free_init {d : D} (hM : M[k]? = some (.ins "FreePaper" [] [])) (hd : hb M.length d = true) (q : Q No (M.set k (.ins "FreePaper" ["over", "statuses"] [Tx w, d]))) : P (F_FreePaper___init__ [.h k, Tx w, d] M) E Q := by
  unfold F_FreePaper___init__
  walk_at "def"
  unfold B_FreePaper___init__
  refine s_seq (s_expr (p_sup rfl (insOf_h hM) ?_))
  walk_at "gw"
  refine order_init hM (by decide) ?_
  walk_at "gw"
  refine p_put (get_set hM) (by decide) (by simp) ?_
  rw [List.set_set]
  exact fin_set (by show hb M.length (.ins _ _ [Tx w, d]) = true; simp [hb, hbs, hd]) q
theorem unlike_init {x y : D} (hM : M[k]? = some (.ins "UnlikePaper" [] [])) (hx : hb M.length x = true) (hy : hb M.length y = true) (q : Q No (M.set k (.ins "UnlikePaper" ["over", "one", "two"] [Tx w, x, y]))) : P (F_UnlikePaper___init__ [.h k, Tx w, x, y] M) E Q := by
  unfold F_UnlikePaper___init__
  walk_at "def"
  unfold B_UnlikePaper___init__
  refine s_seq (s_expr (p_sup rfl (insOf_h hM) ?_))
  walk_at "gw"
  refine order_init hM (by decide) ?_
  walk_at "gw"
  refine p_put (get_set hM) (by decide) (by simp) ?_
  rw [List.set_set]
  walk_at "gw"
  refine p_put (get_set hM) (by decide) (by decide) ?_
  rw [List.set_set]
  exact fin_set (by show hb M.length (.ins _ _ [Tx w, x, y]) = true; simp [hb, hbs, hx, hy]) q
end
local macro_rules | `(tactic| walk_at "nrm") => `(tactic| try dsimp only [List.set_cons_zero, List.set_cons_succ, List.length_cons, List.length_nil, List.cons_append, List.nil_append, Nat.reduceAdd])
theorem law_true (ns : List Int) (hl : ns.length ≤ 63) : ∃ M, F_law [.ro (ns.map fun i => .v (.int i))] [] = .ok (.v (.bl true)) M := by
  suffices h : P (F_law [.ro (ns.map fun i => .v (.int i))] []) NoE fun d _ => d = Bo true by
    obtain ⟨d, M, e, rfl⟩ := h.ok
    exact ⟨M, e⟩
  unfold F_law
  walk_at "def"
  unfold B_law
  walk_at "gw"
  refine pot_spec (by omega) (by omega) (fun c s t => ?_)
  walk_at "gw"
  refine names_spec (fun ws c s t hl6 hw => ?_)
  have ew : ws.map Tx = Ls 6 fun i => Tx (ws.getD i "") := by
    have h := congrArg (List.map Tx) (Ls_list (xs := ws) "")
    rw [Ls_map, hl6] at h
    exact h
  have hw' : ∀ i, (ws.getD i "").length ≤ 24 := fun i => by
    by_cases hi : i < ws.length
    · rw [List.getD_eq_getElem?_getD, List.getElem?_eq_getElem hi]
      exact hw _ (List.getElem_mem hi)
    · rw [List.getD_eq_getElem?_getD, List.getElem?_eq_none (by omega)]
      exact Nat.zero_le _
  rw [ew]
  clear ew hw hl6
  generalize (fun i => ws.getD i "") = w at *
  walk_at "gw"
  refine pot_spec (by omega) (by omega) (fun c s t => ?_)
  walk_at "gw"
  refine over_spec rfl (fun w0 c s t hw0 => ?_)
  walk_at "gw"
  refine over_spec rfl (fun w1 c s t hw1 => ?_)
  walk_at "gw"
  refine over_spec rfl (fun w2 c s t hw2 => ?_)
  walk_at "gw"
  refine statuses_spec rfl hw' (fun s1 c s t hs1 hm1 => ?_)
  walk_at "gw"
  refine statuses_spec rfl hw' (fun s2 c s t hs2 hm2 => ?_)
  walk_at "gw"
  refine pot_spec (by omega) (by omega) (fun c s t => ?_)
  walk_at "gw"
  refine journal_spec2 rfl hw' (fun es c s t oe le => ?_)
  walk_at "gw"
  refine pot_spec (by omega) (by omega) (fun c s t => ?_)
  walk_at "gw"
  refine journal_spec2 rfl hw' (fun fs c s t of lf => ?_)
  walk_at "gw"
  walk_at "nrm"
  refine p_listH (ds := es.map ED) rfl ?_
  walk_at "nrm"
  walk_at "gw"
  walk_at "nrm"
  refine p_listH (ds := fs.map ED) rfl ?_
  walk_at "nrm"
  walk_at "gw"
  walk_at "nrm"
  refine order_init rfl (by decide) ?_
  refine ⟨rfl, ?_⟩
  walk_at "nrm"
  walk_at "gw"
  walk_at "nrm"
  refine free_init rfl (by unfold hb; exact hbs_tx _) ?_
  refine ⟨rfl, ?_⟩
  walk_at "nrm"
  walk_at "gw"
  walk_at "nrm"
  refine unlike_init rfl (by simp [hb]) (by simp [hb]) ?_
  refine ⟨rfl, ?_⟩
  walk_at "nrm"
  walk_at "gw"
  walk_at "nrm"
  refine plain_spec rfl hw0 ?_
  walk_at "gw"
  walk_at "nrm"
  refine free_spec rfl hw1 (by omega) hm1 ?_
  walk_at "gw"
  walk_at "nrm"
  refine unlike_spec rfl hw2 (jn_h rfl) (jn_h rfl) oe of rfl rfl rfl rfl ?_
  walk_at "gw"
  walk_at "nrm"
  refine free_init rfl (by unfold hb; exact hbs_tx _) ?_
  refine ⟨rfl, ?_⟩
  walk_at "nrm"
  walk_at "gw"
  walk_at "nrm"
  refine free_spec rfl hw0 (by omega) hm2 ?_
  walk_at "gw"
  walk_at "nrm"
  refine unlike_init rfl (hb_jd fs) (hb_jd es) ?_
  refine ⟨rfl, ?_⟩
  walk_at "nrm"
  walk_at "gw"
  walk_at "nrm"
  refine unlike_spec rfl hw1 jn_lst jn_lst of oe rfl rfl rfl rfl ?_
  walk_at "gw"
  walk_at "nrm"
  refine entry_spec rfl hw' (fun e1 c s t o1 => ?_)
  walk_at "nrm"
  walk_at "gw"
  walk_at "nrm"
  refine entry_spec rfl hw' (fun e2 c s t o2 => ?_)
  walk_at "nrm"
  walk_at "gw"
  walk_at "nrm"
  have c1 : cutG [ED e1, ED e2] none (some 1) = [e1].map ED := rfl
  have c2 : cutG [ED e1, ED e2] (some 1) none = [e2].map ED := rfl
  have m1 : es.map ED ++ [ED e1] = (es ++ [e1]).map ED := by rw [List.map_append]; rfl
  have m2 : fs.map ED ++ [ED e2] = (fs ++ [e2]).map ED := by rw [List.map_append]; rfl
  have oe1 : JOk (es ++ [e1]) := ⟨by simp; omega, fun e he => by
    rcases List.mem_append.mp he with h | h
    · exact oe.2 _ h
    · rw [List.mem_singleton.mp h]; exact o1⟩
  have of1 : JOk (fs ++ [e2]) := ⟨by simp; omega, fun e he => by
    rcases List.mem_append.mp he with h | h
    · exact of.2 _ h
    · rw [List.mem_singleton.mp h]; exact o2⟩
  rw [m1, m2, c1]
  refine p_addE (xs := es) (ys := [e1]) (by simp; omega) ?_
  walk_at "gw"
  rw [c2]
  refine p_addE (xs := fs) (ys := [e2]) (by simp; omega) ?_
  walk_at "gw"
  refine unlike_spec (x := .h 4) (y := .h 5) (es := es ++ [e1]) (fs := fs ++ [e2]) rfl hw2 (jn_h rfl) (jn_h rfl) oe1 of1 rfl rfl rfl rfl ?_
  walk_at "gw"
  rw [c1]
  refine p_addE (xs := es) (ys := [e1]) (by simp; omega) ?_
  refine p_neJ (x := .h 4) rfl ?_
  walk_at "gw"
  rw [c2]
  refine p_addE (xs := fs) (ys := [e2]) (by simp; omega) ?_
  refine p_neJ (x := .h 5) rfl ?_
  walk_at "gw"
  refine plain_spec rfl hw0 ?_
  walk_at "gw"
  refine free_spec rfl hw1 (by omega) hm1 ?_
  exact p_finZ (CellsOk.app (CellsOk.refl []) (L := _) (Nat.le_refl _)) rfl rfl
end Law
set_option Elab.async false
set_option maxRecDepth 100000
set_option maxHeartbeats 4000000
namespace Law
open PySem PySem.Spec PyProof.Rows L2 DL
/-- what the top has left -/
structure Tx (P : Program) (K : PySem.W.Frag) (mg : Str → Option Value) where
  a__law_draw : Addr
  d__law_draw : FuncData
  f__law_draw : Fun K "_law_draw" "_law_draw" s__law_draw a__law_draw d__law_draw
  m__law_draw : mg "_law_draw" = some (.ref a__law_draw)
  b__law_draw : Binds K d__law_draw ["pot", "size"] []
  a__law_word : Addr
  d__law_word : FuncData
  f__law_word : Fun K "_law_word" "_law_word" s__law_word a__law_word d__law_word
  m__law_word : mg "_law_word" = some (.ref a__law_word)
  b__law_word : Binds K d__law_word ["pot", "size"] []
  a__law_bumped : Addr
  d__law_bumped : FuncData
  f__law_bumped : Fun K "_law_bumped" "_law_bumped" s__law_bumped a__law_bumped d__law_bumped
  m__law_bumped : mg "_law_bumped" = some (.ref a__law_bumped)
  b__law_bumped : Binds K d__law_bumped ["word", "names"] []
  a__law_names : Addr
  d__law_names : FuncData
  f__law_names : Fun K "_law_names" "_law_names" s__law_names a__law_names d__law_names
  m__law_names : mg "_law_names" = some (.ref a__law_names)
  b__law_names : Binds K d__law_names ["pot", "count"] []
  a__law_pot : Addr
  d__law_pot : FuncData
  f__law_pot : Fun K "_law_pot" "_law_pot" s__law_pot a__law_pot d__law_pot
  m__law_pot : mg "_law_pot" = some (.ref a__law_pot)
  b__law_pot : Binds K d__law_pot ["script", "place"] []
  a__law_ident : Addr
  d__law_ident : FuncData
  f__law_ident : Fun K "_law_ident" "_law_ident" s__law_ident a__law_ident d__law_ident
  m__law_ident : mg "_law_ident" = some (.ref a__law_ident)
  b__law_ident : Binds K d__law_ident ["pot"] []
  a__law_version : Addr
  d__law_version : FuncData
  f__law_version : Fun K "_law_version" "_law_version" s__law_version a__law_version d__law_version
  m__law_version : mg "_law_version" = some (.ref a__law_version)
  b__law_version : Binds K d__law_version ["pot"] []
  a__law_some : Addr
  d__law_some : FuncData
  f__law_some : Fun K "_law_some" "_law_some" s__law_some a__law_some d__law_some
  m__law_some : mg "_law_some" = some (.ref a__law_some)
  b__law_some : Binds K d__law_some ["pot", "names"] []
  a__law_cause : Addr
  d__law_cause : FuncData
  f__law_cause : Fun K "_law_cause" "_law_cause" s__law_cause a__law_cause d__law_cause
  m__law_cause : mg "_law_cause" = some (.ref a__law_cause)
  b__law_cause : Binds K d__law_cause ["pot", "names"] []
  a__law_stretch : Addr
  d__law_stretch : FuncData
  f__law_stretch : Fun K "_law_stretch" "_law_stretch" s__law_stretch a__law_stretch d__law_stretch
  m__law_stretch : mg "_law_stretch" = some (.ref a__law_stretch)
  b__law_stretch : Binds K d__law_stretch ["pot"] []
  a__law_content : Addr
  d__law_content : FuncData
  f__law_content : Fun K "_law_content" "_law_content" s__law_content a__law_content d__law_content
  m__law_content : mg "_law_content" = some (.ref a__law_content)
  b__law_content : Binds K d__law_content ["pot", "names"] []
  a__law_note : Addr
  d__law_note : FuncData
  f__law_note : Fun K "_law_note" "_law_note" s__law_note a__law_note d__law_note
  m__law_note : mg "_law_note" = some (.ref a__law_note)
  b__law_note : Binds K d__law_note ["pot", "names"] []
  a__law_entry : Addr
  d__law_entry : FuncData
  f__law_entry : Fun K "_law_entry" "_law_entry" s__law_entry a__law_entry d__law_entry
  m__law_entry : mg "_law_entry" = some (.ref a__law_entry)
  b__law_entry : Binds K d__law_entry ["pot", "names"] []
  a__law_journal : Addr
  d__law_journal : FuncData
  f__law_journal : Fun K "_law_journal" "_law_journal" s__law_journal a__law_journal d__law_journal
  m__law_journal : mg "_law_journal" = some (.ref a__law_journal)
  b__law_journal : Binds K d__law_journal ["pot", "names"] []
  a_OrderPaper___init__ : Addr
  d_OrderPaper___init__ : FuncData
  f_OrderPaper___init__ : Fun K "__init__" "OrderPaper.__init__" s_OrderPaper___init__ a_OrderPaper___init__ d_OrderPaper___init__
  b_OrderPaper___init__ : Binds K d_OrderPaper___init__ ["self", "over"] []
  a_FreePaper___init__ : Addr
  d_FreePaper___init__ : FuncData
  cc_FreePaper___init__ : Addr
  f_FreePaper___init__ : FunS P K "__init__" "FreePaper.__init__" s_FreePaper___init__ a_FreePaper___init__ d_FreePaper___init__ cc_FreePaper___init__ (clsA K "FreePaper") (clsA K "OrderPaper") "self"
  b_FreePaper___init__ : Binds K d_FreePaper___init__ ["self", "over", "statuses"] []
  a_UnlikePaper___init__ : Addr
  d_UnlikePaper___init__ : FuncData
  cc_UnlikePaper___init__ : Addr
  f_UnlikePaper___init__ : FunS P K "__init__" "UnlikePaper.__init__" s_UnlikePaper___init__ a_UnlikePaper___init__ d_UnlikePaper___init__ cc_UnlikePaper___init__ (clsA K "UnlikePaper") (clsA K "OrderPaper") "self"
  b_UnlikePaper___init__ : Binds K d_UnlikePaper___init__ ["self", "over", "one", "two"] []
  a__law_over : Addr
  d__law_over : FuncData
  f__law_over : Fun K "_law_over" "_law_over" s__law_over a__law_over d__law_over
  m__law_over : mg "_law_over" = some (.ref a__law_over)
  b__law_over : Binds K d__law_over ["pot"] []
  a__law_statuses : Addr
  d__law_statuses : FuncData
  f__law_statuses : Fun K "_law_statuses" "_law_statuses" s__law_statuses a__law_statuses d__law_statuses
  m__law_statuses : mg "_law_statuses" = some (.ref a__law_statuses)
  b__law_statuses : Binds K d__law_statuses ["pot", "names"] []
  a_OrderPaper_lines : Addr
  d_OrderPaper_lines : FuncData
  f_OrderPaper_lines : Fun K "lines" "OrderPaper.lines" s_OrderPaper_lines a_OrderPaper_lines d_OrderPaper_lines
  b_OrderPaper_lines : Binds K d_OrderPaper_lines ["self"] []
  a_FreePaper_lines : Addr
  d_FreePaper_lines : FuncData
  cc_FreePaper_lines : Addr
  f_FreePaper_lines : FunS P K "lines" "FreePaper.lines" s_FreePaper_lines a_FreePaper_lines d_FreePaper_lines cc_FreePaper_lines (clsA K "FreePaper") (clsA K "OrderPaper") "self"
  b_FreePaper_lines : Binds K d_FreePaper_lines ["self"] []
  a_content_words : Addr
  d_content_words : FuncData
  f_content_words : Fun K "content_words" "content_words" s_content_words a_content_words d_content_words
  m_content_words : mg "content_words" = some (.ref a_content_words)
  b_content_words : Binds K d_content_words ["content"] []
  a_note_line : Addr
  d_note_line : FuncData
  f_note_line : Fun K "note_line" "note_line" s_note_line a_note_line d_note_line
  m_note_line : mg "note_line" = some (.ref a_note_line)
  b_note_line : Binds K d_note_line ["note"] []
  a__entry_lines : Addr
  d__entry_lines : FuncData
  f__entry_lines : Fun K "_entry_lines" "_entry_lines" s__entry_lines a__entry_lines d__entry_lines
  m__entry_lines : mg "_entry_lines" = some (.ref a__entry_lines)
  b__entry_lines : Binds K d__entry_lines ["journal"] []
  a_UnlikePaper_lines : Addr
  d_UnlikePaper_lines : FuncData
  cc_UnlikePaper_lines : Addr
  f_UnlikePaper_lines : FunS P K "lines" "UnlikePaper.lines" s_UnlikePaper_lines a_UnlikePaper_lines d_UnlikePaper_lines cc_UnlikePaper_lines (clsA K "UnlikePaper") (clsA K "OrderPaper") "self"
  b_UnlikePaper_lines : Binds K d_UnlikePaper_lines ["self"] []
  a__law_same : Addr
  d__law_same : FuncData
  f__law_same : Fun K "_law_same" "_law_same" s__law_same a__law_same d__law_same
  m__law_same : mg "_law_same" = some (.ref a__law_same)
  b__law_same : Binds K d__law_same ["told", "due"] []
  a__law_twice : Addr
  d__law_twice : FuncData
  f__law_twice : Fun K "_law_twice" "_law_twice" s__law_twice a__law_twice d__law_twice
  m__law_twice : mg "_law_twice" = some (.ref a__law_twice)
  b__law_twice : Binds K d__law_twice ["paper", "due"] []
  a__law_is_over : Addr
  d__law_is_over : FuncData
  f__law_is_over : Fun K "_law_is_over" "_law_is_over" s__law_is_over a__law_is_over d__law_is_over
  m__law_is_over : mg "_law_is_over" = some (.ref a__law_is_over)
  b__law_is_over : Binds K d__law_is_over ["paper", "word"] []
  a__law_written : Addr
  d__law_written : FuncData
  f__law_written : Fun K "_law_written" "_law_written" s__law_written a__law_written d__law_written
  m__law_written : mg "_law_written" = some (.ref a__law_written)
  b__law_written : Binds K d__law_written ["note"] []
  a__law_entries : Addr
  d__law_entries : FuncData
  f__law_entries : Fun K "_law_entries" "_law_entries" s__law_entries a__law_entries d__law_entries
  m__law_entries : mg "_law_entries" = some (.ref a__law_entries)
  b__law_entries : Binds K d__law_entries ["journal"] []
  a__law_unlike_lines : Addr
  d__law_unlike_lines : FuncData
  f__law_unlike_lines : Fun K "_law_unlike_lines" "_law_unlike_lines" s__law_unlike_lines a__law_unlike_lines d__law_unlike_lines
  m__law_unlike_lines : mg "_law_unlike_lines" = some (.ref a__law_unlike_lines)
  b__law_unlike_lines : Binds K d__law_unlike_lines ["word", "first", "second"] []
  a__law_is_journal : Addr
  d__law_is_journal : FuncData
  f__law_is_journal : Fun K "_law_is_journal" "_law_is_journal" s__law_is_journal a__law_is_journal d__law_is_journal
  m__law_is_journal : mg "_law_is_journal" = some (.ref a__law_is_journal)
  b__law_is_journal : Binds K d__law_is_journal ["told", "journal"] []
  a__law_unlike : Addr
  d__law_unlike : FuncData
  f__law_unlike : Fun K "_law_unlike" "_law_unlike" s__law_unlike a__law_unlike d__law_unlike
  m__law_unlike : mg "_law_unlike" = some (.ref a__law_unlike)
  b__law_unlike : Binds K d__law_unlike ["paper", "word", "first", "second"] []
  a__law_free : Addr
  d__law_free : FuncData
  f__law_free : Fun K "_law_free" "_law_free" s__law_free a__law_free d__law_free
  m__law_free : mg "_law_free" = some (.ref a__law_free)
  b__law_free : Binds K d__law_free ["paper", "word", "statuses"] []
  a__law_plain : Addr
  d__law_plain : FuncData
  f__law_plain : Fun K "_law_plain" "_law_plain" s__law_plain a__law_plain d__law_plain
  m__law_plain : mg "_law_plain" = some (.ref a__law_plain)
  b__law_plain : Binds K d__law_plain ["paper", "word"] []
  a_law : Addr
  d_law : FuncData
  f_law : Fun K "law" "law" s_law a_law d_law
  n_int : mg "int" = none
  n_isinstance : mg "isinstance" = none
  n_len : mg "len" = none
  n_list : mg "list" = none
  n_range : mg "range" = none
  n_sorted : mg "sorted" = none
  n_str : mg "str" = none
  n_sum : mg "sum" = none
  n_super : mg "super" = none
  n_tuple : mg "tuple" = none
  t__NOTHING : Tok
  g__NOTHING : mg "_NOTHING" = some (.str "-" t__NOTHING)
  t__STRUCK : Tok
  g__STRUCK : mg "_STRUCK" = some (.str "struck" t__STRUCK)
  cl_FreePaper : Cls K (clsA K "FreePaper")
  cl_OrderPaper : Cls K (clsA K "OrderPaper")
  cl_UnlikePaper : Cls K (clsA K "UnlikePaper")
  mc_FreePaper : mg "FreePaper" = some (.ref (clsA K "FreePaper"))
  mc_OrderPaper : mg "OrderPaper" = some (.ref (clsA K "OrderPaper"))
  mc_UnlikePaper : mg "UnlikePaper" = some (.ref (clsA K "UnlikePaper"))
  mk_FreePaper : Mk K (clsA K "FreePaper") a_FreePaper___init__
  mk_OrderPaper : Mk K (clsA K "OrderPaper") a_OrderPaper___init__
  mk_UnlikePaper : Mk K (clsA K "UnlikePaper") a_UnlikePaper___init__
  ma_FreePaper_lines : Meth K (clsA K "FreePaper") "lines" a_FreePaper_lines
  ma_OrderPaper_lines : Meth K (clsA K "OrderPaper") "lines" a_OrderPaper_lines
  ma_UnlikePaper_lines : Meth K (clsA K "UnlikePaper") "lines" a_UnlikePaper_lines
  fo_one : FldOk K ["UnlikePaper"] "one"
  fo_over : FldOk K ["OrderPaper", "FreePaper", "UnlikePaper"] "over"
  fo_statuses : FldOk K ["FreePaper"] "statuses"
  fo_two : FldOk K ["UnlikePaper"] "two"
  su_OrderPaper___init__ : SupM K (clsA K "OrderPaper") "__init__" a_OrderPaper___init__
  su_OrderPaper_lines : SupM K (clsA K "OrderPaper") "lines" a_OrderPaper_lines
  is_ : IsTabOk K isCs isTab
theorem Tx.k__law_draw {P : Program} {K : PySem.W.Frag} {mg : Str → Option Value} (T : Tx P K mg) : PySem.W.keepIn K (.ref T.a__law_draw) = true := T.f__law_draw.kp
theorem Tx.k__law_word {P : Program} {K : PySem.W.Frag} {mg : Str → Option Value} (T : Tx P K mg) : PySem.W.keepIn K (.ref T.a__law_word) = true := T.f__law_word.kp
theorem Tx.k__law_bumped {P : Program} {K : PySem.W.Frag} {mg : Str → Option Value} (T : Tx P K mg) : PySem.W.keepIn K (.ref T.a__law_bumped) = true := T.f__law_bumped.kp
theorem Tx.k__law_names {P : Program} {K : PySem.W.Frag} {mg : Str → Option Value} (T : Tx P K mg) : PySem.W.keepIn K (.ref T.a__law_names) = true := T.f__law_names.kp
theorem Tx.k__law_pot {P : Program} {K : PySem.W.Frag} {mg : Str → Option Value} (T : Tx P K mg) : PySem.W.keepIn K (.ref T.a__law_pot) = true := T.f__law_pot.kp
theorem Tx.k__law_ident {P : Program} {K : PySem.W.Frag} {mg : Str → Option Value} (T : Tx P K mg) : PySem.W.keepIn K (.ref T.a__law_ident) = true := T.f__law_ident.kp
theorem Tx.k__law_version {P : Program} {K : PySem.W.Frag} {mg : Str → Option Value} (T : Tx P K mg) : PySem.W.keepIn K (.ref T.a__law_version) = true := T.f__law_version.kp
theorem Tx.k__law_some {P : Program} {K : PySem.W.Frag} {mg : Str → Option Value} (T : Tx P K mg) : PySem.W.keepIn K (.ref T.a__law_some) = true := T.f__law_some.kp
theorem Tx.k__law_cause {P : Program} {K : PySem.W.Frag} {mg : Str → Option Value} (T : Tx P K mg) : PySem.W.keepIn K (.ref T.a__law_cause) = true := T.f__law_cause.kp
theorem Tx.k__law_stretch {P : Program} {K : PySem.W.Frag} {mg : Str → Option Value} (T : Tx P K mg) : PySem.W.keepIn K (.ref T.a__law_stretch) = true := T.f__law_stretch.kp
theorem Tx.k__law_content {P : Program} {K : PySem.W.Frag} {mg : Str → Option Value} (T : Tx P K mg) : PySem.W.keepIn K (.ref T.a__law_content) = true := T.f__law_content.kp
theorem Tx.k__law_note {P : Program} {K : PySem.W.Frag} {mg : Str → Option Value} (T : Tx P K mg) : PySem.W.keepIn K (.ref T.a__law_note) = true := T.f__law_note.kp
theorem Tx.k__law_entry {P : Program} {K : PySem.W.Frag} {mg : Str → Option Value} (T : Tx P K mg) : PySem.W.keepIn K (.ref T.a__law_entry) = true := T.f__law_entry.kp
theorem Tx.k__law_journal {P : Program} {K : PySem.W.Frag} {mg : Str → Option Value} (T : Tx P K mg) : PySem.W.keepIn K (.ref T.a__law_journal) = true := T.f__law_journal.kp
theorem Tx.k__law_over {P : Program} {K : PySem.W.Frag} {mg : Str → Option Value} (T : Tx P K mg) : PySem.W.keepIn K (.ref T.a__law_over) = true := T.f__law_over.kp
theorem Tx.k__law_statuses {P : Program} {K : PySem.W.Frag} {mg : Str → Option Value} (T : Tx P K mg) : PySem.W.keepIn K (.ref T.a__law_statuses) = true := T.f__law_statuses.kp
theorem Tx.k_content_words {P : Program} {K : PySem.W.Frag} {mg : Str → Option Value} (T : Tx P K mg) : PySem.W.keepIn K (.ref T.a_content_words) = true := T.f_content_words.kp
theorem Tx.k_note_line {P : Program} {K : PySem.W.Frag} {mg : Str → Option Value} (T : Tx P K mg) : PySem.W.keepIn K (.ref T.a_note_line) = true := T.f_note_line.kp
theorem Tx.k__entry_lines {P : Program} {K : PySem.W.Frag} {mg : Str → Option Value} (T : Tx P K mg) : PySem.W.keepIn K (.ref T.a__entry_lines) = true := T.f__entry_lines.kp
theorem Tx.k__law_same {P : Program} {K : PySem.W.Frag} {mg : Str → Option Value} (T : Tx P K mg) : PySem.W.keepIn K (.ref T.a__law_same) = true := T.f__law_same.kp
theorem Tx.k__law_twice {P : Program} {K : PySem.W.Frag} {mg : Str → Option Value} (T : Tx P K mg) : PySem.W.keepIn K (.ref T.a__law_twice) = true := T.f__law_twice.kp
theorem Tx.k__law_is_over {P : Program} {K : PySem.W.Frag} {mg : Str → Option Value} (T : Tx P K mg) : PySem.W.keepIn K (.ref T.a__law_is_over) = true := T.f__law_is_over.kp
theorem Tx.k__law_written {P : Program} {K : PySem.W.Frag} {mg : Str → Option Value} (T : Tx P K mg) : PySem.W.keepIn K (.ref T.a__law_written) = true := T.f__law_written.kp
theorem Tx.k__law_entries {P : Program} {K : PySem.W.Frag} {mg : Str → Option Value} (T : Tx P K mg) : PySem.W.keepIn K (.ref T.a__law_entries) = true := T.f__law_entries.kp
theorem Tx.k__law_unlike_lines {P : Program} {K : PySem.W.Frag} {mg : Str → Option Value} (T : Tx P K mg) : PySem.W.keepIn K (.ref T.a__law_unlike_lines) = true := T.f__law_unlike_lines.kp
theorem Tx.k__law_is_journal {P : Program} {K : PySem.W.Frag} {mg : Str → Option Value} (T : Tx P K mg) : PySem.W.keepIn K (.ref T.a__law_is_journal) = true := T.f__law_is_journal.kp
theorem Tx.k__law_unlike {P : Program} {K : PySem.W.Frag} {mg : Str → Option Value} (T : Tx P K mg) : PySem.W.keepIn K (.ref T.a__law_unlike) = true := T.f__law_unlike.kp
theorem Tx.k__law_free {P : Program} {K : PySem.W.Frag} {mg : Str → Option Value} (T : Tx P K mg) : PySem.W.keepIn K (.ref T.a__law_free) = true := T.f__law_free.kp
theorem Tx.k__law_plain {P : Program} {K : PySem.W.Frag} {mg : Str → Option Value} (T : Tx P K mg) : PySem.W.keepIn K (.ref T.a__law_plain) = true := T.f__law_plain.kp
section
variable {P : Program} {w : World} {K : PySem.W.Frag} {mg : Str → Option Value} {base : Heap}
theorem ok__law_draw (T : Tx P K mg) : FnOk P w K mg base (L2.CX P w) 1 T.a__law_draw T.d__law_draw ["pot", "size"] (spOf K 2 (runF .frz 2 4 B__law_draw)) := by
  refine fn_body (N := N__law_draw) (k := 0) .frz T.f__law_draw sc__law_draw fun cdv A outer s H E hr => ?_
  have hu := hu65 hr
  have nd := sc__law_draw.nd
  have tk := tk_of (P := P) (w := w) (K := K) (mg := mg) (base := base) (N := N__law_draw) (qual := "_law_draw") (sc := defScope s__law_draw) (f := T.a__law_draw) (cdv := cdv) (A := A) (outer := outer) (s := s) (H := H) (E := E)
  exact (sds_cons (sd_if (pdb_gt (pd_ix ix_seq dr_ix (pd_var 0) pd_int) pd_int)
  (sds_cons (sd_set nd (pd_mod (pd_intOf T.n_int (pds_cons (pd_ix ix_seq dr_ix (pd_var 0) pd_int) pds_nil)) (pd_var 1)))
  (sds_cons (sd_store (pd_var 0) pd_int (pd_div (pd_intOf T.n_int (pds_cons (pd_ix ix_seq dr_ix (pd_var 0) pd_int) pds_nil)) (pd_var 1)))
  (sds_one (sd_ret (pd_var 2)))))
  sds_nil)
  (sds_cons (sd_store (pd_var 0) pd_int (pd_add (pd_ix ix_seq dr_ix (pd_var 0) pd_int) pd_int))
  (sds_cons (sd_set nd (pd_mod (pd_intOf T.n_int (pds_cons (pd_add (pd_ix ix_seq dr_ix (pd_var 0) pd_int) (pd_mul pd_int (pd_ix ix_seq dr_ix (pd_var 0) pd_int))) pds_nil)) pd_int))
  (sds_cons (sd_set nd (pd_mod (pd_intOf T.n_int (pds_cons (pd_add (pd_add (pd_mul (pd_var 3) (pd_var 3)) (pd_mul pd_int (pd_ix ix_seq dr_ix (pd_var 0) pd_int))) (pd_ix ix_seq dr_ix (pd_var 0) pd_int)) pds_nil)) pd_int))
  (sds_cons (sd_set nd (pd_mod (pd_intOf T.n_int (pds_cons (pd_add (pd_mul (pd_var 3) pd_int) (pd_mul pd_int (pd_ix ix_seq dr_ix (pd_var 0) pd_int))) pds_nil)) pd_int))
  (sds_cons (sd_set nd (pd_mod (pd_intOf T.n_int (pds_cons (pd_add (pd_mul (pd_var 3) (pd_var 3)) (pd_ix ix_seq dr_ix (pd_var 0) pd_int)) pds_nil)) pd_int))
  (sds_one (sd_ret (pd_mod (pd_intOf T.n_int (pds_cons (pd_div (pd_var 3) pd_int) pds_nil)) (pd_var 1))))))))))
theorem ok__law_word (T : Tx P K mg) : FnOk P w K mg base (L2.CX P w) 2 T.a__law_word T.d__law_word ["pot", "size"] (spOf K 2 (runF .frz 2 4 B__law_word)) := by
  refine fn_body (N := N__law_word) (k := 1) .frz T.f__law_word sc__law_word fun cdv A outer s H E hr => ?_
  have hu := hu65 hr
  have nd := sc__law_word.nd
  have tk := tk_of (P := P) (w := w) (K := K) (mg := mg) (base := base) (N := N__law_word) (qual := "_law_word") (sc := defScope s__law_word) (f := T.a__law_word) (cdv := cdv) (A := A) (outer := outer) (s := s) (H := H) (E := E)
  exact (sds_cons (sd_set nd pd_str)
  (sds_one (sd_ret (pd_bm PySem.F.plainAttrs_str PySem.F.slot_str_join PySem.F.type_str_join mt_join dr_join pd_str (pds_cons (pd_lc mkV_ok [("k", 3)] rfl nd (pid_range1 T.n_range (pds_cons (pd_var 1) pds_nil)) (blkOk_by (N := N__law_word) (sc := defScope s__law_word) (by decide +kernel)) (fun _ _ _ _ _ => (pgd_nm nd)) (fun _ _ _ _ _ => pdbs_nil) (fun _ _ _ _ _ => (pd_ix ix_seq dr_ix (pd_var 2) (pd_call takes0 (ok__law_draw T) (hr.mono (by decide)) T.m__law_draw T.k__law_draw T.b__law_draw (pds_cons (pd_var 0) (pds_cons pd_int pds_nil)))))) pds_nil)))))
theorem ok__law_bumped (T : Tx P K mg) : FnOk P w K mg base (L2.CX P w) 1 T.a__law_bumped T.d__law_bumped ["word", "names"] (spOf K 2 (runF .frz 2 4 B__law_bumped)) := by
  refine fn_body (N := N__law_bumped) (k := 0) .frz T.f__law_bumped sc__law_bumped fun cdv A outer s H E hr => ?_
  have hu := hu65 hr
  have nd := sc__law_bumped.nd
  have tk := tk_of (P := P) (w := w) (K := K) (mg := mg) (base := base) (N := N__law_bumped) (qual := "_law_bumped") (sc := defScope s__law_bumped) (f := T.a__law_bumped) (cdv := cdv) (A := A) (outer := outer) (s := s) (H := H) (E := E)
  exact (sds_cons (sd_set nd pd_str)
  (sds_cons (sd_for (passes_of rfl) rfl (pid_range1 T.n_range (pds_cons (pd_len T.n_len (pds_cons (pd_var 1) pds_nil)) pds_nil)) (pgd_nm nd)
  (sds_one (sd_if (pdb_in hu (pd_var 0) (pd_var 1))
  (sds_one (sd_set nd (pd_add (pd_slice (pd_var 0) pdo_no (pdo_some (pd_neg pd_int))) (pd_ix ix_seq dr_ix (pd_var 2) (pd_mod (pd_intOf T.n_int (pds_cons (pd_add (pd_bm PySem.F.plainAttrs_str PySem.F.slot_str_find PySem.F.type_str_find mt_find (dr_S1 fun _ _ => rfl) (pd_var 2) (pds_cons (pd_ix ix_seq dr_ix (pd_var 0) (pd_neg pd_int)) pds_nil)) pd_int) pds_nil)) pd_int)))))
  sds_nil)))
  (sds_one (sd_ret (pd_var 0)))))
theorem ok__law_names (T : Tx P K mg) : FnOk P w K mg base (L2.CX P w) 3 T.a__law_names T.d__law_names ["pot", "count"] (spOf K 2 (runF .frz 2 11 B__law_names)) := by
  refine fn_body (N := N__law_names) (k := 2) .frz T.f__law_names sc__law_names fun cdv A outer s H E hr => ?_
  have hu := hu65 hr
  have nd := sc__law_names.nd
  have tk := tk_of (P := P) (w := w) (K := K) (mg := mg) (base := base) (N := N__law_names) (qual := "_law_names") (sc := defScope s__law_names) (f := T.a__law_names) (cdv := cdv) (A := A) (outer := outer) (s := s) (H := H) (E := E)
  exact (sds_cons (sd_set nd pd_str)
  (sds_cons (sd_set nd (pd_call tk (ok__law_draw T) (hr.mono (by decide)) T.m__law_draw T.k__law_draw T.b__law_draw (pds_cons (pd_var 0) (pds_cons pd_int pds_nil))))
  (sds_cons (sd_set nd (pd_lst mkH_n pds_nil))
  (sds_cons (sd_if (pdb_eq hu (pd_var 3) pd_int)
  (sds_cons (sd_for (passes_of rfl) rfl (pid_range1 T.n_range (pds_cons (pd_var 1) pds_nil)) (pgd_nm nd)
  (sds_one (sd_expr (pd_append (pd_var 4) (pds_cons (pd_call tk (ok__law_bumped T) (hr.mono (by decide)) T.m__law_bumped T.k__law_bumped T.b__law_bumped (pds_cons (pd_call tk (ok__law_word T) (hr.mono (by decide)) T.m__law_word T.k__law_word T.b__law_word (pds_cons (pd_var 0) (pds_cons (pd_add pd_int (pd_call tk (ok__law_draw T) (hr.mono (by decide)) T.m__law_draw T.k__law_draw T.b__law_draw (pds_cons (pd_var 0) (pds_cons pd_int pds_nil)))) pds_nil))) (pds_cons (pd_var 4) pds_nil))) pds_nil)))))
  (sds_one (sd_ret (pd_var 4))))
  sds_nil)
  (sds_cons (sd_set nd (pd_call tk (ok__law_word T) (hr.mono (by decide)) T.m__law_word T.k__law_word T.b__law_word (pds_cons (pd_var 0) (pds_cons pd_int pds_nil))))
  (sds_cons (sd_set nd (pd_call tk (ok__law_draw T) (hr.mono (by decide)) T.m__law_draw T.k__law_draw T.b__law_draw (pds_cons (pd_var 0) (pds_cons pd_int pds_nil))))
  (sds_cons (sd_set nd (pd_add pd_int (pd_mul pd_int (pd_call tk (ok__law_draw T) (hr.mono (by decide)) T.m__law_draw T.k__law_draw T.b__law_draw (pds_cons (pd_var 0) (pds_cons pd_int pds_nil))))))
  (sds_cons (sd_set nd (pd_add pd_int (pd_call tk (ok__law_draw T) (hr.mono (by decide)) T.m__law_draw T.k__law_draw T.b__law_draw (pds_cons (pd_var 0) (pds_cons pd_int pds_nil)))))
  (sds_cons (sd_set nd (pd_call tk (ok__law_draw T) (hr.mono (by decide)) T.m__law_draw T.k__law_draw T.b__law_draw (pds_cons (pd_var 0) (pds_cons (pd_var 9) pds_nil))))
  (sds_cons (sd_for (passes_of rfl) rfl (pid_range1 T.n_range (pds_cons (pd_var 1) pds_nil)) (pgd_nm nd)
  (sds_one (sd_if (pdb_eq hu (pd_var 3) pd_int)
  (sds_one (sd_expr (pd_append (pd_var 4) (pds_cons (pd_slice (pd_var 6) pdo_no (pdo_some (pd_add pd_int (pd_mod (pd_intOf T.n_int (pds_cons (pd_add (pd_var 7) (pd_mul (pd_var 5) (pd_var 8))) pds_nil)) pd_int)))) pds_nil))))
  (sds_one (sd_expr (pd_append (pd_var 4) (pds_cons (pd_add (pd_add (pd_slice (pd_var 6) pdo_no (pdo_some (pd_var 10))) (pd_ix ix_seq dr_ix (pd_var 2) (pd_mod (pd_intOf T.n_int (pds_cons (pd_add (pd_var 7) (pd_mul (pd_var 5) (pd_var 8))) pds_nil)) pd_int))) (pd_slice (pd_var 6) (pdo_some (pd_add (pd_var 10) pd_int)) (pdo_some (pd_var 9)))) pds_nil)))))))
  (sds_one (sd_ret (pd_var 4)))))))))))))
theorem ok__law_pot (T : Tx P K mg) : FnOk P w K mg base (L2.CX P w) 1 T.a__law_pot T.d__law_pot ["script", "place"] (spOf K 2 (runF .own 2 5 B__law_pot)) := by
  refine fn_body (N := N__law_pot) (k := 0) .own T.f__law_pot sc__law_pot fun cdv A outer s H E hr => ?_
  have hu := hu65 hr
  have nd := sc__law_pot.nd
  have tk := tk_of (P := P) (w := w) (K := K) (mg := mg) (base := base) (N := N__law_pot) (qual := "_law_pot") (sc := defScope s__law_pot) (f := T.a__law_pot) (cdv := cdv) (A := A) (outer := outer) (s := s) (H := H) (E := E)
  exact (sds_cons (sd_set nd (pd_add (pd_mul pd_int (pd_sum rfl T.n_sum (pds_cons (pd_lc mkV_ok [("one", 4)] rfl nd (pid_seq (pd_slice (pd_var 0) pdo_no (pdo_some pd_int))) (blkOk_by (N := N__law_pot) (sc := defScope s__law_pot) (by decide +kernel)) (fun _ _ _ _ _ => (pgd_nm nd)) (fun _ _ _ _ _ => pdbs_nil) (fun _ _ _ _ _ => (pd_mod (pd_intOf T.n_int (pds_cons (pd_var 4) pds_nil)) pd_int))) pds_nil))) (pd_mul pd_int (pd_var 1))))
  (sds_cons (sd_if (pdb_lt (pd_var 1) (pd_len T.n_len (pds_cons (pd_var 0) pds_nil)))
  (sds_one (sd_set nd (pd_intOf T.n_int (pds_cons (pd_ix ix_seq dr_ix (pd_var 0) (pd_var 1)) pds_nil))))
  sds_nil)
  (sds_cons (sd_set nd (pd_mod (pd_intOf T.n_int (pds_cons (pd_add (pd_mod (pd_intOf T.n_int (pds_cons (pd_var 2) pds_nil)) pd_int) (pd_mul pd_int (pd_var 1))) pds_nil)) pd_int))
  (sds_one (sd_ret (pd_lst mkH_n (pds_cons (pd_ifExp (pdb_ge (pd_var 2) (pd_pow pd_int pd_int)) (pd_var 2) pd_int) (pds_cons (pd_var 3) (pds_cons pd_int pds_nil)))))))))
theorem ok__law_ident (T : Tx P K mg) : FnOk P w K mg base (L2.CX P w) 2 T.a__law_ident T.d__law_ident ["pot"] (spOf K 1 (runF .frz 1 3 B__law_ident)) := by
  refine fn_body (N := N__law_ident) (k := 1) .frz T.f__law_ident sc__law_ident fun cdv A outer s H E hr => ?_
  have hu := hu65 hr
  have nd := sc__law_ident.nd
  have tk := tk_of (P := P) (w := w) (K := K) (mg := mg) (base := base) (N := N__law_ident) (qual := "_law_ident") (sc := defScope s__law_ident) (f := T.a__law_ident) (cdv := cdv) (A := A) (outer := outer) (s := s) (H := H) (E := E)
  exact (sds_cons (sd_set nd pd_str)
  (sds_one (sd_ret (pd_bm PySem.F.plainAttrs_str PySem.F.slot_str_join PySem.F.type_str_join mt_join dr_join pd_str (pds_cons (pd_lc mkV_ok [("k", 2)] rfl nd (pid_range1 T.n_range (pds_cons (pd_add pd_int (pd_call tk (ok__law_draw T) (hr.mono (by decide)) T.m__law_draw T.k__law_draw T.b__law_draw (pds_cons (pd_var 0) (pds_cons pd_int pds_nil)))) pds_nil)) (blkOk_by (N := N__law_ident) (sc := defScope s__law_ident) (by decide +kernel)) (fun _ _ _ _ _ => (pgd_nm nd)) (fun _ _ _ _ _ => pdbs_nil) (fun _ _ _ _ _ => (pd_ix ix_seq dr_ix (pd_var 1) (pd_call takes0 (ok__law_draw T) (hr.mono (by decide)) T.m__law_draw T.k__law_draw T.b__law_draw (pds_cons (pd_var 0) (pds_cons pd_int pds_nil)))))) pds_nil)))))
theorem ok__law_version (T : Tx P K mg) : FnOk P w K mg base (L2.CX P w) 2 T.a__law_version T.d__law_version ["pot"] (spOf K 1 (runF .frz 1 2 B__law_version)) := by
  refine fn_body (N := N__law_version) (k := 1) .frz T.f__law_version sc__law_version fun cdv A outer s H E hr => ?_
  have hu := hu65 hr
  have nd := sc__law_version.nd
  have tk := tk_of (P := P) (w := w) (K := K) (mg := mg) (base := base) (N := N__law_version) (qual := "_law_version") (sc := defScope s__law_version) (f := T.a__law_version) (cdv := cdv) (A := A) (outer := outer) (s := s) (H := H) (E := E)
  exact (sds_cons (sd_set nd (pd_call tk (ok__law_draw T) (hr.mono (by decide)) T.m__law_draw T.k__law_draw T.b__law_draw (pds_cons (pd_var 0) (pds_cons pd_int pds_nil))))
  (sds_cons (sd_if (pdb_eq hu (pd_var 1) pd_int)
  (sds_one (sd_ret (pd_add pd_int (pd_call tk (ok__law_draw T) (hr.mono (by decide)) T.m__law_draw T.k__law_draw T.b__law_draw (pds_cons (pd_var 0) (pds_cons (pd_pow pd_int pd_int) pds_nil))))))
  sds_nil)
  (sds_one (sd_ret (pd_ix ix_seq dr_ix (pd_lst mkV_n (pds_cons pd_int (pds_cons (pd_add pd_int (pd_call tk (ok__law_draw T) (hr.mono (by decide)) T.m__law_draw T.k__law_draw T.b__law_draw (pds_cons (pd_var 0) (pds_cons pd_int pds_nil)))) (pds_cons (pd_pow pd_int pd_int) pds_nil)))) (pd_var 1))))))
theorem ok__law_some (T : Tx P K mg) : FnOk P w K mg base (L2.CX P w) 2 T.a__law_some T.d__law_some ["pot", "names"] (spOf K 2 (runF .frz 2 3 B__law_some)) := by
  refine fn_body (N := N__law_some) (k := 1) .frz T.f__law_some sc__law_some fun cdv A outer s H E hr => ?_
  have hu := hu65 hr
  have nd := sc__law_some.nd
  have tk := tk_of (P := P) (w := w) (K := K) (mg := mg) (base := base) (N := N__law_some) (qual := "_law_some") (sc := defScope s__law_some) (f := T.a__law_some) (cdv := cdv) (A := A) (outer := outer) (s := s) (H := H) (E := E)
  exact (sds_cons (sd_if (pdb_eq hu (pd_call tk (ok__law_draw T) (hr.mono (by decide)) T.m__law_draw T.k__law_draw T.b__law_draw (pds_cons (pd_var 0) (pds_cons pd_int pds_nil))) pd_int)
  (sds_one (sd_ret (pd_tup pds_nil)))
  sds_nil)
  (sds_one (sd_ret (pd_tupOf T.n_tuple (pds_cons (pd_sorted mkV_n T.n_sorted (pds_cons (pd_lc mkV_ok [("name", 2)] rfl nd (pid_seq (pd_var 1)) (blkOk_by (N := N__law_some) (sc := defScope s__law_some) (by decide +kernel)) (fun _ _ _ _ _ => (pgd_nm nd)) (fun _ _ _ _ _ => (pdbs_one (pdb_eq hu (pd_call takes0 (ok__law_draw T) (hr.mono (by decide)) T.m__law_draw T.k__law_draw T.b__law_draw (pds_cons (pd_var 0) (pds_cons pd_int pds_nil))) pd_int))) (fun _ _ _ _ _ => (pd_var 2))) pds_nil)) pds_nil)))))
theorem ok__law_cause (T : Tx P K mg) : FnOk P w K mg base (L2.CX P w) 2 T.a__law_cause T.d__law_cause ["pot", "names"] (spOf K 2 (runF .frz 2 2 B__law_cause)) := by
  refine fn_body (N := N__law_cause) (k := 1) .frz T.f__law_cause sc__law_cause fun cdv A outer s H E hr => ?_
  have hu := hu65 hr
  have nd := sc__law_cause.nd
  have tk := tk_of (P := P) (w := w) (K := K) (mg := mg) (base := base) (N := N__law_cause) (qual := "_law_cause") (sc := defScope s__law_cause) (f := T.a__law_cause) (cdv := cdv) (A := A) (outer := outer) (s := s) (H := H) (E := E)
  exact (sds_cons (sd_if (pdb_eq hu (pd_call tk (ok__law_draw T) (hr.mono (by decide)) T.m__law_draw T.k__law_draw T.b__law_draw (pds_cons (pd_var 0) (pds_cons pd_int pds_nil))) pd_int)
  (sds_one (sd_ret pd_str))
  sds_nil)
  (sds_one (sd_ret (pd_ix ix_seq dr_ix (pd_var 1) (pd_call tk (ok__law_draw T) (hr.mono (by decide)) T.m__law_draw T.k__law_draw T.b__law_draw (pds_cons (pd_var 0) (pds_cons (pd_len T.n_len (pds_cons (pd_var 1) pds_nil)) pds_nil)))))))
theorem ok__law_stretch (T : Tx P K mg) : FnOk P w K mg base (L2.CX P w) 2 T.a__law_stretch T.d__law_stretch ["pot"] (spOf K 1 (runF .frz 1 2 B__law_stretch)) := by
  refine fn_body (N := N__law_stretch) (k := 1) .frz T.f__law_stretch sc__law_stretch fun cdv A outer s H E hr => ?_
  have hu := hu65 hr
  have nd := sc__law_stretch.nd
  have tk := tk_of (P := P) (w := w) (K := K) (mg := mg) (base := base) (N := N__law_stretch) (qual := "_law_stretch") (sc := defScope s__law_stretch) (f := T.a__law_stretch) (cdv := cdv) (A := A) (outer := outer) (s := s) (H := H) (E := E)
  exact (sds_cons (sd_set nd (pd_call tk (ok__law_draw T) (hr.mono (by decide)) T.m__law_draw T.k__law_draw T.b__law_draw (pds_cons (pd_var 0) (pds_cons pd_int pds_nil))))
  (sds_one (sd_ret (pd_tup (pds_cons (pd_var 1) (pds_cons (pd_add (pd_add (pd_var 1) pd_int) (pd_call tk (ok__law_draw T) (hr.mono (by decide)) T.m__law_draw T.k__law_draw T.b__law_draw (pds_cons (pd_var 0) (pds_cons (pd_sub pd_int (pd_var 1)) pds_nil)))) pds_nil))))))
theorem ok__law_content (T : Tx P K mg) : FnOk P w K mg base (L2.CX P w) 3 T.a__law_content T.d__law_content ["pot", "names"] (spOf K 2 (runF .frz 2 8 B__law_content)) := by
  refine fn_body (N := N__law_content) (k := 2) .frz T.f__law_content sc__law_content fun cdv A outer s H E hr => ?_
  have hu := hu65 hr
  have nd := sc__law_content.nd
  have tk := tk_of (P := P) (w := w) (K := K) (mg := mg) (base := base) (N := N__law_content) (qual := "_law_content") (sc := defScope s__law_content) (f := T.a__law_content) (cdv := cdv) (A := A) (outer := outer) (s := s) (H := H) (E := E)
  exact (sds_cons (sd_set nd (pd_call tk (ok__law_draw T) (hr.mono (by decide)) T.m__law_draw T.k__law_draw T.b__law_draw (pds_cons (pd_var 0) (pds_cons pd_int pds_nil))))
  (sds_cons (sd_set nd (pd_ix ix_seq dr_ix (pd_var 1) (pd_call tk (ok__law_draw T) (hr.mono (by decide)) T.m__law_draw T.k__law_draw T.b__law_draw (pds_cons (pd_var 0) (pds_cons (pd_len T.n_len (pds_cons (pd_var 1) pds_nil)) pds_nil)))))
  (sds_cons (sd_set nd (pd_call tk (ok__law_draw T) (hr.mono (by decide)) T.m__law_draw T.k__law_draw T.b__law_draw (pds_cons (pd_var 0) (pds_cons (pd_len T.n_len (pds_cons (pd_var 1) pds_nil)) pds_nil))))
  (sds_cons (sd_set nd (pd_mod (pd_intOf T.n_int (pds_cons (pd_add (pd_add (pd_var 4) pd_int) (pd_call tk (ok__law_draw T) (hr.mono (by decide)) T.m__law_draw T.k__law_draw T.b__law_draw (pds_cons (pd_var 0) (pds_cons (pd_sub (pd_len T.n_len (pds_cons (pd_var 1) pds_nil)) pd_int) pds_nil)))) pds_nil)) (pd_len T.n_len (pds_cons (pd_var 1) pds_nil))))
  (sds_cons (sd_asg (pd_call tk (ok__law_stretch T) (hr.mono (by decide)) T.m__law_stretch T.k__law_stretch T.b__law_stretch (pds_cons (pd_var 0) pds_nil)) (pgd_tp rfl (pgds_cons (pgd_nm nd) (pgds_cons (pgd_nm nd) pgds_nil))))
  (sds_cons (sd_if (pdb_eq hu (pd_var 2) pd_int)
  (sds_one (sd_ret pd_non))
  sds_nil)
  (sds_cons (sd_if (pdb_eq hu (pd_var 2) pd_int)
  (sds_one (sd_ret (pd_tup (pds_cons pd_str (pds_cons (pd_var 3) (pds_cons (pd_sub (pd_call tk (ok__law_draw T) (hr.mono (by decide)) T.m__law_draw T.k__law_draw T.b__law_draw (pds_cons (pd_var 0) (pds_cons pd_int pds_nil))) pd_int) pds_nil))))))
  sds_nil)
  (sds_cons (sd_if (pdb_eq hu (pd_var 2) pd_int)
  (sds_one (sd_ret (pd_tup (pds_cons pd_str (pds_cons (pd_var 3) (pds_cons (pd_ix ix_seq dr_ix (pd_var 1) (pd_var 4)) (pds_cons (pd_var 6) (pds_cons (pd_var 7) pds_nil))))))))
  sds_nil)
  (sds_cons (sd_if (pdb_eq hu (pd_var 2) pd_int)
  (sds_one (sd_ret (pd_tup (pds_cons pd_str (pds_cons (pd_ix ix_seq dr_ix (pd_var 1) (pd_var 4)) (pds_cons (pd_ix ix_seq dr_ix (pd_var 1) (pd_var 5)) (pds_cons (pd_var 6) (pds_cons (pd_var 7) pds_nil))))))))
  sds_nil)
  (sds_cons (sd_if (pdb_eq hu (pd_var 2) pd_int)
  (sds_one (sd_ret (pd_tup (pds_cons pd_str (pds_cons (pd_var 3) (pds_cons (pd_add pd_int (pd_call tk (ok__law_draw T) (hr.mono (by decide)) T.m__law_draw T.k__law_draw T.b__law_draw (pds_cons (pd_var 0) (pds_cons (pd_pow pd_int pd_int) pds_nil)))) (pds_cons (pd_var 6) (pds_cons (pd_var 7) pds_nil))))))))
  sds_nil)
  (sds_cons (sd_if (pdb_eq hu (pd_var 2) pd_int)
  (sds_one (sd_ret (pd_tup (pds_cons pd_str (pds_cons (pd_var 3) (pds_cons (pd_ix ix_seq dr_ix (pd_var 1) (pd_var 4)) (pds_cons (pd_var 6) (pds_cons (pd_var 7) pds_nil))))))))
  sds_nil)
  (sds_cons (sd_if (pdb_eq hu (pd_var 2) pd_int)
  (sds_one (sd_ret (pd_tup (pds_cons pd_str (pds_cons (pd_var 3) (pds_cons (pd_ix ix_seq dr_ix (pd_var 1) (pd_var 4)) (pds_cons (pd_var 6) pds_nil)))))))
  sds_nil)
  (sds_one (sd_ret (pd_tup (pds_cons pd_str (pds_cons (pd_var 3) (pds_cons (pd_ix ix_seq dr_ix (pd_var 1) (pd_var 4)) (pds_cons (pd_call tk (ok__law_draw T) (hr.mono (by decide)) T.m__law_draw T.k__law_draw T.b__law_draw (pds_cons (pd_var 0) (pds_cons (pd_add (pd_pow pd_int pd_int) pd_int) pds_nil))) (pds_cons (pd_var 6) (pds_cons (pd_var 7) pds_nil)))))))))))))))))))))
theorem ok__law_note (T : Tx P K mg) : FnOk P w K mg base (L2.CX P w) 4 T.a__law_note T.d__law_note ["pot", "names"] (spOf K 2 (runF .frz 2 6 B__law_note)) := by
  refine fn_body (N := N__law_note) (k := 3) .frz T.f__law_note sc__law_note fun cdv A outer s H E hr => ?_
  have hu := hu65 hr
  have nd := sc__law_note.nd
  have tk := tk_of (P := P) (w := w) (K := K) (mg := mg) (base := base) (N := N__law_note) (qual := "_law_note") (sc := defScope s__law_note) (f := T.a__law_note) (cdv := cdv) (A := A) (outer := outer) (s := s) (H := H) (E := E)
  exact (sds_cons (sd_set nd (pd_call tk (ok__law_ident T) (hr.mono (by decide)) T.m__law_ident T.k__law_ident T.b__law_ident (pds_cons (pd_var 0) pds_nil)))
  (sds_cons (sd_set nd (pd_call tk (ok__law_version T) (hr.mono (by decide)) T.m__law_version T.k__law_version T.b__law_version (pds_cons (pd_var 0) pds_nil)))
  (sds_cons (sd_set nd (pd_call tk (ok__law_some T) (hr.mono (by decide)) T.m__law_some T.k__law_some T.b__law_some (pds_cons (pd_var 0) (pds_cons (pd_var 1) pds_nil))))
  (sds_cons (sd_set nd (pd_call tk (ok__law_cause T) (hr.mono (by decide)) T.m__law_cause T.k__law_cause T.b__law_cause (pds_cons (pd_var 0) (pds_cons (pd_var 1) pds_nil))))
  (sds_one (sd_ret (pd_tup (pds_cons (pd_var 2) (pds_cons (pd_var 3) (pds_cons (pd_var 4) (pds_cons (pd_var 5) (pds_cons (pd_call tk (ok__law_content T) (hr.mono (by decide)) T.m__law_content T.k__law_content T.b__law_content (pds_cons (pd_var 0) (pds_cons (pd_var 1) pds_nil))) pds_nil))))))))))))
theorem ok__law_entry (T : Tx P K mg) : FnOk P w K mg base (L2.CX P w) 5 T.a__law_entry T.d__law_entry ["pot", "names"] (spOf K 2 (runF .frz 2 2 B__law_entry)) := by
  refine fn_body (N := N__law_entry) (k := 4) .frz T.f__law_entry sc__law_entry fun cdv A outer s H E hr => ?_
  have hu := hu65 hr
  have nd := sc__law_entry.nd
  have tk := tk_of (P := P) (w := w) (K := K) (mg := mg) (base := base) (N := N__law_entry) (qual := "_law_entry") (sc := defScope s__law_entry) (f := T.a__law_entry) (cdv := cdv) (A := A) (outer := outer) (s := s) (H := H) (E := E)
  exact (sds_cons (sd_if (pdb_eq hu (pd_call tk (ok__law_draw T) (hr.mono (by decide)) T.m__law_draw T.k__law_draw T.b__law_draw (pds_cons (pd_var 0) (pds_cons pd_int pds_nil))) pd_int)
  (sds_one (sd_ret (pd_tup (pds_cons pd_str (pds_cons (pd_call tk (ok__law_draw T) (hr.mono (by decide)) T.m__law_draw T.k__law_draw T.b__law_draw (pds_cons (pd_var 0) (pds_cons pd_int pds_nil))) pds_nil)))))
  sds_nil)
  (sds_one (sd_ret (pd_tup (pds_cons pd_str (pds_cons (pd_call tk (ok__law_note T) (hr.mono (by decide)) T.m__law_note T.k__law_note T.b__law_note (pds_cons (pd_var 0) (pds_cons (pd_var 1) pds_nil))) pds_nil))))))
theorem ok__law_journal (T : Tx P K mg) : FnOk P w K mg base (L2.CX P w) 6 T.a__law_journal T.d__law_journal ["pot", "names"] (spOf K 2 (runF .frz 2 4 B__law_journal)) := by
  refine fn_body (N := N__law_journal) (k := 5) .frz T.f__law_journal sc__law_journal fun cdv A outer s H E hr => ?_
  have hu := hu65 hr
  have nd := sc__law_journal.nd
  have tk := tk_of (P := P) (w := w) (K := K) (mg := mg) (base := base) (N := N__law_journal) (qual := "_law_journal") (sc := defScope s__law_journal) (f := T.a__law_journal) (cdv := cdv) (A := A) (outer := outer) (s := s) (H := H) (E := E)
  exact (sds_cons (sd_set nd pd_int)
  (sds_cons (sd_if (pdb_eq hu (pd_call tk (ok__law_draw T) (hr.mono (by decide)) T.m__law_draw T.k__law_draw T.b__law_draw (pds_cons (pd_var 0) (pds_cons pd_int pds_nil))) pd_int)
  (sds_one (sd_set nd pd_int))
  sds_nil)
  (sds_one (sd_ret (pd_lc mkV_ok [("k", 3)] rfl nd (pid_range1 T.n_range (pds_cons (pd_call tk (ok__law_draw T) (hr.mono (by decide)) T.m__law_draw T.k__law_draw T.b__law_draw (pds_cons (pd_var 0) (pds_cons (pd_var 2) pds_nil))) pds_nil)) (blkOk_by (N := N__law_journal) (sc := defScope s__law_journal) (by decide +kernel)) (fun _ _ _ _ _ => (pgd_nm nd)) (fun _ _ _ _ _ => pdbs_nil) (fun _ _ _ _ _ => (pd_call takes0 (ok__law_entry T) (hr.mono (by decide)) T.m__law_entry T.k__law_entry T.b__law_entry (pds_cons (pd_var 0) (pds_cons (pd_var 1) pds_nil)))))))))
theorem ok_OrderPaper___init__ (T : Tx P K mg) : FnOk P w K mg base (L2.CX P w) 1 T.a_OrderPaper___init__ T.d_OrderPaper___init__ ["self", "over"] (spOf K 2 (runF .frz 2 2 B_OrderPaper___init__)) := by
  refine fn_body (N := N_OrderPaper___init__) (k := 0) .frz T.f_OrderPaper___init__ sc_OrderPaper___init__ fun cdv A outer s H E hr => ?_
  have hu := hu65 hr
  have nd := sc_OrderPaper___init__.nd
  have tk := tk_of (P := P) (w := w) (K := K) (mg := mg) (base := base) (N := N_OrderPaper___init__) (qual := "OrderPaper.__init__") (sc := defScope s_OrderPaper___init__) (f := T.a_OrderPaper___init__) (cdv := cdv) (A := A) (outer := outer) (s := s) (H := H) (E := E)
  exact (sds_one (sd_put T.fo_over (pd_var 0) (pd_var 1)))
theorem ok_FreePaper___init__ (T : Tx P K mg) : FnOk P w K mg base (L2.CX P w) 2 T.a_FreePaper___init__ T.d_FreePaper___init__ ["self", "over", "statuses"] (spOf K 3 (runF .frz 3 3 B_FreePaper___init__)) := by
  refine fn_bodyS (N := N_FreePaper___init__) (k := 1) .frz T.f_FreePaper___init__ sc_FreePaper___init__ fun cdv A outer s H E su hr => ?_
  have hu := hu65 hr
  have nd := sc_FreePaper___init__.nd
  have tk := tk_ofS (P := P) (w := w) (K := K) (mg := mg) (base := base) (N := N_FreePaper___init__) (qual := "FreePaper.__init__") (sc := defScope s_FreePaper___init__) (f := T.a_FreePaper___init__) (cc := T.cc_FreePaper___init__) (cdv := cdv) (A := A) (outer := outer) (s := s) (H := H) (E := E)
  exact (sdsat_cons (sdat_expr (pdat_super tk su T.su_OrderPaper___init__ (ok_OrderPaper___init__ T) (hr.mono (by decide)) T.b_OrderPaper___init__ rfl rfl rfl T.n_super rfl (pds_cons (pd_var 1) pds_nil)))
  (sds_one (sd_put T.fo_statuses (pd_var 0) (pd_var 2))))
theorem ok_UnlikePaper___init__ (T : Tx P K mg) : FnOk P w K mg base (L2.CX P w) 2 T.a_UnlikePaper___init__ T.d_UnlikePaper___init__ ["self", "over", "one", "two"] (spOf K 4 (runF .frz 4 4 B_UnlikePaper___init__)) := by
  refine fn_bodyS (N := N_UnlikePaper___init__) (k := 1) .frz T.f_UnlikePaper___init__ sc_UnlikePaper___init__ fun cdv A outer s H E su hr => ?_
  have hu := hu65 hr
  have nd := sc_UnlikePaper___init__.nd
  have tk := tk_ofS (P := P) (w := w) (K := K) (mg := mg) (base := base) (N := N_UnlikePaper___init__) (qual := "UnlikePaper.__init__") (sc := defScope s_UnlikePaper___init__) (f := T.a_UnlikePaper___init__) (cc := T.cc_UnlikePaper___init__) (cdv := cdv) (A := A) (outer := outer) (s := s) (H := H) (E := E)
  exact (sdsat_cons (sdat_expr (pdat_super tk su T.su_OrderPaper___init__ (ok_OrderPaper___init__ T) (hr.mono (by decide)) T.b_OrderPaper___init__ rfl rfl rfl T.n_super rfl (pds_cons (pd_var 1) pds_nil)))
  (sds_cons (sd_put T.fo_one (pd_var 0) (pd_var 2))
  (sds_one (sd_put T.fo_two (pd_var 0) (pd_var 3)))))
theorem ok__law_over (T : Tx P K mg) : FnOk P w K mg base (L2.CX P w) 2 T.a__law_over T.d__law_over ["pot"] (spOf K 1 (runF .frz 1 1 B__law_over)) := by
  refine fn_body (N := N__law_over) (k := 1) .frz T.f__law_over sc__law_over fun cdv A outer s H E hr => ?_
  have hu := hu65 hr
  have nd := sc__law_over.nd
  have tk := tk_of (P := P) (w := w) (K := K) (mg := mg) (base := base) (N := N__law_over) (qual := "_law_over") (sc := defScope s__law_over) (f := T.a__law_over) (cdv := cdv) (A := A) (outer := outer) (s := s) (H := H) (E := E)
  exact (sds_one (sd_ret (pd_ix ix_seq dr_ix (pd_lst mkV_n (pds_cons pd_str (pds_cons pd_str pds_nil))) (pd_call tk (ok__law_draw T) (hr.mono (by decide)) T.m__law_draw T.k__law_draw T.b__law_draw (pds_cons (pd_var 0) (pds_cons pd_int pds_nil))))))
theorem ok__law_statuses (T : Tx P K mg) : FnOk P w K mg base (L2.CX P w) 2 T.a__law_statuses T.d__law_statuses ["pot", "names"] (spOf K 2 (runF .frz 2 3 B__law_statuses)) := by
  refine fn_body (N := N__law_statuses) (k := 1) .frz T.f__law_statuses sc__law_statuses fun cdv A outer s H E hr => ?_
  have hu := hu65 hr
  have nd := sc__law_statuses.nd
  have tk := tk_of (P := P) (w := w) (K := K) (mg := mg) (base := base) (N := N__law_statuses) (qual := "_law_statuses") (sc := defScope s__law_statuses) (f := T.a__law_statuses) (cdv := cdv) (A := A) (outer := outer) (s := s) (H := H) (E := E)
  exact (sds_one (sd_ret (pd_tupOf T.n_tuple (pds_cons (pd_lc mkV_ok [("k", 2)] rfl nd (pid_range1 T.n_range (pds_cons (pd_call tk (ok__law_draw T) (hr.mono (by decide)) T.m__law_draw T.k__law_draw T.b__law_draw (pds_cons (pd_var 0) (pds_cons pd_int pds_nil))) pds_nil)) (blkOk_by (N := N__law_statuses) (sc := defScope s__law_statuses) (by decide +kernel)) (fun _ _ _ _ _ => (pgd_nm nd)) (fun _ _ _ _ _ => pdbs_nil) (fun _ _ _ _ _ => (pd_ix ix_seq dr_ix (pd_var 1) (pd_call takes0 (ok__law_draw T) (hr.mono (by decide)) T.m__law_draw T.k__law_draw T.b__law_draw (pds_cons (pd_var 0) (pds_cons (pd_len T.n_len (pds_cons (pd_var 1) pds_nil)) pds_nil)))))) pds_nil))))
theorem ok_OrderPaper_lines (T : Tx P K mg) : FnOk P w K mg base (L2.CX P w) 1 T.a_OrderPaper_lines T.d_OrderPaper_lines ["self"] (spOf K 1 (runF .own 1 1 B_OrderPaper_lines)) := by
  refine fn_body (N := N_OrderPaper_lines) (k := 0) .own T.f_OrderPaper_lines sc_OrderPaper_lines fun cdv A outer s H E hr => ?_
  have hu := hu65 hr
  have nd := sc_OrderPaper_lines.nd
  have tk := tk_of (P := P) (w := w) (K := K) (mg := mg) (base := base) (N := N_OrderPaper_lines) (qual := "OrderPaper.lines") (sc := defScope s_OrderPaper_lines) (f := T.a_OrderPaper_lines) (cdv := cdv) (A := A) (outer := outer) (s := s) (H := H) (E := E)
  exact (sds_one (sd_ret (pd_lst mkH_n (pds_cons (pd_fstr (.cons pd_str (.cons (pd_fmt (pd_fld T.fo_over (pd_var 0))) .nil))) pds_nil))))
theorem ok_FreePaper_lines (T : Tx P K mg) : FnOk P w K mg base (L2.CX P w) 2 T.a_FreePaper_lines T.d_FreePaper_lines ["self"] (spOf K 1 (runF .own 1 3 B_FreePaper_lines)) := by
  refine fn_bodyS (N := N_FreePaper_lines) (k := 1) .own T.f_FreePaper_lines sc_FreePaper_lines fun cdv A outer s H E su hr => ?_
  have hu := hu65 hr
  have nd := sc_FreePaper_lines.nd
  have tk := tk_ofS (P := P) (w := w) (K := K) (mg := mg) (base := base) (N := N_FreePaper_lines) (qual := "FreePaper.lines") (sc := defScope s_FreePaper_lines) (f := T.a_FreePaper_lines) (cc := T.cc_FreePaper_lines) (cdv := cdv) (A := A) (outer := outer) (s := s) (H := H) (E := E)
  exact (sdsat_cons (sdat_set nd (pdat_super0 tk su T.su_OrderPaper_lines (ok_OrderPaper_lines T) (hr.mono (by decide)) T.b_OrderPaper_lines rfl rfl rfl T.n_super rfl))
  (sds_cons (sd_for (passes_of rfl) rfl (pid_seq (pd_fld T.fo_statuses (pd_var 0))) (pgd_nm nd)
  (sds_one (sd_expr (pd_append (pd_var 1) (pds_cons (pd_fstr (.cons pd_str (.cons (pd_fmt (pd_var 2)) .nil))) pds_nil)))))
  (sds_one (sd_ret (pd_var 1)))))
theorem ok_content_words (T : Tx P K mg) : FnOk P w K mg base (L2.CX P w) 1 T.a_content_words T.d_content_words ["content"] (spOf K 1 (runF .frz 1 2 B_content_words)) := by
  refine fn_body (N := N_content_words) (k := 0) .frz T.f_content_words sc_content_words fun cdv A outer s H E hr => ?_
  have hu := hu65 hr
  have nd := sc_content_words.nd
  have tk := tk_of (P := P) (w := w) (K := K) (mg := mg) (base := base) (N := N_content_words) (qual := "content_words") (sc := defScope s_content_words) (f := T.a_content_words) (cdv := cdv) (A := A) (outer := outer) (s := s) (H := H) (E := E)
  exact (sds_one (sd_ret (pd_lc mkV_ok [("part", 1)] rfl nd (pid_seq (pd_var 0)) (blkOk_by (N := N_content_words) (sc := defScope s_content_words) (by decide +kernel)) (fun _ _ _ _ _ => (pgd_nm nd)) (fun _ _ _ _ _ => pdbs_nil) (fun _ _ _ _ _ => (pd_strOf T.n_str (pds_cons (pd_var 1) pds_nil))))))
theorem ok_note_line (T : Tx P K mg) : FnOk P w K mg base (L2.CX P w) 2 T.a_note_line T.d_note_line ["note"] (spOf K 1 (runF .frz 1 7 B_note_line)) := by
  refine fn_body (N := N_note_line) (k := 1) .frz T.f_note_line sc_note_line fun cdv A outer s H E hr => ?_
  have hu := hu65 hr
  have nd := sc_note_line.nd
  have tk := tk_of (P := P) (w := w) (K := K) (mg := mg) (base := base) (N := N_note_line) (qual := "note_line") (sc := defScope s_note_line) (f := T.a_note_line) (cdv := cdv) (A := A) (outer := outer) (s := s) (H := H) (E := E)
  exact (sds_cons (sd_asg (pd_var 0) (pgd_tp rfl (pgds_cons (pgd_nm nd) (pgds_cons (pgd_nm nd) (pgds_cons (pgd_nm nd) (pgds_cons (pgd_nm nd) (pgds_cons (pgd_nm nd) pgds_nil)))))))
  (sds_cons (sd_set nd (pd_lst mkH_n (pds_cons (pd_fstr (.cons (pd_fmt (pd_var 1)) (.cons pd_str (.cons (pd_fmt (pd_var 2)) .nil)))) pds_nil)))
  (sds_cons (sd_expr (pd_append (pd_var 6) (pds_cons (pd_ifExp (pdb_gt (pd_len T.n_len (pds_cons (pd_var 3) pds_nil)) pd_int) (pd_bm PySem.F.plainAttrs_str PySem.F.slot_str_join PySem.F.type_str_join mt_join dr_join pd_str (pds_cons (pd_var 3) pds_nil)) (pd_gStr T.g__NOTHING)) pds_nil)))
  (sds_cons (sd_expr (pd_append (pd_var 6) (pds_cons (pd_ifExp (pdb_ne hu (pd_var 4) pd_str) (pd_var 4) (pd_gStr T.g__NOTHING)) pds_nil)))
  (sds_cons (sd_if (pdb_isN (pd_var 5))
  (sds_one (sd_expr (pd_append (pd_var 6) (pds_cons (pd_gStr T.g__STRUCK) pds_nil))))
  (sds_one (sd_expr (pd_bm PySem.F.plainAttrs_list PySem.F.slot_list_extend PySem.F.type_list_extend mt_extend dr_extend (pd_var 6) (pds_cons (pd_call tk (ok_content_words T) (hr.mono (by decide)) T.m_content_words T.k_content_words T.b_content_words (pds_cons (pd_var 5) pds_nil)) pds_nil)))))
  (sds_one (sd_ret (pd_bm PySem.F.plainAttrs_str PySem.F.slot_str_join PySem.F.type_str_join mt_join dr_join pd_str (pds_cons (pd_var 6) pds_nil)))))))))
theorem ok__entry_lines (T : Tx P K mg) : FnOk P w K mg base (L2.CX P w) 3 T.a__entry_lines T.d__entry_lines ["journal"] (spOf K 1 (runF .frz 1 4 B__entry_lines)) := by
  refine fn_body (N := N__entry_lines) (k := 2) .frz T.f__entry_lines sc__entry_lines fun cdv A outer s H E hr => ?_
  have hu := hu65 hr
  have nd := sc__entry_lines.nd
  have tk := tk_of (P := P) (w := w) (K := K) (mg := mg) (base := base) (N := N__entry_lines) (qual := "_entry_lines") (sc := defScope s__entry_lines) (f := T.a__entry_lines) (cdv := cdv) (A := A) (outer := outer) (s := s) (H := H) (E := E)
  exact (sds_cons (sd_set nd (pd_lst mkH_n pds_nil))
  (sds_cons (sd_for (passes_of rfl) rfl (pid_seq (pd_var 0)) (pgd_tp rfl (pgds_cons (pgd_nm nd) (pgds_cons (pgd_nm nd) pgds_nil)))
  (sds_one (sd_if (pdb_eq hu (pd_var 2) pd_str)
  (sds_one (sd_expr (pd_append (pd_var 1) (pds_cons (pd_fstr (.cons pd_str (.cons (pd_fmt (pd_call tk (ok_note_line T) (hr.mono (by decide)) T.m_note_line T.k_note_line T.b_note_line (pds_cons (pd_var 3) pds_nil))) .nil))) pds_nil))))
  (sds_one (sd_expr (pd_append (pd_var 1) (pds_cons (pd_fstr (.cons pd_str (.cons (pd_fmt (pd_var 3)) .nil))) pds_nil)))))))
  (sds_one (sd_ret (pd_var 1)))))
theorem ok_UnlikePaper_lines (T : Tx P K mg) : FnOk P w K mg base (L2.CX P w) 4 T.a_UnlikePaper_lines T.d_UnlikePaper_lines ["self"] (spOf K 1 (runF .own 1 2 B_UnlikePaper_lines)) := by
  refine fn_bodyS (N := N_UnlikePaper_lines) (k := 3) .own T.f_UnlikePaper_lines sc_UnlikePaper_lines fun cdv A outer s H E su hr => ?_
  have hu := hu65 hr
  have nd := sc_UnlikePaper_lines.nd
  have tk := tk_ofS (P := P) (w := w) (K := K) (mg := mg) (base := base) (N := N_UnlikePaper_lines) (qual := "UnlikePaper.lines") (sc := defScope s_UnlikePaper_lines) (f := T.a_UnlikePaper_lines) (cc := T.cc_UnlikePaper_lines) (cdv := cdv) (A := A) (outer := outer) (s := s) (H := H) (E := E)
  exact (sdsat_cons (sdat_set nd (pdat_super0 tk su T.su_OrderPaper_lines (ok_OrderPaper_lines T) (hr.mono (by decide)) T.b_OrderPaper_lines rfl rfl rfl T.n_super rfl))
  (sds_cons (sd_expr (pd_append (pd_var 1) (pds_cons pd_str pds_nil)))
  (sds_cons (sd_expr (pd_bm PySem.F.plainAttrs_list PySem.F.slot_list_extend PySem.F.type_list_extend mt_extend dr_extend (pd_var 1) (pds_cons (pd_call tk (ok__entry_lines T) (hr.mono (by decide)) T.m__entry_lines T.k__entry_lines T.b__entry_lines (pds_cons (pd_fld T.fo_one (pd_var 0)) pds_nil)) pds_nil)))
  (sds_cons (sd_expr (pd_append (pd_var 1) (pds_cons pd_str pds_nil)))
  (sds_cons (sd_expr (pd_bm PySem.F.plainAttrs_list PySem.F.slot_list_extend PySem.F.type_list_extend mt_extend dr_extend (pd_var 1) (pds_cons (pd_call tk (ok__entry_lines T) (hr.mono (by decide)) T.m__entry_lines T.k__entry_lines T.b__entry_lines (pds_cons (pd_fld T.fo_two (pd_var 0)) pds_nil)) pds_nil)))
  (sds_one (sd_ret (pd_var 1))))))))
theorem ok__law_same (T : Tx P K mg) : FnOk P w K mg base (L2.CX P w) 1 T.a__law_same T.d__law_same ["told", "due"] (spOf K 2 (runF .frz 2 3 B__law_same)) := by
  refine fn_body (N := N__law_same) (k := 0) .frz T.f__law_same sc__law_same fun cdv A outer s H E hr => ?_
  have hu := hu65 hr
  have nd := sc__law_same.nd
  have tk := tk_of (P := P) (w := w) (K := K) (mg := mg) (base := base) (N := N__law_same) (qual := "_law_same") (sc := defScope s__law_same) (f := T.a__law_same) (cdv := cdv) (A := A) (outer := outer) (s := s) (H := H) (E := E)
  exact (sds_cons (sd_if (pdb_w (pdw_or (pdb_not (pdb_tru (pd_isi T.n_isinstance (pds_cons (pd_var 0) (pds_cons (pd_tyName T.n_list) pds_nil))))) (pdw_or1 (pdb_ne hu (pd_len T.n_len (pds_cons (pd_var 0) pds_nil)) (pd_len T.n_len (pds_cons (pd_var 1) pds_nil))))))
  (sds_one (sd_ret pd_bl))
  sds_nil)
  (sds_cons (sd_for (passes_of rfl) rfl (pid_seq (pd_var 0)) (pgd_nm nd)
  (sds_one (sd_if (pdb_not (pdb_tru (pd_isi T.n_isinstance (pds_cons (pd_var 2) (pds_cons (pd_tyName T.n_str) pds_nil)))))
  (sds_one (sd_ret pd_bl))
  sds_nil)))
  (sds_one (sd_ret (pd_eq hu (pd_var 0) (pd_var 1))))))
theorem ok__law_twice (T : Tx P K mg) : FnOk P w K mg base (L2.CX P w) 5 T.a__law_twice T.d__law_twice ["paper", "due"] (spOf K 2 (runF .frz 2 3 B__law_twice)) := by
  refine fn_body (N := N__law_twice) (k := 4) .frz T.f__law_twice sc__law_twice fun cdv A outer s H E hr => ?_
  have hu := hu65 hr
  have nd := sc__law_twice.nd
  have tk := tk_of (P := P) (w := w) (K := K) (mg := mg) (base := base) (N := N__law_twice) (qual := "_law_twice") (sc := defScope s__law_twice) (f := T.a__law_twice) (cdv := cdv) (A := A) (outer := outer) (s := s) (H := H) (E := E)
  exact (sds_cons (sd_set nd (pd_methCons (pd_meth0 tk T.cl_OrderPaper T.ma_OrderPaper_lines (ok_OrderPaper_lines T) (hr.mono (by decide)) T.b_OrderPaper_lines (pd_var 0)) (pd_methCons (pd_meth0 tk T.cl_FreePaper T.ma_FreePaper_lines (ok_FreePaper_lines T) (hr.mono (by decide)) T.b_FreePaper_lines (pd_var 0)) (pd_meth0 tk T.cl_UnlikePaper T.ma_UnlikePaper_lines (ok_UnlikePaper_lines T) (hr.mono (by decide)) T.b_UnlikePaper_lines (pd_var 0)))))
  (sds_cons (sd_if (pdb_not (pdb_tru (pd_call tk (ok__law_same T) (hr.mono (by decide)) T.m__law_same T.k__law_same T.b__law_same (pds_cons (pd_var 2) (pds_cons (pd_var 1) pds_nil)))))
  (sds_one (sd_ret pd_bl))
  sds_nil)
  (sds_cons (sd_expr (pd_append (pd_var 2) (pds_cons pd_str pds_nil)))
  (sds_cons (sd_store (pd_var 2) pd_int pd_str)
  (sds_one (sd_ret (pd_call tk (ok__law_same T) (hr.mono (by decide)) T.m__law_same T.k__law_same T.b__law_same (pds_cons (pd_methCons (pd_meth0 tk T.cl_OrderPaper T.ma_OrderPaper_lines (ok_OrderPaper_lines T) (hr.mono (by decide)) T.b_OrderPaper_lines (pd_var 0)) (pd_methCons (pd_meth0 tk T.cl_FreePaper T.ma_FreePaper_lines (ok_FreePaper_lines T) (hr.mono (by decide)) T.b_FreePaper_lines (pd_var 0)) (pd_meth0 tk T.cl_UnlikePaper T.ma_UnlikePaper_lines (ok_UnlikePaper_lines T) (hr.mono (by decide)) T.b_UnlikePaper_lines (pd_var 0)))) (pds_cons (pd_var 1) pds_nil)))))))))
theorem ok__law_is_over (T : Tx P K mg) : FnOk P w K mg base (L2.CX P w) 1 T.a__law_is_over T.d__law_is_over ["paper", "word"] (spOf K 2 (runF .frz 2 2 B__law_is_over)) := by
  refine fn_body (N := N__law_is_over) (k := 0) .frz T.f__law_is_over sc__law_is_over fun cdv A outer s H E hr => ?_
  have hu := hu65 hr
  have nd := sc__law_is_over.nd
  have tk := tk_of (P := P) (w := w) (K := K) (mg := mg) (base := base) (N := N__law_is_over) (qual := "_law_is_over") (sc := defScope s__law_is_over) (f := T.a__law_is_over) (cdv := cdv) (A := A) (outer := outer) (s := s) (H := H) (E := E)
  exact (sds_one (sd_ret (pd_andV (pd_isi T.n_isinstance (pds_cons (pd_fld T.fo_over (pd_var 0)) (pds_cons (pd_tyName T.n_str) pds_nil))) (pd_and1 (pd_eq hu (pd_fld T.fo_over (pd_var 0)) (pd_var 1))))))
theorem ok__law_written (T : Tx P K mg) : FnOk P w K mg base (L2.CX P w) 1 T.a__law_written T.d__law_written ["note"] (spOf K 1 (runF .frz 1 5 B__law_written)) := by
  refine fn_body (N := N__law_written) (k := 0) .frz T.f__law_written sc__law_written fun cdv A outer s H E hr => ?_
  have hu := hu65 hr
  have nd := sc__law_written.nd
  have tk := tk_of (P := P) (w := w) (K := K) (mg := mg) (base := base) (N := N__law_written) (qual := "_law_written") (sc := defScope s__law_written) (f := T.a__law_written) (cdv := cdv) (A := A) (outer := outer) (s := s) (H := H) (E := E)
  exact (sds_cons (sd_set nd (pd_ifExp (pdb_gt (pd_len T.n_len (pds_cons (pd_ix ix_seq dr_ix (pd_var 0) pd_int) pds_nil)) pd_int) (pd_bm PySem.F.plainAttrs_str PySem.F.slot_str_join PySem.F.type_str_join mt_join dr_join pd_str (pds_cons (pd_listOf mkV_n T.n_list (pds_cons (pd_ix ix_seq dr_ix (pd_var 0) pd_int) pds_nil)) pds_nil)) pd_str))
  (sds_cons (sd_set nd (pd_ifExp (pdb_ne hu (pd_ix ix_seq dr_ix (pd_var 0) pd_int) pd_str) (pd_ix ix_seq dr_ix (pd_var 0) pd_int) pd_str))
  (sds_cons (sd_set nd pd_str)
  (sds_cons (sd_if (pdb_notN (pd_ix ix_seq dr_ix (pd_var 0) pd_int))
  (sds_one (sd_set nd (pd_bm PySem.F.plainAttrs_str PySem.F.slot_str_join PySem.F.type_str_join mt_join dr_join pd_str (pds_cons (pd_lc mkV_ok [("part", 4)] rfl nd (pid_seq (pd_ix ix_seq dr_ix (pd_var 0) pd_int)) (blkOk_by (N := N__law_written) (sc := defScope s__law_written) (by decide +kernel)) (fun _ _ _ _ _ => (pgd_nm nd)) (fun _ _ _ _ _ => pdbs_nil) (fun _ _ _ _ _ => (pd_strOf T.n_str (pds_cons (pd_var 4) pds_nil)))) pds_nil))))
  sds_nil)
  (sds_one (sd_ret (pd_add (pd_add (pd_add (pd_add (pd_add (pd_add (pd_add (pd_add (pd_ix ix_seq dr_ix (pd_var 0) pd_int) pd_str) (pd_strOf T.n_str (pds_cons (pd_ix ix_seq dr_ix (pd_var 0) pd_int) pds_nil))) pd_str) (pd_var 1)) pd_str) (pd_var 2)) pd_str) (pd_var 3))))))))
theorem ok__law_entries (T : Tx P K mg) : FnOk P w K mg base (L2.CX P w) 2 T.a__law_entries T.d__law_entries ["journal"] (spOf K 1 (runF .frz 1 4 B__law_entries)) := by
  refine fn_body (N := N__law_entries) (k := 1) .frz T.f__law_entries sc__law_entries fun cdv A outer s H E hr => ?_
  have hu := hu65 hr
  have nd := sc__law_entries.nd
  have tk := tk_of (P := P) (w := w) (K := K) (mg := mg) (base := base) (N := N__law_entries) (qual := "_law_entries") (sc := defScope s__law_entries) (f := T.a__law_entries) (cdv := cdv) (A := A) (outer := outer) (s := s) (H := H) (E := E)
  exact (sds_cons (sd_set nd (pd_lst mkH_n pds_nil))
  (sds_cons (sd_for (passes_of rfl) rfl (pid_seq (pd_var 0)) (pgd_tp rfl (pgds_cons (pgd_nm nd) (pgds_cons (pgd_nm nd) pgds_nil)))
  (sds_one (sd_if (pdb_eq hu (pd_var 2) pd_str)
  (sds_one (sd_expr (pd_append (pd_var 1) (pds_cons (pd_add pd_str (pd_strOf T.n_str (pds_cons (pd_var 3) pds_nil))) pds_nil))))
  (sds_one (sd_expr (pd_append (pd_var 1) (pds_cons (pd_add pd_str (pd_call tk (ok__law_written T) (hr.mono (by decide)) T.m__law_written T.k__law_written T.b__law_written (pds_cons (pd_var 3) pds_nil))) pds_nil)))))))
  (sds_one (sd_ret (pd_var 1)))))
theorem ok__law_unlike_lines (T : Tx P K mg) : FnOk P w K mg base (L2.CX P w) 3 T.a__law_unlike_lines T.d__law_unlike_lines ["word", "first", "second"] (spOf K 3 (runF .frz 3 3 B__law_unlike_lines)) := by
  refine fn_body (N := N__law_unlike_lines) (k := 2) .frz T.f__law_unlike_lines sc__law_unlike_lines fun cdv A outer s H E hr => ?_
  have hu := hu65 hr
  have nd := sc__law_unlike_lines.nd
  have tk := tk_of (P := P) (w := w) (K := K) (mg := mg) (base := base) (N := N__law_unlike_lines) (qual := "_law_unlike_lines") (sc := defScope s__law_unlike_lines) (f := T.a__law_unlike_lines) (cdv := cdv) (A := A) (outer := outer) (s := s) (H := H) (E := E)
  exact (sds_one (sd_ret (pd_add (pd_add (pd_add (pd_lst mkV_n (pds_cons (pd_add pd_str (pd_var 0)) (pds_cons pd_str pds_nil))) (pd_call tk (ok__law_entries T) (hr.mono (by decide)) T.m__law_entries T.k__law_entries T.b__law_entries (pds_cons (pd_var 1) pds_nil))) (pd_lst mkV_n (pds_cons pd_str pds_nil))) (pd_call tk (ok__law_entries T) (hr.mono (by decide)) T.m__law_entries T.k__law_entries T.b__law_entries (pds_cons (pd_var 2) pds_nil)))))
theorem ok__law_is_journal (T : Tx P K mg) : FnOk P w K mg base (L2.CX P w) 1 T.a__law_is_journal T.d__law_is_journal ["told", "journal"] (spOf K 2 (runF .frz 2 2 B__law_is_journal)) := by
  refine fn_body (N := N__law_is_journal) (k := 0) .frz T.f__law_is_journal sc__law_is_journal fun cdv A outer s H E hr => ?_
  have hu := hu65 hr
  have nd := sc__law_is_journal.nd
  have tk := tk_of (P := P) (w := w) (K := K) (mg := mg) (base := base) (N := N__law_is_journal) (qual := "_law_is_journal") (sc := defScope s__law_is_journal) (f := T.a__law_is_journal) (cdv := cdv) (A := A) (outer := outer) (s := s) (H := H) (E := E)
  exact (sds_one (sd_ret (pd_andV (pd_isi T.n_isinstance (pds_cons (pd_var 0) (pds_cons (pd_tyName T.n_list) pds_nil))) (pd_and1 (pd_eq hu (pd_var 0) (pd_var 1))))))
theorem ok__law_unlike (T : Tx P K mg) : FnOk P w K mg base (L2.CX P w) 6 T.a__law_unlike T.d__law_unlike ["paper", "word", "first", "second"] (spOf K 4 (runF .frz 4 4 B__law_unlike)) := by
  refine fn_body (N := N__law_unlike) (k := 5) .frz T.f__law_unlike sc__law_unlike fun cdv A outer s H E hr => ?_
  have hu := hu65 hr
  have nd := sc__law_unlike.nd
  have tk := tk_of (P := P) (w := w) (K := K) (mg := mg) (base := base) (N := N__law_unlike) (qual := "_law_unlike") (sc := defScope s__law_unlike) (f := T.a__law_unlike) (cdv := cdv) (A := A) (outer := outer) (s := s) (H := H) (E := E)
  exact (sds_cons (sd_if (pdb_w (pdw_or (pdb_not (pdb_tru (pd_isO T.is_ T.n_isinstance (pds_cons (pd_var 0) (pds_cons (pd_cls T.mc_OrderPaper) pds_nil))))) (pdw_or1 (pdb_tru (pd_isO T.is_ T.n_isinstance (pds_cons (pd_var 0) (pds_cons (pd_cls T.mc_FreePaper) pds_nil)))))))
  (sds_one (sd_ret pd_bl))
  sds_nil)
  (sds_cons (sd_if (pdb_w (pdw_or (pdb_not (pdb_tru (pd_call tk (ok__law_is_journal T) (hr.mono (by decide)) T.m__law_is_journal T.k__law_is_journal T.b__law_is_journal (pds_cons (pd_fld T.fo_one (pd_var 0)) (pds_cons (pd_var 2) pds_nil))))) (pdw_or1 (pdb_not (pdb_tru (pd_call tk (ok__law_is_journal T) (hr.mono (by decide)) T.m__law_is_journal T.k__law_is_journal T.b__law_is_journal (pds_cons (pd_fld T.fo_two (pd_var 0)) (pds_cons (pd_var 3) pds_nil))))))))
  (sds_one (sd_ret pd_bl))
  sds_nil)
  (sds_cons (sd_if (pdb_not (pdb_tru (pd_call tk (ok__law_is_over T) (hr.mono (by decide)) T.m__law_is_over T.k__law_is_over T.b__law_is_over (pds_cons (pd_var 0) (pds_cons (pd_var 1) pds_nil)))))
  (sds_one (sd_ret pd_bl))
  sds_nil)
  (sds_one (sd_ret (pd_call tk (ok__law_twice T) (hr.mono (by decide)) T.m__law_twice T.k__law_twice T.b__law_twice (pds_cons (pd_var 0) (pds_cons (pd_call tk (ok__law_unlike_lines T) (hr.mono (by decide)) T.m__law_unlike_lines T.k__law_unlike_lines T.b__law_unlike_lines (pds_cons (pd_var 1) (pds_cons (pd_var 2) (pds_cons (pd_var 3) pds_nil)))) pds_nil))))))))
theorem ok__law_free (T : Tx P K mg) : FnOk P w K mg base (L2.CX P w) 6 T.a__law_free T.d__law_free ["paper", "word", "statuses"] (spOf K 3 (runF .frz 3 4 B__law_free)) := by
  refine fn_body (N := N__law_free) (k := 5) .frz T.f__law_free sc__law_free fun cdv A outer s H E hr => ?_
  have hu := hu65 hr
  have nd := sc__law_free.nd
  have tk := tk_of (P := P) (w := w) (K := K) (mg := mg) (base := base) (N := N__law_free) (qual := "_law_free") (sc := defScope s__law_free) (f := T.a__law_free) (cdv := cdv) (A := A) (outer := outer) (s := s) (H := H) (E := E)
  exact (sds_cons (sd_if (pdb_w (pdw_or (pdb_not (pdb_tru (pd_isO T.is_ T.n_isinstance (pds_cons (pd_var 0) (pds_cons (pd_cls T.mc_OrderPaper) pds_nil))))) (pdw_or1 (pdb_tru (pd_isO T.is_ T.n_isinstance (pds_cons (pd_var 0) (pds_cons (pd_cls T.mc_UnlikePaper) pds_nil)))))))
  (sds_one (sd_ret pd_bl))
  sds_nil)
  (sds_cons (sd_if (pdb_w (pdw_or (pdb_not (pdb_tru (pd_isi T.n_isinstance (pds_cons (pd_fld T.fo_statuses (pd_var 0)) (pds_cons (pd_tyName T.n_tuple) pds_nil))))) (pdw_or (pdb_ne hu (pd_fld T.fo_statuses (pd_var 0)) (pd_var 2)) (pdw_or1 (pdb_not (pdb_tru (pd_call tk (ok__law_is_over T) (hr.mono (by decide)) T.m__law_is_over T.k__law_is_over T.b__law_is_over (pds_cons (pd_var 0) (pds_cons (pd_var 1) pds_nil)))))))))
  (sds_one (sd_ret pd_bl))
  sds_nil)
  (sds_one (sd_ret (pd_call tk (ok__law_twice T) (hr.mono (by decide)) T.m__law_twice T.k__law_twice T.b__law_twice (pds_cons (pd_var 0) (pds_cons (pd_add (pd_lst mkV_n (pds_cons (pd_add pd_str (pd_var 1)) pds_nil)) (pd_lc mkV_ok [("name", 3)] rfl nd (pid_seq (pd_var 2)) (blkOk_by (N := N__law_free) (sc := defScope s__law_free) (by decide +kernel)) (fun _ _ _ _ _ => (pgd_nm nd)) (fun _ _ _ _ _ => pdbs_nil) (fun _ _ _ _ _ => (pd_add pd_str (pd_var 3))))) pds_nil)))))))
theorem ok__law_plain (T : Tx P K mg) : FnOk P w K mg base (L2.CX P w) 6 T.a__law_plain T.d__law_plain ["paper", "word"] (spOf K 2 (runF .frz 2 2 B__law_plain)) := by
  refine fn_body (N := N__law_plain) (k := 5) .frz T.f__law_plain sc__law_plain fun cdv A outer s H E hr => ?_
  have hu := hu65 hr
  have nd := sc__law_plain.nd
  have tk := tk_of (P := P) (w := w) (K := K) (mg := mg) (base := base) (N := N__law_plain) (qual := "_law_plain") (sc := defScope s__law_plain) (f := T.a__law_plain) (cdv := cdv) (A := A) (outer := outer) (s := s) (H := H) (E := E)
  exact (sds_cons (sd_if (pdb_w (pdw_or (pdb_not (pdb_tru (pd_isO T.is_ T.n_isinstance (pds_cons (pd_var 0) (pds_cons (pd_cls T.mc_OrderPaper) pds_nil))))) (pdw_or (pdb_tru (pd_isO T.is_ T.n_isinstance (pds_cons (pd_var 0) (pds_cons (pd_cls T.mc_FreePaper) pds_nil)))) (pdw_or1 (pdb_tru (pd_isO T.is_ T.n_isinstance (pds_cons (pd_var 0) (pds_cons (pd_cls T.mc_UnlikePaper) pds_nil))))))))
  (sds_one (sd_ret pd_bl))
  sds_nil)
  (sds_one (sd_ret (pd_andV (pd_call tk (ok__law_is_over T) (hr.mono (by decide)) T.m__law_is_over T.k__law_is_over T.b__law_is_over (pds_cons (pd_var 0) (pds_cons (pd_var 1) pds_nil))) (pd_and1 (pd_call tk (ok__law_twice T) (hr.mono (by decide)) T.m__law_twice T.k__law_twice T.b__law_twice (pds_cons (pd_var 0) (pds_cons (pd_lst mkV_n (pds_cons (pd_add pd_str (pd_var 1)) pds_nil)) pds_nil))))))))
theorem ok_law (T : Tx P K mg) : FnOk P w K mg base (L2.CX P w) 7 T.a_law T.d_law ["script"] (spOf K 1 (runF .frz 1 13 B_law)) := by
  refine fn_body (N := N_law) (k := 6) .frz T.f_law sc_law fun cdv A outer s H E hr => ?_
  have hu := hu65 hr
  have nd := sc_law.nd
  have tk := tk_of (P := P) (w := w) (K := K) (mg := mg) (base := base) (N := N_law) (qual := "law") (sc := defScope s_law) (f := T.a_law) (cdv := cdv) (A := A) (outer := outer) (s := s) (H := H) (E := E)
  exact (sds_cons (sd_set nd (pd_call tk (ok__law_names T) (hr.mono (by decide)) T.m__law_names T.k__law_names T.b__law_names (pds_cons (pd_call tk (ok__law_pot T) (hr.mono (by decide)) T.m__law_pot T.k__law_pot T.b__law_pot (pds_cons (pd_var 0) (pds_cons pd_int pds_nil))) (pds_cons pd_int pds_nil))))
  (sds_cons (sd_set nd (pd_call tk (ok__law_pot T) (hr.mono (by decide)) T.m__law_pot T.k__law_pot T.b__law_pot (pds_cons (pd_var 0) (pds_cons pd_int pds_nil))))
  (sds_cons (sd_set nd (pd_lst mkV_n (pds_cons (pd_call tk (ok__law_over T) (hr.mono (by decide)) T.m__law_over T.k__law_over T.b__law_over (pds_cons (pd_var 2) pds_nil)) (pds_cons (pd_call tk (ok__law_over T) (hr.mono (by decide)) T.m__law_over T.k__law_over T.b__law_over (pds_cons (pd_var 2) pds_nil)) (pds_cons (pd_call tk (ok__law_over T) (hr.mono (by decide)) T.m__law_over T.k__law_over T.b__law_over (pds_cons (pd_var 2) pds_nil)) pds_nil)))))
  (sds_cons (sd_set nd (pd_lst mkV_n (pds_cons (pd_call tk (ok__law_statuses T) (hr.mono (by decide)) T.m__law_statuses T.k__law_statuses T.b__law_statuses (pds_cons (pd_var 2) (pds_cons (pd_var 1) pds_nil))) (pds_cons (pd_call tk (ok__law_statuses T) (hr.mono (by decide)) T.m__law_statuses T.k__law_statuses T.b__law_statuses (pds_cons (pd_var 2) (pds_cons (pd_var 1) pds_nil))) pds_nil))))
  (sds_cons (sd_set nd (pd_call tk (ok__law_journal T) (hr.mono (by decide)) T.m__law_journal T.k__law_journal T.b__law_journal (pds_cons (pd_call tk (ok__law_pot T) (hr.mono (by decide)) T.m__law_pot T.k__law_pot T.b__law_pot (pds_cons (pd_var 0) (pds_cons pd_int pds_nil))) (pds_cons (pd_var 1) pds_nil))))
  (sds_cons (sd_set nd (pd_call tk (ok__law_journal T) (hr.mono (by decide)) T.m__law_journal T.k__law_journal T.b__law_journal (pds_cons (pd_call tk (ok__law_pot T) (hr.mono (by decide)) T.m__law_pot T.k__law_pot T.b__law_pot (pds_cons (pd_var 0) (pds_cons pd_int pds_nil))) (pds_cons (pd_var 1) pds_nil))))
  (sds_cons (sd_set nd (pd_listOf mkH_n T.n_list (pds_cons (pd_var 5) pds_nil)))
  (sds_cons (sd_set nd (pd_listOf mkH_n T.n_list (pds_cons (pd_var 6) pds_nil)))
  (sds_cons (sd_set nd (pd_make tk T.mk_OrderPaper (ok_OrderPaper___init__ T) (hr.mono (by decide)) T.mc_OrderPaper T.b_OrderPaper___init__ (pds_cons (pd_ix ix_seq dr_ix (pd_var 3) pd_int) pds_nil)))
  (sds_cons (sd_set nd (pd_make tk T.mk_FreePaper (ok_FreePaper___init__ T) (hr.mono (by decide)) T.mc_FreePaper T.b_FreePaper___init__ (pds_cons (pd_ix ix_seq dr_ix (pd_var 3) pd_int) (pds_cons (pd_ix ix_seq dr_ix (pd_var 4) pd_int) pds_nil))))
  (sds_cons (sd_set nd (pd_make tk T.mk_UnlikePaper (ok_UnlikePaper___init__ T) (hr.mono (by decide)) T.mc_UnlikePaper T.b_UnlikePaper___init__ (pds_cons (pd_ix ix_seq dr_ix (pd_var 3) pd_int) (pds_cons (pd_var 7) (pds_cons (pd_var 8) pds_nil)))))
  (sds_cons (sd_if (pdb_w (pdw_or (pdb_not (pdb_tru (pd_call tk (ok__law_plain T) (hr.mono (by decide)) T.m__law_plain T.k__law_plain T.b__law_plain (pds_cons (pd_var 9) (pds_cons (pd_ix ix_seq dr_ix (pd_var 3) pd_int) pds_nil))))) (pdw_or1 (pdb_not (pdb_tru (pd_call tk (ok__law_free T) (hr.mono (by decide)) T.m__law_free T.k__law_free T.b__law_free (pds_cons (pd_var 10) (pds_cons (pd_ix ix_seq dr_ix (pd_var 3) pd_int) (pds_cons (pd_ix ix_seq dr_ix (pd_var 4) pd_int) pds_nil)))))))))
  (sds_one (sd_ret pd_bl))
  sds_nil)
  (sds_cons (sd_if (pdb_not (pdb_tru (pd_call tk (ok__law_unlike T) (hr.mono (by decide)) T.m__law_unlike T.k__law_unlike T.b__law_unlike (pds_cons (pd_var 11) (pds_cons (pd_ix ix_seq dr_ix (pd_var 3) pd_int) (pds_cons (pd_var 5) (pds_cons (pd_var 6) pds_nil)))))))
  (sds_one (sd_ret pd_bl))
  sds_nil)
  (sds_cons (sd_if (pdb_not (pdb_tru (pd_call tk (ok__law_free T) (hr.mono (by decide)) T.m__law_free T.k__law_free T.b__law_free (pds_cons (pd_make tk T.mk_FreePaper (ok_FreePaper___init__ T) (hr.mono (by decide)) T.mc_FreePaper T.b_FreePaper___init__ (pds_cons (pd_ix ix_seq dr_ix (pd_var 3) pd_int) (pds_cons (pd_ix ix_seq dr_ix (pd_var 4) pd_int) pds_nil))) (pds_cons (pd_ix ix_seq dr_ix (pd_var 3) pd_int) (pds_cons (pd_ix ix_seq dr_ix (pd_var 4) pd_int) pds_nil))))))
  (sds_one (sd_ret pd_bl))
  sds_nil)
  (sds_cons (sd_if (pdb_not (pdb_tru (pd_call tk (ok__law_unlike T) (hr.mono (by decide)) T.m__law_unlike T.k__law_unlike T.b__law_unlike (pds_cons (pd_make tk T.mk_UnlikePaper (ok_UnlikePaper___init__ T) (hr.mono (by decide)) T.mc_UnlikePaper T.b_UnlikePaper___init__ (pds_cons (pd_ix ix_seq dr_ix (pd_var 3) pd_int) (pds_cons (pd_listOf mkV_n T.n_list (pds_cons (pd_var 6) pds_nil)) (pds_cons (pd_listOf mkV_n T.n_list (pds_cons (pd_var 5) pds_nil)) pds_nil)))) (pds_cons (pd_ix ix_seq dr_ix (pd_var 3) pd_int) (pds_cons (pd_var 6) (pds_cons (pd_var 5) pds_nil)))))))
  (sds_one (sd_ret pd_bl))
  sds_nil)
  (sds_cons (sd_set nd (pd_lst mkV_n (pds_cons (pd_call tk (ok__law_entry T) (hr.mono (by decide)) T.m__law_entry T.k__law_entry T.b__law_entry (pds_cons (pd_var 2) (pds_cons (pd_var 1) pds_nil))) (pds_cons (pd_call tk (ok__law_entry T) (hr.mono (by decide)) T.m__law_entry T.k__law_entry T.b__law_entry (pds_cons (pd_var 2) (pds_cons (pd_var 1) pds_nil))) pds_nil))))
  (sds_cons (sd_expr (pd_append (pd_var 7) (pds_cons (pd_ix ix_seq dr_ix (pd_var 12) pd_int) pds_nil)))
  (sds_cons (sd_expr (pd_append (pd_var 8) (pds_cons (pd_ix ix_seq dr_ix (pd_var 12) pd_int) pds_nil)))
  (sds_cons (sd_if (pdb_not (pdb_tru (pd_call tk (ok__law_unlike T) (hr.mono (by decide)) T.m__law_unlike T.k__law_unlike T.b__law_unlike (pds_cons (pd_var 11) (pds_cons (pd_ix ix_seq dr_ix (pd_var 3) pd_int) (pds_cons (pd_add (pd_var 5) (pd_slice (pd_var 12) pdo_no (pdo_some pd_int))) (pds_cons (pd_add (pd_var 6) (pd_slice (pd_var 12) (pdo_some pd_int) pdo_no)) pds_nil)))))))
  (sds_one (sd_ret pd_bl))
  sds_nil)
  (sds_cons (sd_if (pdb_w (pdw_or (pdb_ne hu (pd_var 7) (pd_add (pd_var 5) (pd_slice (pd_var 12) pdo_no (pdo_some pd_int)))) (pdw_or1 (pdb_ne hu (pd_var 8) (pd_add (pd_var 6) (pd_slice (pd_var 12) (pdo_some pd_int) pdo_no))))))
  (sds_one (sd_ret pd_bl))
  sds_nil)
  (sds_one (sd_ret (pd_andV (pd_call tk (ok__law_plain T) (hr.mono (by decide)) T.m__law_plain T.k__law_plain T.b__law_plain (pds_cons (pd_var 9) (pds_cons (pd_ix ix_seq dr_ix (pd_var 3) pd_int) pds_nil))) (pd_and1 (pd_call tk (ok__law_free T) (hr.mono (by decide)) T.m__law_free T.k__law_free T.b__law_free (pds_cons (pd_var 10) (pds_cons (pd_ix ix_seq dr_ix (pd_var 3) pd_int) (pds_cons (pd_ix ix_seq dr_ix (pd_var 4) pd_int) pds_nil))))))))))))))))))))))))))))
end
end Law
set_option Elab.async false
set_option maxRecDepth 100000
set_option maxHeartbeats 4000000
namespace Law
open PySem PySem.Spec PyProof.Rows L2 DL
theorem all_mk {l : PySem.W.OpenLaw} {w : World} {K : PySem.W.Frag} {h : Heap} {mg : Str → Option Value} {fa f0 f1 f2 f3 f4 f5 f6 f7 f8 f9 f10 f11 f12 f13 f14 f15 f16 f17 f18 f19 f20 f21 f22 f23 f24 f25 f26 f27 f28 f29 f30 f31 f32 f33 f34 f35 : Addr} (X : K.In h) (G : h.Ns mainGlobals mg) (hfa : mg "law" = some (.ref fa))
    {od0 an0 od1 an1 od2 an2 od3 an3 od4 an4 od5 an5 od6 an6 od7 an7 od8 an8 od9 an9 od10 an10 od11 an11 od12 an12 od13 an13 od14 an14 od15 an15 od16 an16 od17 an17 od18 an18 od19 an19 od20 an20 od21 an21 od22 an22 od23 an23 od24 an24 od25 an25 od26 an26 od27 an27 od28 an28 od29 an29 od30 an30 od31 an31 od32 an32 od33 an33 od34 an34 od35 an35 : Option Addr} {sl0 sl1 sl2 sl3 sl4 sl5 sl6 sl7 sl8 sl9 sl10 sl11 sl12 sl13 sl14 sl15 sl16 sl17 sl18 sl19 sl20 sl21 sl22 sl23 sl24 sl25 sl26 sl27 sl28 sl29 sl30 sl31 sl32 sl33 sl34 sl35 : Array (Option Value)} {oc0 kV0 dc0 pm0 ct0 cd0 oc1 kV1 dc1 pm1 ct1 cd1 oc2 kV2 dc2 pm2 ct2 cd2 oc3 kV3 dc3 pm3 ct3 cd3 oc4 kV4 dc4 pm4 ct4 cd4 oc5 kV5 dc5 pm5 ct5 cd5 oc6 kV6 dc6 pm6 ct6 cd6 oc7 kV7 dc7 pm7 ct7 cd7 oc8 kV8 dc8 pm8 ct8 cd8 oc9 kV9 dc9 pm9 ct9 cd9 oc10 kV10 dc10 pm10 ct10 cd10 oc11 kV11 dc11 pm11 ct11 cd11 oc12 kV12 dc12 pm12 ct12 cd12 oc13 kV13 dc13 pm13 ct13 cd13 oc14 kV14 dc14 pm14 ct14 cd14 oc15 kV15 dc15 pm15 ct15 oc16 kV16 dc16 pm16 ct16 oc17 kV17 dc17 pm17 ct17 cd17 oc18 kV18 dc18 pm18 ct18 cd18 oc19 kV19 dc19 pm19 ct19 cd19 oc20 kV20 dc20 pm20 ct20 oc21 kV21 dc21 pm21 ct21 cd21 oc22 kV22 dc22 pm22 ct22 cd22 oc23 kV23 dc23 pm23 ct23 cd23 oc24 kV24 dc24 pm24 ct24 oc25 kV25 dc25 pm25 ct25 cd25 oc26 kV26 dc26 pm26 ct26 cd26 oc27 kV27 dc27 pm27 ct27 cd27 oc28 kV28 dc28 pm28 ct28 cd28 oc29 kV29 dc29 pm29 ct29 cd29 oc30 kV30 dc30 pm30 ct30 cd30 oc31 kV31 dc31 pm31 ct31 cd31 oc32 kV32 dc32 pm32 ct32 cd32 oc33 kV33 dc33 pm33 ct33 cd33 oc34 kV34 dc34 pm34 ct34 cd34 oc35 kV35 dc35 pm35 ct35 cd35 : Value}
    {tk__NOTHING : Tok}
    {tk__STRUCK : Tok}
    {v_FreePaper v_OrderPaper v_UnlikePaper : Addr}
    (ac_FreePaper : PySem.W.nsIn K mainGlobals "FreePaper" = some (some (.ref v_FreePaper)))
    (ac_OrderPaper : PySem.W.nsIn K mainGlobals "OrderPaper" = some (some (.ref v_OrderPaper)))
    (ac_UnlikePaper : PySem.W.nsIn K mainGlobals "UnlikePaper" = some (some (.ref v_UnlikePaper)))
    (a0 : PySem.W.nsIn K mainGlobals "_law_draw" = some (some (.ref f0))) (l0 : K.lookup f0 = some ⟨oc0, od0, .func (PySem.W.fnOf "_law_draw" "_law_draw" (defArgs s__law_draw) (defBody s__law_draw) (defScope s__law_draw) .none kV0 dc0 pm0 an0 cd0 ct0), sl0⟩) (c0 : PySem.W.codeIn K cd0 "_law_draw" = true) (k0 : PySem.W.keepIn K (.ref f0) = true)
    (a1 : PySem.W.nsIn K mainGlobals "_law_word" = some (some (.ref f1))) (l1 : K.lookup f1 = some ⟨oc1, od1, .func (PySem.W.fnOf "_law_word" "_law_word" (defArgs s__law_word) (defBody s__law_word) (defScope s__law_word) .none kV1 dc1 pm1 an1 cd1 ct1), sl1⟩) (c1 : PySem.W.codeIn K cd1 "_law_word" = true) (k1 : PySem.W.keepIn K (.ref f1) = true)
    (a2 : PySem.W.nsIn K mainGlobals "_law_bumped" = some (some (.ref f2))) (l2 : K.lookup f2 = some ⟨oc2, od2, .func (PySem.W.fnOf "_law_bumped" "_law_bumped" (defArgs s__law_bumped) (defBody s__law_bumped) (defScope s__law_bumped) .none kV2 dc2 pm2 an2 cd2 ct2), sl2⟩) (c2 : PySem.W.codeIn K cd2 "_law_bumped" = true) (k2 : PySem.W.keepIn K (.ref f2) = true)
    (a3 : PySem.W.nsIn K mainGlobals "_law_names" = some (some (.ref f3))) (l3 : K.lookup f3 = some ⟨oc3, od3, .func (PySem.W.fnOf "_law_names" "_law_names" (defArgs s__law_names) (defBody s__law_names) (defScope s__law_names) .none kV3 dc3 pm3 an3 cd3 ct3), sl3⟩) (c3 : PySem.W.codeIn K cd3 "_law_names" = true) (k3 : PySem.W.keepIn K (.ref f3) = true)
    (a4 : PySem.W.nsIn K mainGlobals "_law_pot" = some (some (.ref f4))) (l4 : K.lookup f4 = some ⟨oc4, od4, .func (PySem.W.fnOf "_law_pot" "_law_pot" (defArgs s__law_pot) (defBody s__law_pot) (defScope s__law_pot) .none kV4 dc4 pm4 an4 cd4 ct4), sl4⟩) (c4 : PySem.W.codeIn K cd4 "_law_pot" = true) (k4 : PySem.W.keepIn K (.ref f4) = true)
    (a5 : PySem.W.nsIn K mainGlobals "_law_ident" = some (some (.ref f5))) (l5 : K.lookup f5 = some ⟨oc5, od5, .func (PySem.W.fnOf "_law_ident" "_law_ident" (defArgs s__law_ident) (defBody s__law_ident) (defScope s__law_ident) .none kV5 dc5 pm5 an5 cd5 ct5), sl5⟩) (c5 : PySem.W.codeIn K cd5 "_law_ident" = true) (k5 : PySem.W.keepIn K (.ref f5) = true)
    (a6 : PySem.W.nsIn K mainGlobals "_law_version" = some (some (.ref f6))) (l6 : K.lookup f6 = some ⟨oc6, od6, .func (PySem.W.fnOf "_law_version" "_law_version" (defArgs s__law_version) (defBody s__law_version) (defScope s__law_version) .none kV6 dc6 pm6 an6 cd6 ct6), sl6⟩) (c6 : PySem.W.codeIn K cd6 "_law_version" = true) (k6 : PySem.W.keepIn K (.ref f6) = true)
    (a7 : PySem.W.nsIn K mainGlobals "_law_some" = some (some (.ref f7))) (l7 : K.lookup f7 = some ⟨oc7, od7, .func (PySem.W.fnOf "_law_some" "_law_some" (defArgs s__law_some) (defBody s__law_some) (defScope s__law_some) .none kV7 dc7 pm7 an7 cd7 ct7), sl7⟩) (c7 : PySem.W.codeIn K cd7 "_law_some" = true) (k7 : PySem.W.keepIn K (.ref f7) = true)
    (a8 : PySem.W.nsIn K mainGlobals "_law_cause" = some (some (.ref f8))) (l8 : K.lookup f8 = some ⟨oc8, od8, .func (PySem.W.fnOf "_law_cause" "_law_cause" (defArgs s__law_cause) (defBody s__law_cause) (defScope s__law_cause) .none kV8 dc8 pm8 an8 cd8 ct8), sl8⟩) (c8 : PySem.W.codeIn K cd8 "_law_cause" = true) (k8 : PySem.W.keepIn K (.ref f8) = true)
    (a9 : PySem.W.nsIn K mainGlobals "_law_stretch" = some (some (.ref f9))) (l9 : K.lookup f9 = some ⟨oc9, od9, .func (PySem.W.fnOf "_law_stretch" "_law_stretch" (defArgs s__law_stretch) (defBody s__law_stretch) (defScope s__law_stretch) .none kV9 dc9 pm9 an9 cd9 ct9), sl9⟩) (c9 : PySem.W.codeIn K cd9 "_law_stretch" = true) (k9 : PySem.W.keepIn K (.ref f9) = true)
    (a10 : PySem.W.nsIn K mainGlobals "_law_content" = some (some (.ref f10))) (l10 : K.lookup f10 = some ⟨oc10, od10, .func (PySem.W.fnOf "_law_content" "_law_content" (defArgs s__law_content) (defBody s__law_content) (defScope s__law_content) .none kV10 dc10 pm10 an10 cd10 ct10), sl10⟩) (c10 : PySem.W.codeIn K cd10 "_law_content" = true) (k10 : PySem.W.keepIn K (.ref f10) = true)
    (a11 : PySem.W.nsIn K mainGlobals "_law_note" = some (some (.ref f11))) (l11 : K.lookup f11 = some ⟨oc11, od11, .func (PySem.W.fnOf "_law_note" "_law_note" (defArgs s__law_note) (defBody s__law_note) (defScope s__law_note) .none kV11 dc11 pm11 an11 cd11 ct11), sl11⟩) (c11 : PySem.W.codeIn K cd11 "_law_note" = true) (k11 : PySem.W.keepIn K (.ref f11) = true)
    (a12 : PySem.W.nsIn K mainGlobals "_law_entry" = some (some (.ref f12))) (l12 : K.lookup f12 = some ⟨oc12, od12, .func (PySem.W.fnOf "_law_entry" "_law_entry" (defArgs s__law_entry) (defBody s__law_entry) (defScope s__law_entry) .none kV12 dc12 pm12 an12 cd12 ct12), sl12⟩) (c12 : PySem.W.codeIn K cd12 "_law_entry" = true) (k12 : PySem.W.keepIn K (.ref f12) = true)
    (a13 : PySem.W.nsIn K mainGlobals "_law_journal" = some (some (.ref f13))) (l13 : K.lookup f13 = some ⟨oc13, od13, .func (PySem.W.fnOf "_law_journal" "_law_journal" (defArgs s__law_journal) (defBody s__law_journal) (defScope s__law_journal) .none kV13 dc13 pm13 an13 cd13 ct13), sl13⟩) (c13 : PySem.W.codeIn K cd13 "_law_journal" = true) (k13 : PySem.W.keepIn K (.ref f13) = true)
    (a14 : PySem.W.findIn K (.ref v_OrderPaper) "__init__" = some (some (.ref f14))) (l14 : K.lookup f14 = some ⟨oc14, od14, .func (PySem.W.fnOf "__init__" "OrderPaper.__init__" (defArgs s_OrderPaper___init__) (defBody s_OrderPaper___init__) (defScope s_OrderPaper___init__) .none kV14 dc14 pm14 an14 cd14 ct14), sl14⟩) (c14 : PySem.W.codeIn K cd14 "OrderPaper.__init__" = true) (k14 : PySem.W.keepIn K (.ref f14) = true)
    (i14 : PySem.W.isFn K (.ref f14) = true)
    {cda15 cc15 : Addr} {ccl15 cl15 : Value} {cdd15 cld15 : Option Addr} {ccs15 csl15 : Array (Option Value)} {vs15 : Array Value} {file15 : Str} {tf15 : Tok} {cdC15 cdB15 : ClassData}
    (a15 : PySem.W.findIn K (.ref v_FreePaper) "__init__" = some (some (.ref f15)))
    (l15 : K.lookup f15 = some ⟨oc15, od15, .func (PySem.W.ksFn "__init__" "FreePaper.__init__" (defArgs s_FreePaper___init__) (defBody s_FreePaper___init__) (defScope s_FreePaper___init__) .none kV15 dc15 pm15 an15 (.ref cda15) ct15 cc15), sl15⟩)
    (c15 : PySem.W.codeIn K (.ref cda15) "FreePaper.__init__" = true)
    (k15 : PySem.W.keepIn K (.ref f15) = true)
    (lc15 : K.lookup cda15 = some ⟨ccl15, cdd15, .fields vs15, ccs15⟩)
    (lcc15 : K.lookup cc15 = some ⟨cl15, cld15, .cell (some (.ref v_FreePaper)), csl15⟩)
    (sub15 : PySem.W.mroIn K v_FreePaper (.ref v_FreePaper) = some true)
    (c1_15 : PySem.W.clsIn K v_FreePaper = some cdC15)
    (c2_15 : PySem.W.clsIn K v_OrderPaper = some cdB15)
    (any15 : PySem.W.nsIn K cStatics "thirdparty.any" = some none)
    (x1_15 : vs15[2]? = some (.str file15 tf15))
    (x2_15 : ((l.prog.main.file : Str) == file15) = true)
    (x3_15 : Option.isSome (l.prog.main.scope.names.lookup ("super" : Str)) = false)
    (x4_15 : (cdC15.mro.dropWhile (· != .ref v_FreePaper)).drop 1 = cdB15.mro)
    (i15 : PySem.W.isFn K (.ref f15) = true)
    {cda16 cc16 : Addr} {ccl16 cl16 : Value} {cdd16 cld16 : Option Addr} {ccs16 csl16 : Array (Option Value)} {vs16 : Array Value} {file16 : Str} {tf16 : Tok} {cdC16 cdB16 : ClassData}
    (a16 : PySem.W.findIn K (.ref v_UnlikePaper) "__init__" = some (some (.ref f16)))
    (l16 : K.lookup f16 = some ⟨oc16, od16, .func (PySem.W.ksFn "__init__" "UnlikePaper.__init__" (defArgs s_UnlikePaper___init__) (defBody s_UnlikePaper___init__) (defScope s_UnlikePaper___init__) .none kV16 dc16 pm16 an16 (.ref cda16) ct16 cc16), sl16⟩)
    (c16 : PySem.W.codeIn K (.ref cda16) "UnlikePaper.__init__" = true)
    (k16 : PySem.W.keepIn K (.ref f16) = true)
    (lc16 : K.lookup cda16 = some ⟨ccl16, cdd16, .fields vs16, ccs16⟩)
    (lcc16 : K.lookup cc16 = some ⟨cl16, cld16, .cell (some (.ref v_UnlikePaper)), csl16⟩)
    (sub16 : PySem.W.mroIn K v_UnlikePaper (.ref v_UnlikePaper) = some true)
    (c1_16 : PySem.W.clsIn K v_UnlikePaper = some cdC16)
    (c2_16 : PySem.W.clsIn K v_OrderPaper = some cdB16)
    (any16 : PySem.W.nsIn K cStatics "thirdparty.any" = some none)
    (x1_16 : vs16[2]? = some (.str file16 tf16))
    (x2_16 : ((l.prog.main.file : Str) == file16) = true)
    (x3_16 : Option.isSome (l.prog.main.scope.names.lookup ("super" : Str)) = false)
    (x4_16 : (cdC16.mro.dropWhile (· != .ref v_UnlikePaper)).drop 1 = cdB16.mro)
    (i16 : PySem.W.isFn K (.ref f16) = true)
    (a17 : PySem.W.nsIn K mainGlobals "_law_over" = some (some (.ref f17))) (l17 : K.lookup f17 = some ⟨oc17, od17, .func (PySem.W.fnOf "_law_over" "_law_over" (defArgs s__law_over) (defBody s__law_over) (defScope s__law_over) .none kV17 dc17 pm17 an17 cd17 ct17), sl17⟩) (c17 : PySem.W.codeIn K cd17 "_law_over" = true) (k17 : PySem.W.keepIn K (.ref f17) = true)
    (a18 : PySem.W.nsIn K mainGlobals "_law_statuses" = some (some (.ref f18))) (l18 : K.lookup f18 = some ⟨oc18, od18, .func (PySem.W.fnOf "_law_statuses" "_law_statuses" (defArgs s__law_statuses) (defBody s__law_statuses) (defScope s__law_statuses) .none kV18 dc18 pm18 an18 cd18 ct18), sl18⟩) (c18 : PySem.W.codeIn K cd18 "_law_statuses" = true) (k18 : PySem.W.keepIn K (.ref f18) = true)
    (a19 : PySem.W.findIn K (.ref v_OrderPaper) "lines" = some (some (.ref f19))) (l19 : K.lookup f19 = some ⟨oc19, od19, .func (PySem.W.fnOf "lines" "OrderPaper.lines" (defArgs s_OrderPaper_lines) (defBody s_OrderPaper_lines) (defScope s_OrderPaper_lines) .none kV19 dc19 pm19 an19 cd19 ct19), sl19⟩) (c19 : PySem.W.codeIn K cd19 "OrderPaper.lines" = true) (k19 : PySem.W.keepIn K (.ref f19) = true)
    (i19 : PySem.W.isFn K (.ref f19) = true)
    {cda20 cc20 : Addr} {ccl20 cl20 : Value} {cdd20 cld20 : Option Addr} {ccs20 csl20 : Array (Option Value)} {vs20 : Array Value} {file20 : Str} {tf20 : Tok} {cdC20 cdB20 : ClassData}
    (a20 : PySem.W.findIn K (.ref v_FreePaper) "lines" = some (some (.ref f20)))
    (l20 : K.lookup f20 = some ⟨oc20, od20, .func (PySem.W.ksFn "lines" "FreePaper.lines" (defArgs s_FreePaper_lines) (defBody s_FreePaper_lines) (defScope s_FreePaper_lines) .none kV20 dc20 pm20 an20 (.ref cda20) ct20 cc20), sl20⟩)
    (c20 : PySem.W.codeIn K (.ref cda20) "FreePaper.lines" = true)
    (k20 : PySem.W.keepIn K (.ref f20) = true)
    (lc20 : K.lookup cda20 = some ⟨ccl20, cdd20, .fields vs20, ccs20⟩)
    (lcc20 : K.lookup cc20 = some ⟨cl20, cld20, .cell (some (.ref v_FreePaper)), csl20⟩)
    (sub20 : PySem.W.mroIn K v_FreePaper (.ref v_FreePaper) = some true)
    (c1_20 : PySem.W.clsIn K v_FreePaper = some cdC20)
    (c2_20 : PySem.W.clsIn K v_OrderPaper = some cdB20)
    (any20 : PySem.W.nsIn K cStatics "thirdparty.any" = some none)
    (x1_20 : vs20[2]? = some (.str file20 tf20))
    (x2_20 : ((l.prog.main.file : Str) == file20) = true)
    (x3_20 : Option.isSome (l.prog.main.scope.names.lookup ("super" : Str)) = false)
    (x4_20 : (cdC20.mro.dropWhile (· != .ref v_FreePaper)).drop 1 = cdB20.mro)
    (i20 : PySem.W.isFn K (.ref f20) = true)
    (a21 : PySem.W.nsIn K mainGlobals "content_words" = some (some (.ref f21))) (l21 : K.lookup f21 = some ⟨oc21, od21, .func (PySem.W.fnOf "content_words" "content_words" (defArgs s_content_words) (defBody s_content_words) (defScope s_content_words) .none kV21 dc21 pm21 an21 cd21 ct21), sl21⟩) (c21 : PySem.W.codeIn K cd21 "content_words" = true) (k21 : PySem.W.keepIn K (.ref f21) = true)
    (a22 : PySem.W.nsIn K mainGlobals "note_line" = some (some (.ref f22))) (l22 : K.lookup f22 = some ⟨oc22, od22, .func (PySem.W.fnOf "note_line" "note_line" (defArgs s_note_line) (defBody s_note_line) (defScope s_note_line) .none kV22 dc22 pm22 an22 cd22 ct22), sl22⟩) (c22 : PySem.W.codeIn K cd22 "note_line" = true) (k22 : PySem.W.keepIn K (.ref f22) = true)
    (a23 : PySem.W.nsIn K mainGlobals "_entry_lines" = some (some (.ref f23))) (l23 : K.lookup f23 = some ⟨oc23, od23, .func (PySem.W.fnOf "_entry_lines" "_entry_lines" (defArgs s__entry_lines) (defBody s__entry_lines) (defScope s__entry_lines) .none kV23 dc23 pm23 an23 cd23 ct23), sl23⟩) (c23 : PySem.W.codeIn K cd23 "_entry_lines" = true) (k23 : PySem.W.keepIn K (.ref f23) = true)
    {cda24 cc24 : Addr} {ccl24 cl24 : Value} {cdd24 cld24 : Option Addr} {ccs24 csl24 : Array (Option Value)} {vs24 : Array Value} {file24 : Str} {tf24 : Tok} {cdC24 cdB24 : ClassData}
    (a24 : PySem.W.findIn K (.ref v_UnlikePaper) "lines" = some (some (.ref f24)))
    (l24 : K.lookup f24 = some ⟨oc24, od24, .func (PySem.W.ksFn "lines" "UnlikePaper.lines" (defArgs s_UnlikePaper_lines) (defBody s_UnlikePaper_lines) (defScope s_UnlikePaper_lines) .none kV24 dc24 pm24 an24 (.ref cda24) ct24 cc24), sl24⟩)
    (c24 : PySem.W.codeIn K (.ref cda24) "UnlikePaper.lines" = true)
    (k24 : PySem.W.keepIn K (.ref f24) = true)
    (lc24 : K.lookup cda24 = some ⟨ccl24, cdd24, .fields vs24, ccs24⟩)
    (lcc24 : K.lookup cc24 = some ⟨cl24, cld24, .cell (some (.ref v_UnlikePaper)), csl24⟩)
    (sub24 : PySem.W.mroIn K v_UnlikePaper (.ref v_UnlikePaper) = some true)
    (c1_24 : PySem.W.clsIn K v_UnlikePaper = some cdC24)
    (c2_24 : PySem.W.clsIn K v_OrderPaper = some cdB24)
    (any24 : PySem.W.nsIn K cStatics "thirdparty.any" = some none)
    (x1_24 : vs24[2]? = some (.str file24 tf24))
    (x2_24 : ((l.prog.main.file : Str) == file24) = true)
    (x3_24 : Option.isSome (l.prog.main.scope.names.lookup ("super" : Str)) = false)
    (x4_24 : (cdC24.mro.dropWhile (· != .ref v_UnlikePaper)).drop 1 = cdB24.mro)
    (i24 : PySem.W.isFn K (.ref f24) = true)
    (a25 : PySem.W.nsIn K mainGlobals "_law_same" = some (some (.ref f25))) (l25 : K.lookup f25 = some ⟨oc25, od25, .func (PySem.W.fnOf "_law_same" "_law_same" (defArgs s__law_same) (defBody s__law_same) (defScope s__law_same) .none kV25 dc25 pm25 an25 cd25 ct25), sl25⟩) (c25 : PySem.W.codeIn K cd25 "_law_same" = true) (k25 : PySem.W.keepIn K (.ref f25) = true)
    (a26 : PySem.W.nsIn K mainGlobals "_law_twice" = some (some (.ref f26))) (l26 : K.lookup f26 = some ⟨oc26, od26, .func (PySem.W.fnOf "_law_twice" "_law_twice" (defArgs s__law_twice) (defBody s__law_twice) (defScope s__law_twice) .none kV26 dc26 pm26 an26 cd26 ct26), sl26⟩) (c26 : PySem.W.codeIn K cd26 "_law_twice" = true) (k26 : PySem.W.keepIn K (.ref f26) = true)
    (a27 : PySem.W.nsIn K mainGlobals "_law_is_over" = some (some (.ref f27))) (l27 : K.lookup f27 = some ⟨oc27, od27, .func (PySem.W.fnOf "_law_is_over" "_law_is_over" (defArgs s__law_is_over) (defBody s__law_is_over) (defScope s__law_is_over) .none kV27 dc27 pm27 an27 cd27 ct27), sl27⟩) (c27 : PySem.W.codeIn K cd27 "_law_is_over" = true) (k27 : PySem.W.keepIn K (.ref f27) = true)
    (a28 : PySem.W.nsIn K mainGlobals "_law_written" = some (some (.ref f28))) (l28 : K.lookup f28 = some ⟨oc28, od28, .func (PySem.W.fnOf "_law_written" "_law_written" (defArgs s__law_written) (defBody s__law_written) (defScope s__law_written) .none kV28 dc28 pm28 an28 cd28 ct28), sl28⟩) (c28 : PySem.W.codeIn K cd28 "_law_written" = true) (k28 : PySem.W.keepIn K (.ref f28) = true)
    (a29 : PySem.W.nsIn K mainGlobals "_law_entries" = some (some (.ref f29))) (l29 : K.lookup f29 = some ⟨oc29, od29, .func (PySem.W.fnOf "_law_entries" "_law_entries" (defArgs s__law_entries) (defBody s__law_entries) (defScope s__law_entries) .none kV29 dc29 pm29 an29 cd29 ct29), sl29⟩) (c29 : PySem.W.codeIn K cd29 "_law_entries" = true) (k29 : PySem.W.keepIn K (.ref f29) = true)
    (a30 : PySem.W.nsIn K mainGlobals "_law_unlike_lines" = some (some (.ref f30))) (l30 : K.lookup f30 = some ⟨oc30, od30, .func (PySem.W.fnOf "_law_unlike_lines" "_law_unlike_lines" (defArgs s__law_unlike_lines) (defBody s__law_unlike_lines) (defScope s__law_unlike_lines) .none kV30 dc30 pm30 an30 cd30 ct30), sl30⟩) (c30 : PySem.W.codeIn K cd30 "_law_unlike_lines" = true) (k30 : PySem.W.keepIn K (.ref f30) = true)
    (a31 : PySem.W.nsIn K mainGlobals "_law_is_journal" = some (some (.ref f31))) (l31 : K.lookup f31 = some ⟨oc31, od31, .func (PySem.W.fnOf "_law_is_journal" "_law_is_journal" (defArgs s__law_is_journal) (defBody s__law_is_journal) (defScope s__law_is_journal) .none kV31 dc31 pm31 an31 cd31 ct31), sl31⟩) (c31 : PySem.W.codeIn K cd31 "_law_is_journal" = true) (k31 : PySem.W.keepIn K (.ref f31) = true)
    (a32 : PySem.W.nsIn K mainGlobals "_law_unlike" = some (some (.ref f32))) (l32 : K.lookup f32 = some ⟨oc32, od32, .func (PySem.W.fnOf "_law_unlike" "_law_unlike" (defArgs s__law_unlike) (defBody s__law_unlike) (defScope s__law_unlike) .none kV32 dc32 pm32 an32 cd32 ct32), sl32⟩) (c32 : PySem.W.codeIn K cd32 "_law_unlike" = true) (k32 : PySem.W.keepIn K (.ref f32) = true)
    (a33 : PySem.W.nsIn K mainGlobals "_law_free" = some (some (.ref f33))) (l33 : K.lookup f33 = some ⟨oc33, od33, .func (PySem.W.fnOf "_law_free" "_law_free" (defArgs s__law_free) (defBody s__law_free) (defScope s__law_free) .none kV33 dc33 pm33 an33 cd33 ct33), sl33⟩) (c33 : PySem.W.codeIn K cd33 "_law_free" = true) (k33 : PySem.W.keepIn K (.ref f33) = true)
    (a34 : PySem.W.nsIn K mainGlobals "_law_plain" = some (some (.ref f34))) (l34 : K.lookup f34 = some ⟨oc34, od34, .func (PySem.W.fnOf "_law_plain" "_law_plain" (defArgs s__law_plain) (defBody s__law_plain) (defScope s__law_plain) .none kV34 dc34 pm34 an34 cd34 ct34), sl34⟩) (c34 : PySem.W.codeIn K cd34 "_law_plain" = true) (k34 : PySem.W.keepIn K (.ref f34) = true)
    (a35 : PySem.W.nsIn K mainGlobals "law" = some (some (.ref f35))) (l35 : K.lookup f35 = some ⟨oc35, od35, .func (PySem.W.fnOf "law" "law" (defArgs s_law) (defBody s_law) (defScope s_law) .none kV35 dc35 pm35 an35 cd35 ct35), sl35⟩) (c35 : PySem.W.codeIn K cd35 "law" = true) (k35 : PySem.W.keepIn K (.ref f35) = true)
    (pg_FreePaper : PySem.W.plainGet K v_FreePaper Str.empty = true)
    (hd_FreePaper : PySem.W.hasDictIn K v_FreePaper = true)
    (po_FreePaper : PySem.W.plainOver K v_FreePaper = true)
    (sa_FreePaper : PySem.W.findIn K (.ref v_FreePaper) "__setattr__" = some (some (.builtin "object.__setattr__")))
    (pg_OrderPaper : PySem.W.plainGet K v_OrderPaper Str.empty = true)
    (hd_OrderPaper : PySem.W.hasDictIn K v_OrderPaper = true)
    (po_OrderPaper : PySem.W.plainOver K v_OrderPaper = true)
    (sa_OrderPaper : PySem.W.findIn K (.ref v_OrderPaper) "__setattr__" = some (some (.builtin "object.__setattr__")))
    (pg_UnlikePaper : PySem.W.plainGet K v_UnlikePaper Str.empty = true)
    (hd_UnlikePaper : PySem.W.hasDictIn K v_UnlikePaper = true)
    (po_UnlikePaper : PySem.W.plainOver K v_UnlikePaper = true)
    (sa_UnlikePaper : PySem.W.findIn K (.ref v_UnlikePaper) "__setattr__" = some (some (.builtin "object.__setattr__")))
    (mk_FreePaper : PySem.W.makesIn K v_FreePaper = true)
    (kc_FreePaper : PySem.W.keepIn K (.ref v_FreePaper) = true)
    (mk_OrderPaper : PySem.W.makesIn K v_OrderPaper = true)
    (kc_OrderPaper : PySem.W.keepIn K (.ref v_OrderPaper) = true)
    (mk_UnlikePaper : PySem.W.makesIn K v_UnlikePaper = true)
    (kc_UnlikePaper : PySem.W.keepIn K (.ref v_UnlikePaper) = true)
    (tf14 : PySem.W.typeIn K (.ref f14) = some (.type "function"))
    (fi14 : PySem.W.fnIn K f14 = true)
    (tf19 : PySem.W.typeIn K (.ref f19) = some (.type "function"))
    (fi19 : PySem.W.fnIn K f19 = true)
    (na_UnlikePaper_one : PySem.W.findIn K (.ref v_UnlikePaper) "one" = some none)
    (na_OrderPaper_over : PySem.W.findIn K (.ref v_OrderPaper) "over" = some none)
    (na_FreePaper_over : PySem.W.findIn K (.ref v_FreePaper) "over" = some none)
    (na_UnlikePaper_over : PySem.W.findIn K (.ref v_UnlikePaper) "over" = some none)
    (na_FreePaper_statuses : PySem.W.findIn K (.ref v_FreePaper) "statuses" = some none)
    (na_UnlikePaper_two : PySem.W.findIn K (.ref v_UnlikePaper) "two" = some none)
    (is_hn : PySem.W.specialIn K (.builtin "object.__class__") "__get__" = some (some (.builtin "getset_descriptor.__get__")))
    (is_ht : PySem.W.takesIn K (.builtin "object.__class__") = some true)
    (ha_OrderPaper : PySem.W.findIn K (.ref v_OrderPaper) "__class__" = some (some (.builtin "object.__class__")))
    (ho_OrderPaper : PySem.W.mroIn K v_OrderPaper (.type "object") = some true)
    (ha_FreePaper : PySem.W.findIn K (.ref v_FreePaper) "__class__" = some (some (.builtin "object.__class__")))
    (ho_FreePaper : PySem.W.mroIn K v_FreePaper (.type "object") = some true)
    (ha_UnlikePaper : PySem.W.findIn K (.ref v_UnlikePaper) "__class__" = some (some (.builtin "object.__class__")))
    (ho_UnlikePaper : PySem.W.mroIn K v_UnlikePaper (.type "object") = some true)
    (ki_0 : PySem.W.kitOne K (.ref v_OrderPaper) (.ref v_FreePaper) = some false)
    (ki_1 : PySem.W.kitOne K (.ref v_FreePaper) (.ref v_FreePaper) = some true)
    (ki_2 : PySem.W.kitOne K (.ref v_UnlikePaper) (.ref v_FreePaper) = some false)
    (ki_3 : PySem.W.kitOne K (.type "NoneType") (.ref v_FreePaper) = some false)
    (ki_4 : PySem.W.kitOne K (.type "bool") (.ref v_FreePaper) = some false)
    (ki_5 : PySem.W.kitOne K (.type "int") (.ref v_FreePaper) = some false)
    (ki_6 : PySem.W.kitOne K (.type "str") (.ref v_FreePaper) = some false)
    (ki_7 : PySem.W.kitOne K (.type "list") (.ref v_FreePaper) = some false)
    (ki_8 : PySem.W.kitOne K (.type "tuple") (.ref v_FreePaper) = some false)
    (ki_9 : PySem.W.kitOne K (.type "dict") (.ref v_FreePaper) = some false)
    (ki_10 : PySem.W.kitOne K (.ref v_OrderPaper) (.ref v_OrderPaper) = some true)
    (ki_11 : PySem.W.kitOne K (.ref v_FreePaper) (.ref v_OrderPaper) = some true)
    (ki_12 : PySem.W.kitOne K (.ref v_UnlikePaper) (.ref v_OrderPaper) = some true)
    (ki_13 : PySem.W.kitOne K (.type "NoneType") (.ref v_OrderPaper) = some false)
    (ki_14 : PySem.W.kitOne K (.type "bool") (.ref v_OrderPaper) = some false)
    (ki_15 : PySem.W.kitOne K (.type "int") (.ref v_OrderPaper) = some false)
    (ki_16 : PySem.W.kitOne K (.type "str") (.ref v_OrderPaper) = some false)
    (ki_17 : PySem.W.kitOne K (.type "list") (.ref v_OrderPaper) = some false)
    (ki_18 : PySem.W.kitOne K (.type "tuple") (.ref v_OrderPaper) = some false)
    (ki_19 : PySem.W.kitOne K (.type "dict") (.ref v_OrderPaper) = some false)
    (ki_20 : PySem.W.kitOne K (.ref v_OrderPaper) (.ref v_UnlikePaper) = some false)
    (ki_21 : PySem.W.kitOne K (.ref v_FreePaper) (.ref v_UnlikePaper) = some false)
    (ki_22 : PySem.W.kitOne K (.ref v_UnlikePaper) (.ref v_UnlikePaper) = some true)
    (ki_23 : PySem.W.kitOne K (.type "NoneType") (.ref v_UnlikePaper) = some false)
    (ki_24 : PySem.W.kitOne K (.type "bool") (.ref v_UnlikePaper) = some false)
    (ki_25 : PySem.W.kitOne K (.type "int") (.ref v_UnlikePaper) = some false)
    (ki_26 : PySem.W.kitOne K (.type "str") (.ref v_UnlikePaper) = some false)
    (ki_27 : PySem.W.kitOne K (.type "list") (.ref v_UnlikePaper) = some false)
    (ki_28 : PySem.W.kitOne K (.type "tuple") (.ref v_UnlikePaper) = some false)
    (ki_29 : PySem.W.kitOne K (.type "dict") (.ref v_UnlikePaper) = some false)
    (z_int : PySem.W.nsIn K mainGlobals "int" = some none)
    (z_isinstance : PySem.W.nsIn K mainGlobals "isinstance" = some none)
    (z_len : PySem.W.nsIn K mainGlobals "len" = some none)
    (z_list : PySem.W.nsIn K mainGlobals "list" = some none)
    (z_range : PySem.W.nsIn K mainGlobals "range" = some none)
    (z_sorted : PySem.W.nsIn K mainGlobals "sorted" = some none)
    (z_str : PySem.W.nsIn K mainGlobals "str" = some none)
    (z_sum : PySem.W.nsIn K mainGlobals "sum" = some none)
    (z_super : PySem.W.nsIn K mainGlobals "super" = some none)
    (z_tuple : PySem.W.nsIn K mainGlobals "tuple" = some none)
    (z__NOTHING : PySem.W.nsIn K mainGlobals "_NOTHING" = some (some (.str "-" tk__NOTHING)))
    (z__STRUCK : PySem.W.nsIn K mainGlobals "_STRUCK" = some (some (.str "struck" tk__STRUCK)))
    : ∃ fd : FuncData, (∀ (s : Shared) (v : Value), BindsTo s fd ⟨[v], []⟩ [("script", v)]) ∧ ∀ base : Heap, K.In base → base.Ns mainGlobals mg → FnOk l.prog w K mg base (L2.CX l.prog w) 7 fa fd ["script"] (spOf K 1 F_law) := by
  have e := hfa.symm.trans (PySem.W.mg_of X G a35)
  cases e
  obtain rfl : v_FreePaper = clsA K "FreePaper" := (clsA_of ac_FreePaper).symm
  obtain rfl : v_OrderPaper = clsA K "OrderPaper" := (clsA_of ac_OrderPaper).symm
  obtain rfl : v_UnlikePaper = clsA K "UnlikePaper" := (clsA_of ac_UnlikePaper).symm
  have cl_FreePaper : Cls K (clsA K "FreePaper") := ⟨pg_FreePaper, hd_FreePaper, po_FreePaper, sa_FreePaper⟩
  have cl_OrderPaper : Cls K (clsA K "OrderPaper") := ⟨pg_OrderPaper, hd_OrderPaper, po_OrderPaper, sa_OrderPaper⟩
  have cl_UnlikePaper : Cls K (clsA K "UnlikePaper") := ⟨pg_UnlikePaper, hd_UnlikePaper, po_UnlikePaper, sa_UnlikePaper⟩
  have F0 := fun_mk (st := s__law_draw) l0 c0 k0
  have F1 := fun_mk (st := s__law_word) l1 c1 k1
  have F2 := fun_mk (st := s__law_bumped) l2 c2 k2
  have F3 := fun_mk (st := s__law_names) l3 c3 k3
  have F4 := fun_mk (st := s__law_pot) l4 c4 k4
  have F5 := fun_mk (st := s__law_ident) l5 c5 k5
  have F6 := fun_mk (st := s__law_version) l6 c6 k6
  have F7 := fun_mk (st := s__law_some) l7 c7 k7
  have F8 := fun_mk (st := s__law_cause) l8 c8 k8
  have F9 := fun_mk (st := s__law_stretch) l9 c9 k9
  have F10 := fun_mk (st := s__law_content) l10 c10 k10
  have F11 := fun_mk (st := s__law_note) l11 c11 k11
  have F12 := fun_mk (st := s__law_entry) l12 c12 k12
  have F13 := fun_mk (st := s__law_journal) l13 c13 k13
  have F14 := fun_mk (st := s_OrderPaper___init__) l14 c14 k14
  have F15 := funS_mk (st := s_FreePaper___init__) (P := l.prog) l15 c15 k15 lc15 x1_15 x2_15 x3_15 lcc15 sub15 c1_15 c2_15 x4_15 any15 rfl
  have F16 := funS_mk (st := s_UnlikePaper___init__) (P := l.prog) l16 c16 k16 lc16 x1_16 x2_16 x3_16 lcc16 sub16 c1_16 c2_16 x4_16 any16 rfl
  have F17 := fun_mk (st := s__law_over) l17 c17 k17
  have F18 := fun_mk (st := s__law_statuses) l18 c18 k18
  have F19 := fun_mk (st := s_OrderPaper_lines) l19 c19 k19
  have F20 := funS_mk (st := s_FreePaper_lines) (P := l.prog) l20 c20 k20 lc20 x1_20 x2_20 x3_20 lcc20 sub20 c1_20 c2_20 x4_20 any20 rfl
  have F21 := fun_mk (st := s_content_words) l21 c21 k21
  have F22 := fun_mk (st := s_note_line) l22 c22 k22
  have F23 := fun_mk (st := s__entry_lines) l23 c23 k23
  have F24 := funS_mk (st := s_UnlikePaper_lines) (P := l.prog) l24 c24 k24 lc24 x1_24 x2_24 x3_24 lcc24 sub24 c1_24 c2_24 x4_24 any24 rfl
  have F25 := fun_mk (st := s__law_same) l25 c25 k25
  have F26 := fun_mk (st := s__law_twice) l26 c26 k26
  have F27 := fun_mk (st := s__law_is_over) l27 c27 k27
  have F28 := fun_mk (st := s__law_written) l28 c28 k28
  have F29 := fun_mk (st := s__law_entries) l29 c29 k29
  have F30 := fun_mk (st := s__law_unlike_lines) l30 c30 k30
  have F31 := fun_mk (st := s__law_is_journal) l31 c31 k31
  have F32 := fun_mk (st := s__law_unlike) l32 c32 k32
  have F33 := fun_mk (st := s__law_free) l33 c33 k33
  have F34 := fun_mk (st := s__law_plain) l34 c34 k34
  have F35 := fun_mk (st := s_law) l35 c35 k35
  have b0 := F0.binds (ps := ["pot", "size"]) fun _ _ _ _ _ _ us hl => match us, hl with | [_, _], _ => rfl
  have b1 := F1.binds (ps := ["pot", "size"]) fun _ _ _ _ _ _ us hl => match us, hl with | [_, _], _ => rfl
  have b2 := F2.binds (ps := ["word", "names"]) fun _ _ _ _ _ _ us hl => match us, hl with | [_, _], _ => rfl
  have b3 := F3.binds (ps := ["pot", "count"]) fun _ _ _ _ _ _ us hl => match us, hl with | [_, _], _ => rfl
  have b4 := F4.binds (ps := ["script", "place"]) fun _ _ _ _ _ _ us hl => match us, hl with | [_, _], _ => rfl
  have b5 := F5.binds (ps := ["pot"]) fun _ _ _ _ _ _ us hl => match us, hl with | [_], _ => rfl
  have b6 := F6.binds (ps := ["pot"]) fun _ _ _ _ _ _ us hl => match us, hl with | [_], _ => rfl
  have b7 := F7.binds (ps := ["pot", "names"]) fun _ _ _ _ _ _ us hl => match us, hl with | [_, _], _ => rfl
  have b8 := F8.binds (ps := ["pot", "names"]) fun _ _ _ _ _ _ us hl => match us, hl with | [_, _], _ => rfl
  have b9 := F9.binds (ps := ["pot"]) fun _ _ _ _ _ _ us hl => match us, hl with | [_], _ => rfl
  have b10 := F10.binds (ps := ["pot", "names"]) fun _ _ _ _ _ _ us hl => match us, hl with | [_, _], _ => rfl
  have b11 := F11.binds (ps := ["pot", "names"]) fun _ _ _ _ _ _ us hl => match us, hl with | [_, _], _ => rfl
  have b12 := F12.binds (ps := ["pot", "names"]) fun _ _ _ _ _ _ us hl => match us, hl with | [_, _], _ => rfl
  have b13 := F13.binds (ps := ["pot", "names"]) fun _ _ _ _ _ _ us hl => match us, hl with | [_, _], _ => rfl
  have b14 := F14.binds (ps := ["self", "over"]) fun _ _ _ _ _ _ us hl => match us, hl with | [_, _], _ => rfl
  have b15 := F15.binds (ps := ["self", "over", "statuses"]) fun _ _ _ _ _ _ us hl => match us, hl with | [_, _, _], _ => rfl
  have b16 := F16.binds (ps := ["self", "over", "one", "two"]) fun _ _ _ _ _ _ us hl => match us, hl with | [_, _, _, _], _ => rfl
  have b17 := F17.binds (ps := ["pot"]) fun _ _ _ _ _ _ us hl => match us, hl with | [_], _ => rfl
  have b18 := F18.binds (ps := ["pot", "names"]) fun _ _ _ _ _ _ us hl => match us, hl with | [_, _], _ => rfl
  have b19 := F19.binds (ps := ["self"]) fun _ _ _ _ _ _ us hl => match us, hl with | [_], _ => rfl
  have b20 := F20.binds (ps := ["self"]) fun _ _ _ _ _ _ us hl => match us, hl with | [_], _ => rfl
  have b21 := F21.binds (ps := ["content"]) fun _ _ _ _ _ _ us hl => match us, hl with | [_], _ => rfl
  have b22 := F22.binds (ps := ["note"]) fun _ _ _ _ _ _ us hl => match us, hl with | [_], _ => rfl
  have b23 := F23.binds (ps := ["journal"]) fun _ _ _ _ _ _ us hl => match us, hl with | [_], _ => rfl
  have b24 := F24.binds (ps := ["self"]) fun _ _ _ _ _ _ us hl => match us, hl with | [_], _ => rfl
  have b25 := F25.binds (ps := ["told", "due"]) fun _ _ _ _ _ _ us hl => match us, hl with | [_, _], _ => rfl
  have b26 := F26.binds (ps := ["paper", "due"]) fun _ _ _ _ _ _ us hl => match us, hl with | [_, _], _ => rfl
  have b27 := F27.binds (ps := ["paper", "word"]) fun _ _ _ _ _ _ us hl => match us, hl with | [_, _], _ => rfl
  have b28 := F28.binds (ps := ["note"]) fun _ _ _ _ _ _ us hl => match us, hl with | [_], _ => rfl
  have b29 := F29.binds (ps := ["journal"]) fun _ _ _ _ _ _ us hl => match us, hl with | [_], _ => rfl
  have b30 := F30.binds (ps := ["word", "first", "second"]) fun _ _ _ _ _ _ us hl => match us, hl with | [_, _, _], _ => rfl
  have b31 := F31.binds (ps := ["told", "journal"]) fun _ _ _ _ _ _ us hl => match us, hl with | [_, _], _ => rfl
  have b32 := F32.binds (ps := ["paper", "word", "first", "second"]) fun _ _ _ _ _ _ us hl => match us, hl with | [_, _, _, _], _ => rfl
  have b33 := F33.binds (ps := ["paper", "word", "statuses"]) fun _ _ _ _ _ _ us hl => match us, hl with | [_, _, _], _ => rfl
  have b34 := F34.binds (ps := ["paper", "word"]) fun _ _ _ _ _ _ us hl => match us, hl with | [_, _], _ => rfl
  let T : Tx l.prog K mg := { a__law_draw := f0, d__law_draw := _, f__law_draw := F0, m__law_draw := PySem.W.mg_of X G a0, b__law_draw := b0, a__law_word := f1, d__law_word := _, f__law_word := F1, m__law_word := PySem.W.mg_of X G a1, b__law_word := b1, a__law_bumped := f2, d__law_bumped := _, f__law_bumped := F2, m__law_bumped := PySem.W.mg_of X G a2, b__law_bumped := b2, a__law_names := f3, d__law_names := _, f__law_names := F3, m__law_names := PySem.W.mg_of X G a3, b__law_names := b3, a__law_pot := f4, d__law_pot := _, f__law_pot := F4, m__law_pot := PySem.W.mg_of X G a4, b__law_pot := b4, a__law_ident := f5, d__law_ident := _, f__law_ident := F5, m__law_ident := PySem.W.mg_of X G a5, b__law_ident := b5, a__law_version := f6, d__law_version := _, f__law_version := F6, m__law_version := PySem.W.mg_of X G a6, b__law_version := b6, a__law_some := f7, d__law_some := _, f__law_some := F7, m__law_some := PySem.W.mg_of X G a7, b__law_some := b7, a__law_cause := f8, d__law_cause := _, f__law_cause := F8, m__law_cause := PySem.W.mg_of X G a8, b__law_cause := b8, a__law_stretch := f9, d__law_stretch := _, f__law_stretch := F9, m__law_stretch := PySem.W.mg_of X G a9, b__law_stretch := b9, a__law_content := f10, d__law_content := _, f__law_content := F10, m__law_content := PySem.W.mg_of X G a10, b__law_content := b10, a__law_note := f11, d__law_note := _, f__law_note := F11, m__law_note := PySem.W.mg_of X G a11, b__law_note := b11, a__law_entry := f12, d__law_entry := _, f__law_entry := F12, m__law_entry := PySem.W.mg_of X G a12, b__law_entry := b12, a__law_journal := f13, d__law_journal := _, f__law_journal := F13, m__law_journal := PySem.W.mg_of X G a13, b__law_journal := b13, a_OrderPaper___init__ := f14, d_OrderPaper___init__ := _, f_OrderPaper___init__ := F14, b_OrderPaper___init__ := b14, a_FreePaper___init__ := f15, d_FreePaper___init__ := _, cc_FreePaper___init__ := cc15, f_FreePaper___init__ := F15, b_FreePaper___init__ := b15, a_UnlikePaper___init__ := f16, d_UnlikePaper___init__ := _, cc_UnlikePaper___init__ := cc16, f_UnlikePaper___init__ := F16, b_UnlikePaper___init__ := b16, a__law_over := f17, d__law_over := _, f__law_over := F17, m__law_over := PySem.W.mg_of X G a17, b__law_over := b17, a__law_statuses := f18, d__law_statuses := _, f__law_statuses := F18, m__law_statuses := PySem.W.mg_of X G a18, b__law_statuses := b18, a_OrderPaper_lines := f19, d_OrderPaper_lines := _, f_OrderPaper_lines := F19, b_OrderPaper_lines := b19, a_FreePaper_lines := f20, d_FreePaper_lines := _, cc_FreePaper_lines := cc20, f_FreePaper_lines := F20, b_FreePaper_lines := b20, a_content_words := f21, d_content_words := _, f_content_words := F21, m_content_words := PySem.W.mg_of X G a21, b_content_words := b21, a_note_line := f22, d_note_line := _, f_note_line := F22, m_note_line := PySem.W.mg_of X G a22, b_note_line := b22, a__entry_lines := f23, d__entry_lines := _, f__entry_lines := F23, m__entry_lines := PySem.W.mg_of X G a23, b__entry_lines := b23, a_UnlikePaper_lines := f24, d_UnlikePaper_lines := _, cc_UnlikePaper_lines := cc24, f_UnlikePaper_lines := F24, b_UnlikePaper_lines := b24, a__law_same := f25, d__law_same := _, f__law_same := F25, m__law_same := PySem.W.mg_of X G a25, b__law_same := b25, a__law_twice := f26, d__law_twice := _, f__law_twice := F26, m__law_twice := PySem.W.mg_of X G a26, b__law_twice := b26, a__law_is_over := f27, d__law_is_over := _, f__law_is_over := F27, m__law_is_over := PySem.W.mg_of X G a27, b__law_is_over := b27, a__law_written := f28, d__law_written := _, f__law_written := F28, m__law_written := PySem.W.mg_of X G a28, b__law_written := b28, a__law_entries := f29, d__law_entries := _, f__law_entries := F29, m__law_entries := PySem.W.mg_of X G a29, b__law_entries := b29, a__law_unlike_lines := f30, d__law_unlike_lines := _, f__law_unlike_lines := F30, m__law_unlike_lines := PySem.W.mg_of X G a30, b__law_unlike_lines := b30, a__law_is_journal := f31, d__law_is_journal := _, f__law_is_journal := F31, m__law_is_journal := PySem.W.mg_of X G a31, b__law_is_journal := b31, a__law_unlike := f32, d__law_unlike := _, f__law_unlike := F32, m__law_unlike := PySem.W.mg_of X G a32, b__law_unlike := b32, a__law_free := f33, d__law_free := _, f__law_free := F33, m__law_free := PySem.W.mg_of X G a33, b__law_free := b33, a__law_plain := f34, d__law_plain := _, f__law_plain := F34, m__law_plain := PySem.W.mg_of X G a34, b__law_plain := b34, a_law := fa, d_law := _, f_law := F35, cl_FreePaper := cl_FreePaper, cl_OrderPaper := cl_OrderPaper, cl_UnlikePaper := cl_UnlikePaper, mc_FreePaper := PySem.W.mg_of X G ac_FreePaper, mc_OrderPaper := PySem.W.mg_of X G ac_OrderPaper, mc_UnlikePaper := PySem.W.mg_of X G ac_UnlikePaper, mk_FreePaper := ⟨mk_FreePaper, a15, i15, kc_FreePaper⟩, mk_OrderPaper := ⟨mk_OrderPaper, a14, i14, kc_OrderPaper⟩, mk_UnlikePaper := ⟨mk_UnlikePaper, a16, i16, kc_UnlikePaper⟩, ma_FreePaper_lines := ⟨a20, i20, k20⟩, ma_OrderPaper_lines := ⟨a19, i19, k19⟩, ma_UnlikePaper_lines := ⟨a24, i24, k24⟩, fo_one := (.cons cl_UnlikePaper na_UnlikePaper_one .nil), fo_over := (.cons cl_OrderPaper na_OrderPaper_over (.cons cl_FreePaper na_FreePaper_over (.cons cl_UnlikePaper na_UnlikePaper_over .nil))), fo_statuses := (.cons cl_FreePaper na_FreePaper_statuses .nil), fo_two := (.cons cl_UnlikePaper na_UnlikePaper_two .nil), su_OrderPaper___init__ := ⟨a14, tf14, fi14⟩, su_OrderPaper_lines := ⟨a19, tf19, fi19⟩, is_ := ⟨(all_cons ⟨cl_OrderPaper, ha_OrderPaper, is_hn, is_ht, ho_OrderPaper⟩ (all_cons ⟨cl_FreePaper, ha_FreePaper, is_hn, is_ht, ho_FreePaper⟩ (all_cons ⟨cl_UnlikePaper, ha_UnlikePaper, is_hn, is_ht, ho_UnlikePaper⟩ (fun _ h => absurd h (by simp))))), (all_cons ki_0 (all_cons ki_1 (all_cons ki_2 (all_cons ki_3 (all_cons ki_4 (all_cons ki_5 (all_cons ki_6 (all_cons ki_7 (all_cons ki_8 (all_cons ki_9 (all_cons ki_10 (all_cons ki_11 (all_cons ki_12 (all_cons ki_13 (all_cons ki_14 (all_cons ki_15 (all_cons ki_16 (all_cons ki_17 (all_cons ki_18 (all_cons ki_19 (all_cons ki_20 (all_cons ki_21 (all_cons ki_22 (all_cons ki_23 (all_cons ki_24 (all_cons ki_25 (all_cons ki_26 (all_cons ki_27 (all_cons ki_28 (all_cons ki_29 (fun _ h => absurd h (by simp))))))))))))))))))))))))))))))))⟩, n_int := PySem.W.mg_none_of X G z_int, n_isinstance := PySem.W.mg_none_of X G z_isinstance, n_len := PySem.W.mg_none_of X G z_len, n_list := PySem.W.mg_none_of X G z_list, n_range := PySem.W.mg_none_of X G z_range, n_sorted := PySem.W.mg_none_of X G z_sorted, n_str := PySem.W.mg_none_of X G z_str, n_sum := PySem.W.mg_none_of X G z_sum, n_super := PySem.W.mg_none_of X G z_super, n_tuple := PySem.W.mg_none_of X G z_tuple, t__NOTHING := tk__NOTHING, g__NOTHING := PySem.W.mg_of X G z__NOTHING, t__STRUCK := tk__STRUCK, g__STRUCK := PySem.W.mg_of X G z__STRUCK }
  exact ⟨T.d_law, fun s v => .of_eq rfl, fun base _ _ => ok_law T⟩
end Law
open PySem PySem.W PyProof.Rows
set_option maxHeartbeats 0 in
theorem PySem.Challenge.cw_hearthdue_k37_papers_lines_holds : PySem.Challenge.rw_hearthdue_k37_papers_lines.Holds := by
  w_on; o_law; k_head; (case hw => w_witness2)
  k_fill
  refine L2.walk_of (l := PySem.Challenge.rw_hearthdue_k37_papers_lines) (n := 63) (k := 7) (x := "script") (CX := fun w => L2.CX PySem.Challenge.pw_hearthdue_k37_papers_lines w) (sp := fun w => DL.spOf _ 1 Law.F_law) rfl (by decide) rfl ⟨rfl, by decide, by decide⟩ (fun w h Y => PySem.W.kIn_of Y) ?F (fun w H a ns hl _ hS => DL.sp_law hl hS (Law.law_true ns hl)) (fun _ _ _ _ _ h => DL.cx_false h)
  case F =>
    intro w mg fa h KX G hmg
    refine' Law.all_mk KX G hmg ?ac_FreePaper ?ac_OrderPaper ?ac_UnlikePaper ?a0 ?l0 ?c0 ?k0 ?a1 ?l1 ?c1 ?k1 ?a2 ?l2 ?c2 ?k2 ?a3 ?l3 ?c3 ?k3 ?a4 ?l4 ?c4 ?k4 ?a5 ?l5 ?c5 ?k5 ?a6 ?l6 ?c6 ?k6 ?a7 ?l7 ?c7 ?k7 ?a8 ?l8 ?c8 ?k8 ?a9 ?l9 ?c9 ?k9 ?a10 ?l10 ?c10 ?k10 ?a11 ?l11 ?c11 ?k11 ?a12 ?l12 ?c12 ?k12 ?a13 ?l13 ?c13 ?k13 ?a14 ?l14 ?c14 ?k14 ?i14 ?a15 ?l15 ?c15 ?k15 ?lc15 ?lcc15 ?sub15 ?c1_15 ?c2_15 ?any15 ?x1_15 ?x2_15 ?x3_15 ?x4_15 ?i15 ?a16 ?l16 ?c16 ?k16 ?lc16 ?lcc16 ?sub16 ?c1_16 ?c2_16 ?any16 ?x1_16 ?x2_16 ?x3_16 ?x4_16 ?i16 ?a17 ?l17 ?c17 ?k17 ?a18 ?l18 ?c18 ?k18 ?a19 ?l19 ?c19 ?k19 ?i19 ?a20 ?l20 ?c20 ?k20 ?lc20 ?lcc20 ?sub20 ?c1_20 ?c2_20 ?any20 ?x1_20 ?x2_20 ?x3_20 ?x4_20 ?i20 ?a21 ?l21 ?c21 ?k21 ?a22 ?l22 ?c22 ?k22 ?a23 ?l23 ?c23 ?k23 ?a24 ?l24 ?c24 ?k24 ?lc24 ?lcc24 ?sub24 ?c1_24 ?c2_24 ?any24 ?x1_24 ?x2_24 ?x3_24 ?x4_24 ?i24 ?a25 ?l25 ?c25 ?k25 ?a26 ?l26 ?c26 ?k26 ?a27 ?l27 ?c27 ?k27 ?a28 ?l28 ?c28 ?k28 ?a29 ?l29 ?c29 ?k29 ?a30 ?l30 ?c30 ?k30 ?a31 ?l31 ?c31 ?k31 ?a32 ?l32 ?c32 ?k32 ?a33 ?l33 ?c33 ?k33 ?a34 ?l34 ?c34 ?k34 ?a35 ?l35 ?c35 ?k35 ?pg_FreePaper ?hd_FreePaper ?po_FreePaper ?sa_FreePaper ?pg_OrderPaper ?hd_OrderPaper ?po_OrderPaper ?sa_OrderPaper ?pg_UnlikePaper ?hd_UnlikePaper ?po_UnlikePaper ?sa_UnlikePaper ?mk_FreePaper ?kc_FreePaper ?mk_OrderPaper ?kc_OrderPaper ?mk_UnlikePaper ?kc_UnlikePaper ?tf14 ?fi14 ?tf19 ?fi19 ?na_UnlikePaper_one ?na_OrderPaper_over ?na_FreePaper_over ?na_UnlikePaper_over ?na_FreePaper_statuses ?na_UnlikePaper_two ?is_hn ?is_ht ?ha_OrderPaper ?ho_OrderPaper ?ha_FreePaper ?ho_FreePaper ?ha_UnlikePaper ?ho_UnlikePaper ?ki_0 ?ki_1 ?ki_2 ?ki_3 ?ki_4 ?ki_5 ?ki_6 ?ki_7 ?ki_8 ?ki_9 ?ki_10 ?ki_11 ?ki_12 ?ki_13 ?ki_14 ?ki_15 ?ki_16 ?ki_17 ?ki_18 ?ki_19 ?ki_20 ?ki_21 ?ki_22 ?ki_23 ?ki_24 ?ki_25 ?ki_26 ?ki_27 ?ki_28 ?ki_29 ?z_int ?z_isinstance ?z_len ?z_list ?z_range ?z_sorted ?z_str ?z_sum ?z_super ?z_tuple ?z__NOTHING ?z__STRUCK
    (case ac_FreePaper => k_is); (case ac_OrderPaper => k_is); (case ac_UnlikePaper => k_is); (case a0 => k_is); (case l0 => k_is); (case c0 => k_is); (case k0 => k_is); (case a1 => k_is); (case l1 => k_is); (case c1 => k_is); (case k1 => k_is); (case a2 => k_is); (case l2 => k_is); (case c2 => k_is); (case k2 => k_is); (case a3 => k_is); (case l3 => k_is); (case c3 => k_is); (case k3 => k_is); (case a4 => k_is); (case l4 => k_is); (case c4 => k_is); (case k4 => k_is); (case a5 => k_is); (case l5 => k_is); (case c5 => k_is); (case k5 => k_is); (case a6 => k_is); (case l6 => k_is); (case c6 => k_is); (case k6 => k_is); (case a7 => k_is); (case l7 => k_is); (case c7 => k_is); (case k7 => k_is); (case a8 => k_is); (case l8 => k_is); (case c8 => k_is); (case k8 => k_is); (case a9 => k_is); (case l9 => k_is); (case c9 => k_is); (case k9 => k_is); (case a10 => k_is); (case l10 => k_is); (case c10 => k_is); (case k10 => k_is); (case a11 => k_is); (case l11 => k_is); (case c11 => k_is); (case k11 => k_is); (case a12 => k_is); (case l12 => k_is); (case c12 => k_is); (case k12 => k_is); (case a13 => k_is); (case l13 => k_is); (case c13 => k_is); (case k13 => k_is); (case a14 => k_is); (case l14 => k_is); (case c14 => k_is); (case k14 => k_is); (case i14 => k_is); (case a15 => k_is); (case l15 => k_is); (case c15 => k_is); (case k15 => k_is); (case lc15 => k_is); (case lcc15 => k_is); (case sub15 => k_is); (case c1_15 => k_is); (case c2_15 => k_is); (case any15 => k_is); (case i15 => k_is); (case a16 => k_is); (case l16 => k_is); (case c16 => k_is); (case k16 => k_is); (case lc16 => k_is); (case lcc16 => k_is); (case sub16 => k_is); (case c1_16 => k_is); (case c2_16 => k_is); (case any16 => k_is); (case i16 => k_is); (case a17 => k_is); (case l17 => k_is); (case c17 => k_is); (case k17 => k_is); (case a18 => k_is); (case l18 => k_is); (case c18 => k_is); (case k18 => k_is); (case a19 => k_is); (case l19 => k_is); (case c19 => k_is); (case k19 => k_is); (case i19 => k_is); (case a20 => k_is); (case l20 => k_is); (case c20 => k_is); (case k20 => k_is); (case lc20 => k_is); (case lcc20 => k_is); (case sub20 => k_is); (case c1_20 => k_is); (case c2_20 => k_is); (case any20 => k_is); (case i20 => k_is); (case a21 => k_is); (case l21 => k_is); (case c21 => k_is); (case k21 => k_is); (case a22 => k_is); (case l22 => k_is); (case c22 => k_is); (case k22 => k_is); (case a23 => k_is); (case l23 => k_is); (case c23 => k_is); (case k23 => k_is); (case a24 => k_is); (case l24 => k_is); (case c24 => k_is); (case k24 => k_is); (case lc24 => k_is); (case lcc24 => k_is); (case sub24 => k_is); (case c1_24 => k_is); (case c2_24 => k_is); (case any24 => k_is); (case i24 => k_is); (case a25 => k_is); (case l25 => k_is); (case c25 => k_is); (case k25 => k_is); (case a26 => k_is); (case l26 => k_is); (case c26 => k_is); (case k26 => k_is); (case a27 => k_is); (case l27 => k_is); (case c27 => k_is); (case k27 => k_is); (case a28 => k_is); (case l28 => k_is); (case c28 => k_is); (case k28 => k_is); (case a29 => k_is); (case l29 => k_is); (case c29 => k_is); (case k29 => k_is); (case a30 => k_is); (case l30 => k_is); (case c30 => k_is); (case k30 => k_is); (case a31 => k_is); (case l31 => k_is); (case c31 => k_is); (case k31 => k_is); (case a32 => k_is); (case l32 => k_is); (case c32 => k_is); (case k32 => k_is); (case a33 => k_is); (case l33 => k_is); (case c33 => k_is); (case k33 => k_is); (case a34 => k_is); (case l34 => k_is); (case c34 => k_is); (case k34 => k_is); (case a35 => k_is); (case l35 => k_is); (case c35 => k_is); (case k35 => k_is); (case pg_FreePaper => k_is); (case hd_FreePaper => k_is); (case po_FreePaper => k_is); (case sa_FreePaper => k_is); (case pg_OrderPaper => k_is); (case hd_OrderPaper => k_is); (case po_OrderPaper => k_is); (case sa_OrderPaper => k_is); (case pg_UnlikePaper => k_is); (case hd_UnlikePaper => k_is); (case po_UnlikePaper => k_is); (case sa_UnlikePaper => k_is); (case mk_FreePaper => k_is); (case kc_FreePaper => k_is); (case mk_OrderPaper => k_is); (case kc_OrderPaper => k_is); (case mk_UnlikePaper => k_is); (case kc_UnlikePaper => k_is); (case tf14 => k_is); (case fi14 => k_is); (case tf19 => k_is); (case fi19 => k_is); (case na_UnlikePaper_one => k_is); (case na_OrderPaper_over => k_is); (case na_FreePaper_over => k_is); (case na_UnlikePaper_over => k_is); (case na_FreePaper_statuses => k_is); (case na_UnlikePaper_two => k_is); (case is_hn => k_is); (case is_ht => k_is); (case ha_OrderPaper => k_is); (case ho_OrderPaper => k_is); (case ha_FreePaper => k_is); (case ho_FreePaper => k_is); (case ha_UnlikePaper => k_is); (case ho_UnlikePaper => k_is); (case ki_0 => kit_is); (case ki_1 => kit_is); (case ki_2 => kit_is); (case ki_3 => kit_is); (case ki_4 => kit_is); (case ki_5 => kit_is); (case ki_6 => kit_is); (case ki_7 => kit_is); (case ki_8 => kit_is); (case ki_9 => kit_is); (case ki_10 => kit_is); (case ki_11 => kit_is); (case ki_12 => kit_is); (case ki_13 => kit_is); (case ki_14 => kit_is); (case ki_15 => kit_is); (case ki_16 => kit_is); (case ki_17 => kit_is); (case ki_18 => kit_is); (case ki_19 => kit_is); (case ki_20 => kit_is); (case ki_21 => kit_is); (case ki_22 => kit_is); (case ki_23 => kit_is); (case ki_24 => kit_is); (case ki_25 => kit_is); (case ki_26 => kit_is); (case ki_27 => kit_is); (case ki_28 => kit_is); (case ki_29 => kit_is); (case z_int => k_is); (case z_isinstance => k_is); (case z_len => k_is); (case z_list => k_is); (case z_range => k_is); (case z_sorted => k_is); (case z_str => k_is); (case z_sum => k_is); (case z_super => k_is); (case z_tuple => k_is); (case z__NOTHING => k_is); (case z__STRUCK => k_is)
    (case x1_15 => first | rfl | decide +kernel)
    (case x2_15 => first | rfl | decide +kernel)
    (case x3_15 => first | rfl | decide +kernel)
    (case x4_15 => first | rfl | decide +kernel)
    (case x1_16 => first | rfl | decide +kernel)
    (case x2_16 => first | rfl | decide +kernel)
    (case x3_16 => first | rfl | decide +kernel)
    (case x4_16 => first | rfl | decide +kernel)
    (case x1_20 => first | rfl | decide +kernel)
    (case x2_20 => first | rfl | decide +kernel)
    (case x3_20 => first | rfl | decide +kernel)
    (case x4_20 => first | rfl | decide +kernel)
    (case x1_24 => first | rfl | decide +kernel)
    (case x2_24 => first | rfl | decide +kernel)
    (case x3_24 => first | rfl | decide +kernel)
    (case x4_24 => first | rfl | decide +kernel)
