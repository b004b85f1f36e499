import PyProof.Rows.All
import HandS.CallSlots
import HandS.ClsMeth
import HandS.Deep
import HandS.Dict
import HandS.DictEq
import HandS.Evl
import HandS.FStr
import HandS.Flow
import HandS.ForExc
import HandS.ForMost
import HandS.GenList
import HandS.IsInst
import HandS.ListEq
import HandS.RaiseMore
import HandS.Rev
import HandS.RevTup
import HandS.SetKeys
import HandS.SortInts
import HandS.Style
import HandS.TupAny
import HandS.TupLen
import HandS.Wide
import HandS.Words
import HandS.WordsExc
import KE.KDictKeyed
import KE.KDictList
import KE.KSuper
import KE.RegKIsAll
import OpenK.AllK
import Wide.All
import Wide.FinOn
import PySem.Challenge.RW_hearthdue_k36_alike_journals
set_option linter.all false
set_option Elab.async false
set_option maxRecDepth 100000
set_option maxHeartbeats 2000000
namespace NKD
open PySem PySem.Spec PyProof.Rows
open PySem.SeqAt (EqP)
section
variable {prog : Program} {w : World} {κ : Type} [DecidableEq κ] {kd : HeapKind prog w κ} {A : Around} {E : Value → Shared → Prop} {s : Shared}
/-- two dicts with keys of a kind: the same pairs? -/
theorem same_pairs {nm : String} {a b : Addr} {xa xb : List (κ × Addr × Value)} {f : κ → Bool} {Q : Bool → Shared → Prop} (la : (a == sysModules) = false) (lb : (b == sysModules) = false) (room : kd.room A)
    (ma : s.heap.DictOfH kd a xa) (mb : s.heap.DictOfH kd b xb) (eqs : ∀ k p q, (k, p) ∈ xa → atKey xb k = some q → EqP prog w A s p.2 q.2 (f k))
    (q : Q (xa.length == xb.length && xa.all fun x => (atKey xb x.1).isSome && f x.1) s) : wpAny (model prog w) A (Builtin.Dict.samePairs nm a b) Q E s := by
  obtain ⟨oa, es, ep, hoa, _, hda, hea, hia, hna⟩ := ma
  obtain ⟨ob, fs, ep', hob, _, hdb, heb, hib, hnb⟩ := mb
  have sa := size_of_entries hea
  have sb := size_of_entries heb
  rw [← sa, ← sb] at q
  unfold Builtin.Dict.samePairs Builtin.Dict.showsAll
  rw [if_neg (show ¬ (a == sysModules) = true by rw [la]; exact Bool.false_ne_true), if_neg (show ¬ (b == sysModules) = true by rw [lb]; exact Bool.false_ne_true)]
  refine wpAny_bind (wpAny_pure (wpAny_bind (wpAny_pure (wpAny_bind (wpAny_dictEntries hoa hda ?_)))))
  dsimp only
  refine wpAny_bind (wpAny_dictEntries hob hdb ?_)
  by_cases hsz : es.size = fs.size
  case neg =>
    rw [if_pos (by simpa using hsz)]
    rw [show (es.size == fs.size) = false by simpa using hsz, Bool.false_and] at q
    exact wpAny_bind (wpAny_rule (wpAny_pure q))
  case pos =>
    rw [show (es.size == fs.size) = true by simpa using hsz, Bool.true_and] at q
    rw [if_neg (by rw [hsz]; simp)]
    refine wpAny_bind (wpAny_dictEpoch hoa hda (wpAny_bind ?_))
    rw [Std.Legacy.Range.forIn_eq_forIn_range']
    simp only [Std.Legacy.Range.size, Nat.sub_zero, Nat.add_sub_cancel, Nat.div_one]
    refine wpAny_forIn_list _
      (fun rest z s' => s' = s ∧ z = (none, ()) ∧ ∃ i, rest = List.range' i (es.size - i) ∧ i ≤ es.size ∧ Q ((xa.drop i).all fun x => (atKey xb x.1).isSome && f x.1) s)
      _ ?_ ?_ _ _ ⟨rfl, rfl, 0, by simp, Nat.zero_le _, by rw [List.drop_zero]; exact q⟩
    · rintro i rest z s' ⟨rfl, rfl, i', hr, hi, hpre⟩
      have hlt : i' < es.size := by
        rcases Nat.lt_or_ge i' es.size with h | h
        · exact h
        · rw [Nat.sub_eq_zero_of_le h] at hr; simp at hr
      obtain ⟨rfl, hrest⟩ : i = i' ∧ rest = List.range' (i' + 1) (es.size - (i' + 1)) := by
        rw [show es.size - i' = (es.size - (i' + 1)) + 1 by omega, List.range'_succ] at hr
        injection hr with h1 h2
        exact ⟨h1, h2⟩
      refine wpAny_bind (wpAny_dictEntries hoa hda ?_)
      have hl2 : i < xa.length := by rw [← sa]; exact hlt
      obtain ⟨k, p, v, hkv⟩ : ∃ k p v, xa[i] = (k, p, v) := ⟨_, _, _, rfl⟩
      have hx : xa[i]? = some (k, p, v) := by rw [List.getElem?_eq_getElem hl2, hkv]
      rw [entry_at hea i, hx]
      show wpAny _ _ (holding [Value.ref p, v] _ >>= _) _ _ _
      have hmem : (k, p, v) ∈ xa := List.mem_of_getElem? hx
      rw [List.drop_eq_getElem_cons hl2, hkv, List.all_cons] at hpre
      refine wpAny_bind (wpAny_holding (wpAny_bind (wpAny_dictFind_heap (k := k) room (hia _ hmem) hob hdb heb hib hnb (fun hno => ?_) (fun j pj hj => ?_))))
      · rw [atKey_none_of_get hno] at hpre
        have hpre : Q false s' := hpre
        refine wpAny_pure ?_
        show wpAny _ _ (if (!false) = true then _ else _) _ _ _
        rw [if_pos (by decide)]
        exact wpAny_pure (wpAny_pure hpre)
      · have hat := atKey_of_get hnb hj
        refine wpAny_bind (wpAny_dictEntries hob hdb ?_)
        rw [entry_at heb j, hj]
        have he := eqs k (p, v) pj hmem hat
        rw [hat] at hpre
        refine wpAny_holding (he _ _ ?_)
        cases hf : f k with
        | false =>
          rw [hf] at hpre
          have hpre : Q false s' := by simpa using hpre
          show wpAny _ _ (if (!false) = true then _ else _) _ _ _
          rw [if_pos (by decide)]
          exact wpAny_pure (wpAny_pure hpre)
        | true =>
          rw [hf] at hpre
          show wpAny _ _ (if (!true) = true then _ else _) _ _ _
          rw [if_neg (by decide)]
          refine wpAny_bind (wpAny_dictEpoch hoa hda ?_)
          rw [if_neg (by simp)]
          exact wpAny_pure ⟨rfl, rfl, i + 1, hrest, hlt, by simpa using hpre⟩
    · rintro z s' ⟨rfl, rfl, i, hr, hi, hpre⟩
      have hin : i = es.size := by
        rcases Nat.lt_or_ge i es.size with h | h
        · rw [show es.size - i = (es.size - (i + 1)) + 1 by omega, List.range'_succ] at hr; exact nomatch hr
        · exact Nat.le_antisymm hi h
      rw [hin, sa, List.drop_length] at hpre
      exact wpAny_pure hpre
/-- == of two such dicts -/
theorem eq_dicts {a b : Addr} {xa xb : List (κ × Addr × Value)} {f : κ → Bool} (la : (a == sysModules) = false) (lb : (b == sysModules) = false) (room : kd.room A.in1) (ma : s.heap.DictOfH kd a xa) (mb : s.heap.DictOfH kd b xb) (hu : A.units < cLine)
    (eqs : ∀ k p q, (k, p) ∈ xa → atKey xb k = some q → EqP prog w A.in1 s p.2 q.2 (f k)) (E Q : Value → Shared → Prop) (q : Q (.bool (xa.length == xb.length && xa.all fun x => (atKey xb x.1).isSome && f x.1)) s) :
    wpAny (model prog w) A (richCompare .Eq (.ref a) (.ref b)) Q E s := by
  refine wpAny_richCompare_same_room (op := .Eq) ma.typeIs mb.typeIs PySem.F.slot_dict_eq (wpAny_call_entry PySem.F.slot_dict_eq ma.typeIs PySem.F.entry_dict_eq ?_ (PySem.F.args_dict_eq_2 _ _)) hu
  show wpAny _ _ (Builtin.Dict.dictSlotArgs "__eq__" ⟨[.ref a, .ref b], []⟩ >>= _) _ _ s
  refine wpAny_bind ?_
  unfold Builtin.Dict.dictSlotArgs
  refine wpAny_bind (wpAny_notOrdered_dict ma.typeIs ?_)
  show wpAny _ _ (pure (Value.ref a, Value.ref b)) _ _ s
  refine wpAny_pure (wpAny_bind (wpAny_isInstance (T := "dict") mb.typeIs PySem.F.sub_dict_dict ?_))
  simp only [Bool.not_true, Bool.false_eq_true, if_false]
  refine wpAny_bind (wpAny_pure (wpAny_bind (wpAny_pure (wpAny_bind (same_pairs la lb room ma mb eqs (wpAny_pure ⟨_, rfl, ?_, ?_⟩))))))
  · exact fun x => nomatch x
  · simpa using q
end
end NKD
set_option Elab.async false
set_option maxRecDepth 100000
set_option maxHeartbeats 2000000
namespace NKD
open PySem PySem.Spec PyProof.Rows L2
/-! dicts whose keys are nested tuples, their values ints, on the layer of HandS -/
def ent (w : World) (x : NestedKey × Addr × Value) : DictEntry := ⟨x.1.hash w, .ref x.2.1, x.2.2⟩
/-- at a stands the dict with the keys ks, at the addresses bs, and the values ns -/
def dnF (w : World) (a : Addr) (ks : List NestedKey) (bs : List Addr) (ns : List Int) : Heap → Prop := fun h => (a == sysModules) = false ∧
  ∃ o es ep, ∃ xs : List (NestedKey × Addr × Value), h.get? a = some o ∧ o.ExactDict ∧ o.data = .dict es ep ∧ es.toList = xs.map (ent w) ∧ xs.map (·.1) = ks ∧ xs.map (·.2.1) = bs ∧ Vals (ns.map V.int) (xs.map (·.2.2))
abbrev dnO (w : World) (a : Addr) (ks : List NestedKey) (bs : List Addr) (ns : List Int) : HO := .ext (dnF w a ks bs ns)
def KeyAt (P : Program) (w : World) (H : Hp) (k : NestedKey) (b : Addr) : Prop := ∀ h, HOk P w H h → (nestedKind P w).is h k b
structure NAt (P : Program) (w : World) (H : Hp) (a : Addr) (ks : List NestedKey) (bs : List Addr) (ns : List Int) : Prop where
  at_ : H a = some (dnO w a ks bs ns)
  key : ∀ (i : Nat) (k : NestedKey) (b : Addr), ks[i]? = some k → bs[i]? = some b → KeyAt P w H k b
  nd : ks.Nodup
  sz : ks.length ≤ sizeLine
def look : List NestedKey → List Int → NestedKey → Option Int
  | k :: ks, n :: ns, j => if k = j then some n else look ks ns j
  | _, _, _ => none
def putN : List NestedKey → List Int → NestedKey → Int → List Int
  | j :: ks, m :: ns, k, n => if j = k then n :: ns else m :: putN ks ns k n
  | _, _, _, n => [n]
def addN {α : Type} (ks : List NestedKey) (k : NestedKey) (l : List α) (x : α) : List α := if k ∈ ks then l else l ++ [x]
def eqN (ks : List NestedKey) (ns : List Int) (ls : List NestedKey) (ms : List Int) : Bool := ks.length == ls.length && ks.all fun k => look ks ns k == look ls ms k
section
variable {P : Program} {w : World} {H : Hp} {h : Heap} {a : Addr} {ks : List NestedKey} {bs : List Addr} {ns : List Int}
theorem dn_of (ok : HOk P w H h) (N : NAt P w H a ks bs ns) : (a == sysModules) = false ∧ ∃ xs, h.DictOfH (nestedKind P w) a xs ∧ xs.map (·.1) = ks ∧ xs.map (·.2.1) = bs ∧ Vals (ns.map V.int) (xs.map (·.2.2)) := by
  obtain ⟨⟨h0, o, es, ep, xs, h1, h2, h3, h4, h5, h6, h7⟩, _, _⟩ := (show ObjOk P w H h a (dnO w a ks bs ns) from ok a _ N.at_)
  refine ⟨h0, xs, ⟨o, es, ep, h1, h2, h3, h4, fun x hx => ?_, by rw [h5]; exact N.nd⟩, h5, h6, h7⟩
  obtain ⟨i, hi⟩ := List.getElem?_of_mem hx
  exact N.key i x.1 x.2.1 (by rw [← h5, List.getElem?_map, hi]; rfl) (by rw [← h6, List.getElem?_map, hi]; rfl) h ok
theorem look_at : ∀ {xs : List (NestedKey × Addr × Value)} {ns : List Int} (k : NestedKey), Vals (ns.map V.int) (xs.map (·.2.2)) → RelO ((look (xs.map (·.1)) ns k).map V.int) ((atKey xs k).map (·.2))
  | [], [], k, _ => True.intro
  | [], n :: ns, k, r => by simp at r; cases r
  | x :: xs, [], k, r => by simp at r; cases r
  | x :: xs, n :: ns, k, r => by
    rw [List.map_cons, List.map_cons] at r
    cases r with
    | cons h t =>
      have ih := look_at k t
      rw [List.map_cons]
      unfold look
      by_cases e : x.1 = k
      · rw [if_pos e]
        have b : atKey (x :: xs) k = some x.2 := by simp [atKey, List.find?_cons, e]
        rw [b]; exact h
      · rw [if_neg e]
        have b : atKey (x :: xs) k = atKey xs k := by simp [atKey, List.find?_cons, e]
        rw [b]; exact ih
theorem at_mem {xs : List (NestedKey × Addr × Value)} {k : NestedKey} : (atKey xs k).isSome = true ↔ k ∈ xs.map (·.1) := by
  unfold atKey
  rw [Option.isSome_map, List.find?_isSome]
  simp [List.mem_map]
theorem putN_old : ∀ {xs : List (NestedKey × Addr × Value)} {ns : List Int} {k : NestedKey} {n : Int} {u : Value}, Vals (ns.map V.int) (xs.map (·.2.2)) → (xs.map (·.1)).Nodup → k ∈ xs.map (·.1) → RelV (.int n) u →
    Vals ((putN (xs.map (·.1)) ns k n).map V.int) ((xs.map (putAt k u)).map (·.2.2))
  | [], ns, k, n, u, _, _, hk, _ => by simp at hk
  | x :: xs, [], k, n, u, r, _, hk, _ => by simp at r; cases r
  | x :: xs, m :: ns, k, n, u, r, nd, hk, ru => by
    rw [List.map_cons, List.map_cons] at r
    rw [List.map_cons, List.nodup_cons] at nd
    cases r with
    | cons h t =>
      rw [List.map_cons, List.map_cons, List.map_cons]
      unfold putN
      by_cases e : x.1 = k
      · rw [if_pos e]
        have e1 : xs.map (putAt k u) = xs := by
          refine (List.map_congr_left fun y hy => ?_).trans (List.map_id xs)
          unfold putAt
          rw [if_neg (fun z => nd.1 (by rw [e, ← z]; exact List.mem_map_of_mem hy))]; rfl
        rw [e1, List.map_cons]
        refine .cons ?_ t
        unfold putAt
        rw [if_pos e]; exact ru
      · rw [if_neg e, List.map_cons]
        have hk' : k ∈ xs.map (·.1) := by
          rw [List.map_cons] at hk
          rcases List.mem_cons.mp hk with z | z
          · exact absurd z.symm e
          · exact z
        refine .cons ?_ (putN_old t nd.2 hk' ru)
        unfold putAt
        rw [if_neg e]; exact h
theorem putN_new : ∀ {ks : List NestedKey} {ns : List Int} {k : NestedKey} {n : Int}, ks.length = ns.length → k ∉ ks → putN ks ns k n = ns ++ [n]
  | [], [], k, n, _, _ => rfl
  | [], _ :: _, _, _, h, _ => by simp at h
  | _ :: _, [], _, _, h, _ => by simp at h
  | j :: ks, m :: ns, k, n, h, hk => by
    unfold putN
    rw [if_neg (fun e => hk (by rw [e]; exact List.mem_cons_self ..)), putN_new (by simpa using h) (fun z => hk (List.mem_cons_of_mem _ z))]; rfl
theorem vals_len {ns : List Int} {us : List Value} (r : Vals (ns.map V.int) us) : ns.length = us.length := by
  have := r.length
  simpa using this
theorem stored_at {xs : List (NestedKey × Addr × Value)} {k : NestedKey} {b : Addr} {n : Int} {u : Value} (h5 : xs.map (·.1) = ks) (h6 : xs.map (·.2.1) = bs) (h7 : Vals (ns.map V.int) (xs.map (·.2.2))) (nd : ks.Nodup) (ru : RelV (.int n) u) :
    (storedH xs k b u).map (·.1) = addN ks k ks k ∧ (storedH xs k b u).map (·.2.1) = addN ks k bs b ∧ Vals ((putN ks ns k n).map V.int) ((storedH xs k b u).map (·.2.2)) := by
  subst h5 h6
  unfold storedH addN
  by_cases hk : k ∈ xs.map (·.1)
  · rw [if_pos (at_mem.mpr hk), if_pos hk, if_pos hk]
    refine ⟨?_, ?_, putN_old h7 nd hk ru⟩
    · rw [List.map_map]
      refine List.map_congr_left fun x _ => ?_
      show (putAt k u x).1 = x.1
      unfold putAt; split <;> rfl
    · rw [List.map_map]
      refine List.map_congr_left fun x _ => ?_
      show (putAt k u x).2.1 = x.2.1
      unfold putAt; split <;> rfl
  · rw [if_neg (fun z => hk (at_mem.mp z)), if_neg hk, if_neg hk]
    refine ⟨by simp, by simp, ?_⟩
    have hl := vals_len h7
    rw [putN_new (by simpa using hl.symm) hk, List.map_append, List.map_append]
    exact Paired.snoc h7 ru
theorem add_len {α : Type} {k : NestedKey} {l : List α} {x : α} : (addN ks k l x).length ≤ l.length + 1 := by
  unfold addN; split
  · omega
  · simp
theorem add_nodup {k : NestedKey} (nd : ks.Nodup) : (addN ks k ks k).Nodup := by
  unfold addN; split
  · exact nd
  · rename_i h
    rw [List.nodup_append]
    refine ⟨nd, by simp, fun x hx y hy => ?_⟩
    have : y = k := by simpa using hy
    subst this
    rintro rfl
    exact h hx
theorem dn_ok {P : Program} {H : Hp} (h0 : (a == sysModules) = false) {xs : List (NestedKey × Addr × Value)} (m : h.DictOfH (nestedKind P w) a xs) (h5 : xs.map (·.1) = ks) (h6 : xs.map (·.2.1) = bs) (h7 : Vals (ns.map V.int) (xs.map (·.2.2))) : ObjOk P w H h a (dnO w a ks bs ns) := by
  obtain ⟨o, es, ep, h1, h2, h3, h4, _, _⟩ := m
  refine ⟨⟨h0, o, es, ep, xs, h1, h2, h3, h4, h5, h6, h7⟩, ⟨o, h1⟩, ?_⟩
  rintro g1 g2 ⟨q0, o', es', ep', xs', q1, q⟩ k
  exact ⟨q0, o', es', ep', xs', k o' q1, q⟩
end
section
variable {X : Cx} {pins : List (Addr × Obj)} {σ : L2.St} {H : Hp} {s : Shared} {a : Addr} {ks : List NestedKey} {bs : List Addr} {ns : List Int} {A : Around} {E : Value → Shared → Prop}
def IsN (w : World) (H : Hp) (a : Addr) : Prop := ∃ ks bs ns, H a = some (dnO w a ks bs ns)
theorem isN_at {w : World} (I : Inv X pins σ H s) (d : IsN w H a) : s.TypeIs (.ref a) "dict" ∧ (∀ b, Value.ref a = .ref b → ∃ ob, s.heap.get? b = some ob ∧ ob.dict = none) := by
  obtain ⟨ks, bs, ns, e⟩ := d
  obtain ⟨⟨h0, o, es, ep, xs, h1, h2, h3, _⟩, _, _⟩ := (show ObjOk X.prog X.w H s.heap a (dnO w a ks bs ns) from I.hok a _ e)
  exact ⟨⟨o, h1, h2.1⟩, fun b q => by cases q; exact ⟨o, h1, h2.2.1⟩⟩
def tNNew (w : World) : TE := fun _ H Q => ∀ p, H p = none → Q (.ref p) (upd H p (dnO w p [] [] []))
def tNGet2 (P : Program) (w : World) (td ty tx : TE) : TE := fun σ H Q => td σ H fun x H1 => ∃ a, x = .ref a ∧ IsN w H1 a ∧ ty σ H1 fun y H2 => tx σ H2 fun z H3 => ∃ ks bs ns k b, y = .ref b ∧ NAt P w H3 a ks bs ns ∧ KeyAt P w H3 k b ∧ Q (((look ks ns k).map V.int).getD z) H3
def sNPut (P : Program) (w : World) (td ty tv : TE) : TS := fun D σ H => tv σ H fun v H1 => td σ H1 fun x H2 => ty σ H2 fun y H3 => ∃ a ks bs ns k b n, x = .ref a ∧ y = .ref b ∧ v = .int n ∧ NAt P w H3 a ks bs ns ∧ KeyAt P w H3 k b ∧ ks.length < sizeLine ∧
  D.nx σ (upd H3 a (dnO w a (addN ks k ks k) (addN ks k bs b) (putN ks ns k n)))
theorem nroom {P : Program} {w : World} (hu : A.units + 65 < cLine) : (nestedKind P w).room A.in1 := by show A.units + 1 + 8 < cLine; omega
theorem n_get2 {y : V} {r : Value} {u : Value} {k : NestedKey} {b : Addr} {Q : Value → Shared → Prop} (hu : A.units + 65 < cLine) (I : Inv X pins σ H s) (N : NAt X.prog X.w H a ks bs ns) (hk : KeyAt X.prog X.w H k b) (rd : RelV y r) (h : ∀ w' s', Inv X pins σ H s' → RelV (((look ks ns k).map V.int).getD y) w' → Q w' s') :
    wpAny (model X.prog X.w) A (call (.builtin "dict.get") [.ref a, .ref b, r]) Q E s := by
  obtain ⟨h0, xs, m, h5, h6, h7⟩ := dn_of I.hok N
  refine call_meetsIn PySem.F.slot_dict_get m.typeIs PySem.F.entry_dict_get (PySem.F.args_dict_get_3 _ _ _) (meetsH_dict_get_default (nestedKind X.prog X.w) a b h0 r) ⟨nroom hu, k, xs, hk _ I.hok, m, h _ _ (I.tok _) ?_⟩
  subst h5
  exact (look_at k h7).getD rd
theorem n_setItem {n : Int} {r : Value} {k : NestedKey} {b : Addr} {Q : Unit → Shared → Prop} (hu : A.units + 65 < cLine) (I : Inv X pins σ H s) (N : NAt X.prog X.w H a ks bs ns) (hk : KeyAt X.prog X.w H k b) (hl : ks.length < sizeLine) (rd : RelV (.int n) r)
    (h : ∀ s', Inv X pins σ (upd H a (dnO X.w a (addN ks k ks k) (addN ks k bs b) (putN ks ns k n))) s' → Q () s') : wpAny (model X.prog X.w) A (setItem (.ref a) (.ref b) r) Q E s := by
  obtain ⟨h0, xs, m, h5, h6, h7⟩ := dn_of I.hok N
  have hz : xs.length ≤ sizeLine := by have := congrArg List.length h5; simp at this; omega
  refine wpAny_setItem_heap (hsz := hz) (nroom hu) (hk _ I.hok) m fun h' m' hs => h _ ?_
  obtain ⟨q1, q2, q3⟩ := stored_at (k := k) (b := b) h5 h6 h7 N.nd rd
  have he : ∃ q, h'.get? a = some q := let ⟨q, _, _, hq, _⟩ := m'; ⟨q, hq⟩
  exact d_write I (by rw [N.at_]; exact True.intro) hs he (dn_ok h0 m' q1 q2 q3)
theorem pe_nnew {pos : Pos} : PE X (.Dict [] [] pos) (tNNew X.w) := ⟨fun pins s σ H Q I h =>
  wpAny_Dict_empty ⟨.ref s.heap.objs.size, _, I.laid (a := s.heap.objs.size) (o := dnO X.w s.heap.objs.size [] [] []) (t' := s.toks) (fun _ _ q => Heap.get?_push_of_some _ q) (Nat.le_refl _)
    (dn_ok (beq_eq_false_iff_ne.mpr (Ne.symm (Nat.ne_of_lt I.big))) (Heap.DictOfH.new s.heap) rfl rfl .nil), rfl, h _ (I.hok.fresh (Nat.le_refl _))⟩⟩
theorem pe_nget2 {o e f : Expr} {apos cpos : Pos} {td ty tx : TE} (hu : X.A.units + 65 < cLine) (ho : PE X o td) (he : PE X e ty) (hf : PE X f tx) (m : M2 X o "get" apos e f cpos) : PE X (.Call (.Attribute o "get" apos) [e, f] [] cpos) (tNGet2 X.prog X.w td ty tx) := by
  refine ⟨fun pins s σ H Q I h => ?_⟩
  refine wpAny_Call_method m.base m.few m.line PySem.F.plainAttrs_dict PySem.F.slot_dict_get PySem.F.type_dict_get (thn (ho.run pins s σ H _ I h) fun u s1 ⟨x, H1, I1, rx, a, ex, d, q1⟩ => ?_)
  subst ex
  obtain rfl : u = Value.ref a := rx
  obtain ⟨t1, t2⟩ := isN_at I1 d
  refine ⟨t1, t2, ?_⟩
  rw [m.trees]
  refine Calls.callWith_builtin rfl (Calls.evalArgs_plain (Calls.spliced_cons (thn (he.run pins s1 σ H1 _ I1 q1) fun iv s2 ⟨y, H2, I2, ry, q2⟩ =>
    Calls.spliced_cons (thn (hf.run pins s2 σ H2 _ I2 q2) fun fv s3 ⟨z, H3, I3, rz, ks, bs, ns, k, b, ey, N, hk, q3⟩ => Calls.spliced_nil ?_))))
  subst ey
  obtain rfl : iv = Value.ref b := ry
  exact n_get2 (u := .ref b) hu I3 N hk rz fun w' s4 I4 rw' => ⟨_, H3, I4, rw', q3⟩
theorem ps_nput {o i value : Expr} {pos pos' : Pos} {td ty tv : TE} (hu : X.A.units + 65 < cLine) (ho : PE X o td) (hi : PE X i ty) (hv : PE X value tv) (hs : swapsWith value (some (.Subscript o i pos')) pos.line X.env = pure false) :
    PS X (.Assign [.Subscript o i pos'] value pos) (sNPut X.prog X.w td ty tv) := by
  refine ⟨fun pins s σ H D I h => ?_⟩
  refine wpAny_Assign_Subscript (thn (hv.run pins s σ H _ I h) fun r s1 ⟨v, H1, I1, rv, q1⟩ => thn (ho.run pins s1 σ H1 _ I1 q1) fun u s2 ⟨x, H2, I2, rx, q2⟩ => thn (hi.run pins s2 σ H2 _ I2 q2) fun iv s3 ⟨y, H3, I3, ry, a, ks, bs, ns, k, b, n, ex, ey, ev, N, hk, hl, q3⟩ => ?_) hs
  subst ex ey ev
  obtain rfl : u = Value.ref a := rx
  obtain rfl : iv = Value.ref b := ry
  exact n_setItem hu I3 N hk hl rv fun s4 I4 => ⟨σ, _, I4, q3⟩
end
section
variable {P : Program} {w : World} {H : Hp} {h : Heap} {a : Addr} {ks ls : List NestedKey} {bs cs : List Addr} {ns ms : List Int}
theorem vals_inj : ∀ {ns ms : List Int} {us : List Value}, Vals (ns.map V.int) us → Vals (ms.map V.int) us → ns = ms
  | [], [], _, _, _ => rfl
  | [], _ :: _, _, r, q => by cases r; cases q
  | _ :: _, [], _, r, q => by cases q; cases r
  | n :: ns, m :: ms, _, r, q => by
    cases r with
    | cons h t =>
      cases q with
      | cons h' t' =>
        obtain ⟨_, e⟩ := h
        obtain ⟨_, e'⟩ := h'
        rw [e] at e'
        cases e'
        rw [vals_inj t t']
theorem same_xs : ∀ {xs ys : List (NestedKey × Addr × Value)}, xs.map (entryOfKey (nestedKind P w)) = ys.map (entryOfKey (nestedKind P w)) → (∀ x ∈ xs, (nestedKind P w).is h x.1 x.2.1) → (∀ x ∈ ys, (nestedKind P w).is h x.1 x.2.1) → xs = ys
  | [], [], _, _, _ => rfl
  | [], _ :: _, e, _, _ => by simp at e
  | _ :: _, [], e, _, _ => by simp at e
  | (k, b, v) :: xs, (k', b', v') :: ys, e, h1, h2 => by
    rw [List.map_cons, List.map_cons] at e
    injection e with e1 e2
    have i1 := same_xs e2 (fun x hx => h1 x (List.mem_cons_of_mem _ hx)) (fun x hx => h2 x (List.mem_cons_of_mem _ hx))
    unfold entryOfKey at e1
    injection e1 with _ q2 q3
    have q2 : Value.ref b = Value.ref b' := q2
    injection q2 with q2
    have q3 : v = v' := q3
    subst q2 q3 i1
    have := (nestedKind P w).inj (h1 (k, b, v) (List.mem_cons_self ..)) (h2 (k', b, v) (List.mem_cons_self ..))
    have : k = k' := this
    rw [this]
theorem eqN_refl (ks : List NestedKey) (ns : List Int) : eqN ks ns ks ns = true := by
  unfold eqN
  simp
theorem eqN_same (ok : HOk P w H h) (N : NAt P w H a ks bs ns) (N' : NAt P w H a ls cs ms) : eqN ks ns ls ms = true := by
  obtain ⟨_, xs, ⟨o, es, ep, h1, h2, h3, h4, h5, _⟩, q1, _, q3⟩ := dn_of ok N
  obtain ⟨_, ys, ⟨o', es', ep', g1, g2, g3, g4, g5, _⟩, r1, _, r3⟩ := dn_of ok N'
  rw [h1] at g1; cases g1
  rw [h3] at g3
  injection g3 with g3 _
  subst g3
  have e := same_xs (h4.symm.trans g4) h5 g5
  subst e
  subst q1 r1
  rw [vals_inj q3 r3]
  exact eqN_refl _ _
theorem relO_int {o : Option Int} {u : Option Value} (r : RelO (o.map V.int) u) : (o = none ∧ u = none) ∨ ∃ n t, o = some n ∧ u = some (.int n t) := by
  cases o with
  | none =>
    cases u with
    | none => exact .inl ⟨rfl, rfl⟩
    | some _ => exact (show False from r).elim
  | some n =>
    cases u with
    | none => exact (show False from r).elim
    | some v => obtain ⟨t, e⟩ := (show ∃ t, v = Value.int n t from r); exact .inr ⟨n, t, rfl, by rw [e]⟩
end
section
variable {X : Cx} {pins : List (Addr × Obj)} {σ : L2.St} {H : Hp} {s : Shared} {a b : Addr} {ks ls : List NestedKey} {bs cs : List Addr} {ns ms : List Int} {A : Around}
theorem nn_eqs {xa xb : List (NestedKey × Addr × Value)} (ha : Vals (ns.map V.int) (xa.map (·.2.2))) (hb : Vals (ms.map V.int) (xb.map (·.2.2))) (ea : xa.map (·.1) = ks) (eb : xb.map (·.1) = ls) (nd : ks.Nodup) :
    (∀ k p q, (k, p) ∈ xa → atKey xb k = some q → SeqAt.EqP X.prog X.w A s p.2 q.2 (look ks ns k == look ls ms k)) ∧ (xa.length == xb.length && xa.all fun x => (atKey xb x.1).isSome && (look ks ns x.1 == look ls ms x.1)) = eqN ks ns ls ms := by
  subst ea eb
  have mem : ∀ x ∈ xa, ∃ n t, look (xa.map (·.1)) ns x.1 = some n ∧ x.2.2 = .int n t := fun x hx => by
    have r := look_at x.1 ha
    obtain ⟨i, hi⟩ := List.getElem?_of_mem hx
    have : atKey xa x.1 = some x.2 := atKey_of_get nd hi
    rw [this] at r
    rcases relO_int r with ⟨_, e⟩ | ⟨n, t, e1, e2⟩
    · cases e
    · exact ⟨n, t, e1, by simpa using e2⟩
  refine ⟨fun k p q hx hq => ?_, ?_⟩
  · obtain ⟨n, t, e1, e2⟩ := mem (k, p) hx
    have r := look_at k hb
    rw [hq] at r
    rcases relO_int r with ⟨_, e⟩ | ⟨m, t', e3, e4⟩
    · cases e
    · have e2 : p.2 = .int n t := e2
      have e4 : q.2 = .int m t' := by simpa using e4
      rw [e2, e4, e1, e3]
      have : (some n == some m) = (n == m) := rfl
      rw [this]
      exact (SeqAt.EqAt.int_int n t m t').eqP
  · unfold eqN
    rw [List.length_map, List.length_map]
    congr 1
    rw [List.all_map]
    refine all_cong fun x hx => ?_
    obtain ⟨n, t, e1, e2⟩ := mem x hx
    have r := look_at x.1 hb
    show ((atKey xb x.1).isSome && (look _ ns x.1 == look _ ms x.1)) = (look _ ns x.1 == look _ ms x.1)
    rcases relO_int r with ⟨e3, e⟩ | ⟨m, t', e3, e4⟩
    · have : (atKey xb x.1).isSome = false := by
        cases h : atKey xb x.1 with
        | none => rfl
        | some _ => rw [h] at e; cases e
      rw [this, e3, e1]; rfl
    · have : (atKey xb x.1).isSome = true := by
        cases h : atKey xb x.1 with
        | none => rw [h] at e4; cases e4
        | some _ => rfl
      rw [this, Bool.true_and]
where all_cong {α : Type} {f g : α → Bool} : ∀ {l : List α}, (∀ x ∈ l, f x = g x) → l.all f = l.all g
  | [], _ => rfl
  | x :: l, h => by rw [List.all_cons, List.all_cons, h x (List.mem_cons_self ..), all_cong fun y hy => h y (List.mem_cons_of_mem _ hy)]
theorem nn_eq (hu : A.units + 65 < cLine) (I : Inv X pins σ H s) (N : NAt X.prog X.w H a ks bs ns) (N' : NAt X.prog X.w H b ls cs ms) (E Q : Value → Shared → Prop) (q : Q (.bool (eqN ks ns ls ms)) s) : wpAny (model X.prog X.w) A (richCompare .Eq (.ref a) (.ref b)) Q E s := by
  obtain ⟨h0, xa, m, h5, _, h7⟩ := dn_of I.hok N
  obtain ⟨g0, xb, m', g5, _, g7⟩ := dn_of I.hok N'
  obtain ⟨e1, e2⟩ := nn_eqs (X := X) (A := A.in1) (s := s) h7 g7 h5 g5 N.nd
  refine eq_dicts h0 g0 (nroom hu) m m' (by omega) e1 E Q ?_
  rw [e2]; exact q
theorem nn_ne (hu : A.units + 65 < cLine) (I : Inv X pins σ H s) (N : NAt X.prog X.w H a ks bs ns) (N' : NAt X.prog X.w H b ls cs ms) (E Q : Value → Shared → Prop) (q : Q (.bool (!eqN ks ns ls ms)) s) : wpAny (model X.prog X.w) A (richCompare .NotEq (.ref a) (.ref b)) Q E s := by
  obtain ⟨h0, xa, m, h5, _, h7⟩ := dn_of I.hok N
  obtain ⟨g0, xb, m', g5, _, g7⟩ := dn_of I.hok N'
  obtain ⟨e1, e2⟩ := nn_eqs (X := X) (A := A.in1) (s := s) h7 g7 h5 g5 N.nd
  refine wpAny_richCompare_same_room (op := .NotEq) m.typeIs m'.typeIs PySem.F.slot_dict_ne (wpAny_call_entry PySem.F.slot_dict_ne m.typeIs PySem.F.entry_dict_ne ?_ (PySem.F.args_dict_ne_2 _ _)) (by omega)
  show wpAny _ _ (Builtin.Dict.dictSlotArgs "__ne__" ⟨[.ref a, .ref b], []⟩ >>= _) _ _ s
  refine wpAny_bind ?_
  unfold Builtin.Dict.dictSlotArgs
  refine wpAny_bind (wpAny_notOrdered_dict m.typeIs ?_)
  show wpAny _ _ (pure (Value.ref a, Value.ref b)) _ _ s
  refine wpAny_pure (wpAny_bind (wpAny_isInstance (T := "dict") m'.typeIs PySem.F.sub_dict_dict ?_))
  simp only [Bool.not_true, Bool.false_eq_true, if_false]
  rw [← e2] at q
  refine wpAny_bind (wpAny_pure (wpAny_bind (wpAny_pure (wpAny_bind (same_pairs h0 g0 (nroom hu) m m' e1 (wpAny_pure ⟨_, rfl, ?_, ?_⟩))))))
  · exact fun x => nomatch x
  · simpa using q
/-- lists of such dicts -/
abbrev AllN (P : Program) (w : World) (H : Hp) : List V → List (List NestedKey × List Int) → Prop := Paired fun x c => ∃ a bs, x = .ref a ∧ NAt P w H a c.1 bs c.2
def eqNs : List (List NestedKey × List Int) → List (List NestedKey × List Int) → Bool
  | c :: cs, d :: ds => eqN c.1 c.2 d.1 d.2 && eqNs cs ds
  | _, _ => true
theorem nn_items (hu : A.units + 66 < cLine) (I : Inv X pins σ H s) : ∀ {xs ys : List V} {cs ds : List (List NestedKey × List Int)} {us ws : List Value}, AllN X.prog X.w H xs cs → AllN X.prog X.w H ys ds → Vals xs us → Vals ys ws → us.length = ws.length →
    ∃ e : Nat → Bool, (∀ j (h1 : j < us.length) (h2 : j < ws.length), SeqAt.EqP X.prog X.w A.in1 s us[j] ws[j] (e j)) ∧ (List.range us.length).all e = eqNs cs ds
  | [], ys, cs, ds, us, ws, p, q, r, r', hl => by
    cases p; cases r
    refine ⟨fun _ => true, fun j h1 _ => absurd h1 (Nat.not_lt_zero j), ?_⟩
    simp [eqNs]
  | x :: xs, [], cs, ds, us, ws, p, q, r, r', hl => by
    cases r; cases r'; simp at hl
  | x :: xs, y :: ys, c :: cs, d :: ds, u :: us, v :: ws, .cons p ps, .cons q qs, .cons r rs, .cons r' rs', hl => by
    obtain ⟨e, e1, e2⟩ := nn_items hu I ps qs rs rs' (by simpa using hl)
    obtain ⟨a, bs, rfl, N⟩ := p
    obtain ⟨b, cs', rfl, N'⟩ := q
    cases (show u = Value.ref a from r)
    cases (show v = Value.ref b from r')
    refine ⟨fun j => match j with | 0 => eqN c.1 c.2 d.1 d.2 | j + 1 => e j, fun j h1 h2 => ?_, ?_⟩
    · cases j with
      | zero =>
        show SeqAt.EqP X.prog X.w A.in1 s (.ref a) (.ref b) (eqN c.1 c.2 d.1 d.2)
        by_cases hab : a = b
        · subst hab
          rw [eqN_same I.hok N N']
          exact (SeqAt.EqAt.same _).eqP
        · exact SeqAt.eqP_refs hab fun E Q q => nn_eq (by show A.units + 1 + 65 < cLine; omega) I N N' E Q q
      | succ j => exact e1 j (Nat.lt_of_succ_lt_succ h1) (Nat.lt_of_succ_lt_succ h2)
    · rw [List.length_cons, List.range_succ_eq_map, List.all_cons, List.all_map]
      show (eqN c.1 c.2 d.1 d.2 && (List.range us.length).all e) = _
      rw [e2]; rfl
/-- x == y: two such dicts; two lists of them, of one length -/
def rEqN (P : Program) (w : World) (K : PySem.W.Frag) : R2 := fun x y H Q =>
  (∃ a b ks bs ns ls cs ms, x = .ref a ∧ y = .ref b ∧ NAt P w H a ks bs ns ∧ NAt P w H b ls cs ms ∧ Q (.bl (eqN ks ns ls ms)) H) ∨
  ∃ l m xs ys cs ds, x = .ref l ∧ y = .ref m ∧ SqL K H l xs ∧ SqL K H m ys ∧ AllN P w H xs cs ∧ AllN P w H ys ds ∧ cs.length = ds.length ∧ Q (.bl (eqNs cs ds)) H
def rNeN (P : Program) (w : World) : R2 := fun x y H Q => ∃ a b ks bs ns ls cs ms, x = .ref a ∧ y = .ref b ∧ NAt P w H a ks bs ns ∧ NAt P w H b ls cs ms ∧ Q (.bl (!eqN ks ns ls ms)) H
theorem op_neN (hu : X.A.units + 65 < cLine) : OpR X (compareOp .NotEq) (rNeN X.prog X.w) := by
  intro pins s σ H x y v u Q I rx ry h
  obtain ⟨a, b, ks, bs, ns, ls, cs, ms, rfl, rfl, N, N', q⟩ := h
  obtain rfl : v = Value.ref a := rx
  obtain rfl : u = Value.ref b := ry
  exact nn_ne hu I N N' _ _ ⟨.bl _, H, I, rfl, q⟩
theorem op_eqN (hu : X.A.units + 66 < cLine) : OpR X (compareOp .Eq) (rEqN X.prog X.w X.K) := by
  intro pins s σ H x y v u Q I rx ry h
  rcases h with ⟨a, b, ks, bs, ns, ls, cs, ms, rfl, rfl, N, N', q⟩ | ⟨l, m, xs, ys, cs, ds, rfl, rfl, h1, h2, A1, A2, hl, q⟩
  · obtain rfl : v = Value.ref a := rx
    obtain rfl : u = Value.ref b := ry
    exact nn_eq (by omega) I N N' _ _ ⟨.bl _, H, I, rfl, q⟩
  · obtain rfl : v = Value.ref l := rx
    obtain rfl : u = Value.ref m := ry
    obtain ⟨us, r1, p1, _⟩ := I.list h1
    obtain ⟨ws, r2, p2, _⟩ := I.list h2
    have hsz : us.length = ws.length := by
      rw [← r1.length, ← r2.length, Paired.length A1, Paired.length A2]; exact hl
    obtain ⟨e, e1, e2⟩ := nn_items hu I A1 A2 r1 r2 hsz
    refine SeqAt.rcP_lists (e := e) p1.isList p2.isList (by simpa using hsz) (by omega) (fun j h1 h2 => ?_) _ _ ?_
    · simpa using e1 j (by simpa using h1) (by simpa using h2)
    · rw [List.size_toArray, e2]; exact ⟨.bl _, H, I, rfl, q⟩
end
end NKD
set_option Elab.async false
set_option maxRecDepth 100000
set_option maxHeartbeats 2000000
/-! DL: a denotational layer over HandS: every expression and statement denotes a Lean function over deep data D and a list of cells. -/
namespace DL
open PySem PySem.Spec PyProof.Rows L2

/-- deep data: v a scalar, h a handle to a cell, the others values that are never changed -/
inductive D where
  | v (x : V)
  | h (k : Nat)
  | tup (ds : List D)
  | lst (ds : List D)
  | ro (ds : List D)
  | kt (ds : List D)
  | ins (C : Str) (ns : List Str) (ds : List D)
  | dK (ks : List Key) (ds : List D)
  | dT (ks : List (List Key)) (ds : List D)
  | dN (w : World) (ks : List D) (ns : List Int)
  | cl (C : Str)

abbrev Mem := List D
abbrev Env := List (Option D)
structure Exn where
  cls : Value
  fs : Option (List Str × List D)
inductive Out (α : Type) where
  | ok (a : α) (M : Mem)
  | er (x : Exn) (M : Mem)
  | stuck
abbrev C (α : Type) := Mem → Out α
def C.bind {α β : Type} (c : C α) (g : α → C β) : C β := fun M => match c M with
  | .ok a M1 => g a M1
  | .er x M1 => .er x M1
  | .stuck => .stuck
def C.ret {α : Type} (a : α) : C α := fun M => .ok a M
def C.stuck {α : Type} : C α := fun _ => .stuck
@[simp] theorem bind_ok {α β : Type} {c : C α} {g : α → C β} {M M1 : Mem} {a : α} (h : c M = .ok a M1) : C.bind c g M = g a M1 := by
  unfold C.bind; rw [h]
@[simp] theorem ret_bind {α β : Type} {a : α} {g : α → C β} : C.bind (C.ret a) g = g a := rfl
theorem ret_def {α : Type} (a : α) (M : Mem) : C.ret a M = .ok a M := rfl

/-! ### what stands for what -/
def okV : V → Bool
  | .str s => PyData.strOk s && decide (s.length ≤ 16777216)
  | _ => true
/-- where the class of a name lies -/
def clsA (K : PySem.W.Frag) (C : Str) : Addr := match PySem.W.nsIn K mainGlobals C with
  | some (some (.ref a)) => a
  | _ => 0
mutual
/-- the key of a dict that a value is -/
def nkey : D → Option NestedKey
  | .v .non => some .none
  | .v (.bl b) => some (.num (if b = true then 1 else 0))
  | .v (.int i) => some (.num i)
  | .v (.str s) => some (.text s)
  | .tup ds => match nkeys ds with
    | some ks => some (.tup ks)
    | none => none
  | _ => none
def nkeys : List D → Option (List NestedKey)
  | [] => some []
  | d :: ds => match nkey d with
    | some k => match nkeys ds with
      | some ks => some (k :: ks)
      | none => none
    | none => none
end
def keyN (d : D) : NestedKey := (nkey d).getD .none
def isNK : D → Bool
  | .tup ds => match nkeys ds with
    | some ks => decide (NestedKey.depthAll ks + 1 ≤ 8)
    | none => false
  | _ => false
/-- an object's content: ds stand for the values -/
def ObjR (K : PySem.W.Frag) (a : Addr) (R : List D → List V → Prop) : D → HO → Prop
  | .lst ds, .lst vs => R ds vs ∧ ds.length ≤ sizeLine
  | .tup ds, .tup vs => R ds vs ∧ ds.length ≤ sizeLine
  | .ins C ns ds, .ins C' _ fs => C' = clsA K C ∧ fs.map (·.1) = ns ∧ R ds (fs.map (·.2))
  | .dK ks ds, .dK kvs => kvs.map (·.1) = ks ∧ R ds (kvs.map (·.2)) ∧ ks.Nodup ∧ ks.length ≤ sizeLine
  | .dT ks ds, .dT kvs => kvs.map (·.1) = ks ∧ R ds (kvs.map (·.2)) ∧ ks.Nodup ∧ ks.length ≤ sizeLine
  | .dN w ks ns, .ext φ => ∃ bs : List Addr, R ks (bs.map V.ref) ∧ φ = NKD.dnF w a (ks.map keyN) bs ns ∧ (ks.all isNK = true ∧ (ks.map keyN).Nodup ∧ ks.length ≤ sizeLine)
  | _, _ => False
mutual
def Rep (K : PySem.W.Frag) (S : Hp) (as : List Addr) : D → V → Prop
  | .v x, v => v = x ∧ okV x = true
  | .h k, v => ∃ a, as[k]? = some a ∧ v = .ref a
  | .tup ds, v => ∃ a vs, v = .ref a ∧ S a = some (.tup vs) ∧ Reps K S as ds vs ∧ ds.length ≤ sizeLine
  | .ro ds, v => ∃ a vs, v = .ref a ∧ SqL K S a vs ∧ Reps K S as ds vs ∧ ds.length ≤ sizeLine
  | .kt ds, v => ∃ a vs, v = .ref a ∧ SqT K S a vs ∧ Reps K S as ds vs ∧ ds.length ≤ sizeLine
  | .lst ds, v => ∃ a vs, v = .ref a ∧ S a = some (.lst vs) ∧ Reps K S as ds vs ∧ ds.length ≤ sizeLine
  | .ins C ns ds, v => ∃ a dx fs, v = .ref a ∧ S a = some (.ins (clsA K C) dx fs) ∧ fs.map (·.1) = ns ∧ Reps K S as ds (fs.map (·.2))
  | .dK ks ds, v => ∃ a kvs, v = .ref a ∧ S a = some (.dK kvs) ∧ kvs.map (·.1) = ks ∧ Reps K S as ds (kvs.map (·.2)) ∧ ks.Nodup ∧ ks.length ≤ sizeLine
  | .dT ks ds, v => ∃ a kvs, v = .ref a ∧ S a = some (.dT kvs) ∧ kvs.map (·.1) = ks ∧ Reps K S as ds (kvs.map (·.2)) ∧ ks.Nodup ∧ ks.length ≤ sizeLine
  | .dN w ks ns, v => ∃ (a : Addr) (bs : List Addr), v = .ref a ∧ S a = some (NKD.dnO w a (ks.map keyN) bs ns) ∧ Reps K S as ks (bs.map V.ref) ∧ (ks.all isNK = true ∧ (ks.map keyN).Nodup ∧ ks.length ≤ sizeLine)
  | .cl C, v => v = .ref (clsA K C)
def Reps (K : PySem.W.Frag) (S : Hp) (as : List Addr) : List D → List V → Prop
  | [], vs => vs = []
  | d :: ds, vs => ∃ v r, vs = v :: r ∧ Rep K S as d v ∧ Reps K S as ds r
end
def Pre (as as' : List Addr) : Prop := ∀ (k : Nat) (a : Addr), as[k]? = some a → as'[k]? = some a
theorem Pre.refl (as : List Addr) : Pre as as := fun _ _ h => h
theorem Pre.trans {a b c : List Addr} (x : Pre a b) (y : Pre b c) : Pre a c := fun k a h => y k a (x k a h)
theorem Pre.app (as bs : List Addr) : Pre as (as ++ bs) := fun k a h => by
  have hk := (List.getElem?_eq_some_iff.mp h).1
  rw [List.getElem?_append_left hk]; exact h

section
variable {K : PySem.W.Frag} {S S' : Hp} {as as' : List Addr}
mutual
theorem Rep.mono (e : Same S S') (p : Pre as as') : ∀ (d : D) (v : V), Rep K S as d v → Rep K S' as' d v
  | .v x, v, h => h
  | .h k, v, h => by
    obtain ⟨a, h1, h2⟩ := h
    exact ⟨a, p _ _ h1, h2⟩
  | .tup ds, v, h => by
    obtain ⟨a, vs, h1, h2, h3, h4⟩ := h
    exact ⟨a, vs, h1, e _ _ h2, Reps.mono e p ds vs h3, h4⟩
  | .ro ds, v, h => by
    obtain ⟨a, vs, h1, h2, h3, h4⟩ := h
    exact ⟨a, vs, h1, Evl.ex_l e h2, Reps.mono e p ds vs h3, h4⟩
  | .kt ds, v, h => by
    obtain ⟨a, vs, h1, h2, h3, h4⟩ := h
    exact ⟨a, vs, h1, Evl.ex_t e h2, Reps.mono e p ds vs h3, h4⟩
  | .lst ds, v, h => by
    obtain ⟨a, vs, h1, h2, h3, h4⟩ := h
    exact ⟨a, vs, h1, e _ _ h2, Reps.mono e p ds vs h3, h4⟩
  | .ins C ns ds, v, h => by
    obtain ⟨a, dx, fs, h1, h2, h3, h4⟩ := h
    exact ⟨a, dx, fs, h1, e _ _ h2, h3, Reps.mono e p ds _ h4⟩
  | .dK ks ds, v, h => by
    obtain ⟨a, kvs, h1, h2, h3, h4, h5⟩ := h
    exact ⟨a, kvs, h1, e _ _ h2, h3, Reps.mono e p ds _ h4, h5⟩
  | .dT ks ds, v, h => by
    obtain ⟨a, kvs, h1, h2, h3, h4, h5⟩ := h
    exact ⟨a, kvs, h1, e _ _ h2, h3, Reps.mono e p ds _ h4, h5⟩
  | .dN w ks ns, v, h => by
    obtain ⟨a, bs, h1, h2, h3, h4⟩ := h
    exact ⟨a, bs, h1, e _ _ h2, Reps.mono e p ks _ h3, h4⟩
  | .cl C, v, h => h
theorem Reps.mono (e : Same S S') (p : Pre as as') : ∀ (ds : List D) (vs : List V), Reps K S as ds vs → Reps K S' as' ds vs
  | [], vs, h => h
  | d :: ds, vs, h => by
    obtain ⟨v, r, h1, h2, h3⟩ := h
    exact ⟨v, r, h1, Rep.mono e p d v h2, Reps.mono e p ds r h3⟩
end
theorem Reps.nil : Reps K S as [] [] := rfl
theorem Reps.cons {d : D} {v : V} {ds : List D} {vs : List V} (h : Rep K S as d v) (t : Reps K S as ds vs) : Reps K S as (d :: ds) (v :: vs) := ⟨v, vs, rfl, h, t⟩
theorem Reps.length : ∀ {ds : List D} {vs : List V}, Reps K S as ds vs → ds.length = vs.length
  | [], vs, h => by have h : vs = [] := h; subst h; rfl
  | d :: ds, vs, h => by
    obtain ⟨v, r, h1, h2, h3⟩ := h
    subst h1
    simp [Reps.length h3]
theorem Reps.get : ∀ {ds : List D} {vs : List V} {i : Nat} {d : D}, Reps K S as ds vs → ds[i]? = some d → ∃ v, vs[i]? = some v ∧ Rep K S as d v
  | [], vs, i, d, h, e => by simp at e
  | d :: ds, vs, 0, d', h, e => by
    obtain ⟨v, r, h1, h2, h3⟩ := h
    subst h1
    simp at e; subst e
    exact ⟨v, rfl, h2⟩
  | d :: ds, vs, i + 1, d', h, e => by
    obtain ⟨v, r, h1, h2, h3⟩ := h
    subst h1
    simp at e
    obtain ⟨u, h4, h5⟩ := Reps.get h3 e
    exact ⟨u, by simpa using h4, h5⟩
theorem Reps.get' : ∀ {ds : List D} {vs : List V} {i : Nat} {v : V}, Reps K S as ds vs → vs[i]? = some v → ∃ d, ds[i]? = some d ∧ Rep K S as d v := fun {ds vs i v} h e => by
  have hl := h.length
  have hi := (List.getElem?_eq_some_iff.mp e).1
  have : i < ds.length := by omega
  obtain ⟨u, h1, h2⟩ := h.get (List.getElem?_eq_getElem this)
  rw [e] at h1; cases h1
  exact ⟨_, List.getElem?_eq_getElem this, h2⟩
theorem Reps.append : ∀ {ds es : List D} {vs us : List V}, Reps K S as ds vs → Reps K S as es us → Reps K S as (ds ++ es) (vs ++ us)
  | [], es, vs, us, h, q => by have h : vs = [] := h; subst h; exact q
  | d :: ds, es, vs, us, h, q => by
    obtain ⟨v, r, h1, h2, h3⟩ := h
    subst h1
    exact ⟨v, r ++ us, rfl, h2, Reps.append h3 q⟩
theorem Reps.drop : ∀ {ds : List D} {vs : List V} (n : Nat), Reps K S as ds vs → Reps K S as (ds.drop n) (vs.drop n)
  | ds, vs, 0, h => h
  | [], vs, n + 1, h => by have h : vs = [] := h; subst h; rfl
  | d :: ds, vs, n + 1, h => by
    obtain ⟨v, r, h1, h2, h3⟩ := h
    subst h1
    exact Reps.drop n h3
theorem Reps.take : ∀ {ds : List D} {vs : List V} (n : Nat), Reps K S as ds vs → Reps K S as (ds.take n) (vs.take n)
  | ds, vs, 0, h => rfl
  | [], vs, n + 1, h => by have h : vs = [] := h; subst h; rfl
  | d :: ds, vs, n + 1, h => by
    obtain ⟨v, r, h1, h2, h3⟩ := h
    subst h1
    exact ⟨v, r.take n, rfl, h2, Reps.take n h3⟩
theorem Reps.set : ∀ {ds : List D} {vs : List V} (n : Nat) {d : D} {v : V}, Reps K S as ds vs → Rep K S as d v → Reps K S as (ds.set n d) (vs.set n v)
  | [], vs, n, d, v, h, q => by have h : vs = [] := h; subst h; simp; rfl
  | d :: ds, vs, 0, d', v', h, q => by
    obtain ⟨v, r, h1, h2, h3⟩ := h
    subst h1
    exact ⟨v', r, rfl, q, h3⟩
  | d :: ds, vs, n + 1, d', v', h, q => by
    obtain ⟨v, r, h1, h2, h3⟩ := h
    subst h1
    exact ⟨v, r.set n v', rfl, h2, Reps.set n h3 q⟩
theorem Reps.rev : ∀ {ds : List D} {vs : List V}, Reps K S as ds vs → Reps K S as ds.reverse vs.reverse
  | [], vs, h => by have h : vs = [] := h; subst h; rfl
  | d :: ds, vs, h => by
    obtain ⟨v, r, h1, h2, h3⟩ := h
    subst h1
    rw [List.reverse_cons, List.reverse_cons]
    exact Reps.append (Reps.rev h3) ⟨v, [], rfl, h2, rfl⟩
theorem ObjR.mono {a : Addr} {c : D} {ho : HO} {R R' : List D → List V → Prop} (h : ObjR K a R c ho) (m : ∀ ds vs, R ds vs → R' ds vs) : ObjR K a R' c ho := by
  cases c <;> cases ho <;> first | exact h.elim | (obtain ⟨bs, h1, h2⟩ := h; exact ⟨bs, m _ _ h1, h2⟩) | exact ⟨m _ _ h.1, h.2⟩ | exact ⟨h.1, h.2.1, m _ _ h.2.2⟩ | exact ⟨h.1, m _ _ h.2.1, h.2.2⟩ | exact h
end

/-- the memory: cell k lies at the k-th address -/
structure St (K : PySem.W.Frag) (S : Hp) (as : List Addr) (M : Mem) (H : Hp) : Prop where
  ex : Same S H
  len : as.length = M.length
  nd : as.Nodup
  cell : ∀ (k : Nat) (c : D) (a : Addr), M[k]? = some c → as[k]? = some a → S a = none ∧ ∃ ho, H a = some ho ∧ ObjR K a (Reps K S as) c ho
def EnvOk (K : PySem.W.Frag) (S : Hp) (as : List Addr) (σ : L2.St) (ρ : Env) : Prop :=
  σ.length = ρ.length ∧ ∀ (i : Nat) (d : D), ρ[i]? = some (some d) → ∃ v, σ[i]? = some (some v) ∧ Rep K S as d v
theorem EnvOk.mono {K : PySem.W.Frag} {S S' : Hp} {as as' : List Addr} {σ : L2.St} {ρ : Env} (e : Same S S') (p : Pre as as') (h : EnvOk K S as σ ρ) : EnvOk K S' as' σ ρ :=
  ⟨h.1, fun i d q => let ⟨v, a, b⟩ := h.2 i d q; ⟨v, a, Rep.mono e p d v b⟩⟩
theorem EnvOk.set {K : PySem.W.Frag} {S : Hp} {as : List Addr} {σ : L2.St} {ρ : Env} {i : Nat} {d : D} {v : V} (h : EnvOk K S as σ ρ) (r : Rep K S as d v) : EnvOk K S as (σ.set i (some v)) (ρ.set i (some d)) := by
  refine ⟨by simp [h.1], fun j e q => ?_⟩
  by_cases hj : j = i
  · subst hj
    have hl : j < ρ.length := by
      have := (List.getElem?_eq_some_iff.mp q).1
      simpa using this
    rw [List.getElem?_set_self hl] at q
    cases q
    exact ⟨v, List.getElem?_set_self (by rw [h.1]; exact hl), r⟩
  · rw [List.getElem?_set_ne (Ne.symm hj)] at q
    obtain ⟨u, h1, h2⟩ := h.2 j e q
    exact ⟨u, by rw [List.getElem?_set_ne (Ne.symm hj)]; exact h1, h2⟩

def ErOk (K : PySem.W.Frag) (S : Hp) (as : List Addr) (H : Hp) (x : Exn) (dd : Option Addr) : Prop := match x.fs with
  | none => dd = none
  | some (ns, ds) => ∃ a fl, dd = some a ∧ H a = some (.xd fl) ∧ fl.map (·.1) = ns ∧ Reps K S as ds (fl.map (·.2))

/-- what a step may do: S and as grow by new things alone, what stands outside the cells stays -/
structure Ext (S : Hp) (as : List Addr) (H : Hp) (S' : Hp) (as' : List Addr) (H' : Hp) : Prop where
  same : Same S S'
  pre : Pre as as'
  fr : ∀ a o, H a = some o → a ∉ as → H' a = some o ∧ a ∉ as' ∧ (S a = none → S' a = none)
theorem Ext.refl (S : Hp) (as : List Addr) (H : Hp) : Ext S as H S as H := ⟨Same.refl _, Pre.refl _, fun _ _ h n => ⟨h, n, fun z => z⟩⟩
theorem Ext.trans {S S1 S2 H H1 H2 : Hp} {as as1 as2 : List Addr} (x : Ext S as H S1 as1 H1) (y : Ext S1 as1 H1 S2 as2 H2) : Ext S as H S2 as2 H2 :=
  ⟨x.same.trans y.same, x.pre.trans y.pre, fun a o h n => by
    obtain ⟨h1, n1, s1⟩ := x.fr a o h n
    obtain ⟨h2, n2, s2⟩ := y.fr a o h1 n1
    exact ⟨h2, n2, fun z => s2 (s1 z)⟩⟩
/-- the outcome o fulfils what is wanted -/
def Fin {α β : Type} (R : Hp → List Addr → α → β → Prop) (K : PySem.W.Frag) (S : Hp) (as : List Addr) (H : Hp) (W : WX) (σ : L2.St) (ρ : Env) (o : Out α) (Q : β → Hp → Prop) : Prop := match o with
  | .ok a M' => ∀ S' as' b H', Ext S as H S' as' H' → St K S' as' M' H' → R S' as' a b → Q b H'
  | .er x M' => ∀ S' as' H' dd, Ext S as H S' as' H' → St K S' as' M' H' → EnvOk K S' as' σ ρ → ErOk K S' as' H' x dd → W x.cls dd σ H'
  | .stuck => False
def tG {α β : Type} (R : Hp → List Addr → α → β → Prop) (K : PySem.W.Frag) (W : WX) (f : Env → C α) : L2.St → Hp → (β → Hp → Prop) → Prop := fun σ H Q =>
  ∃ S as M ρ, St K S as M H ∧ EnvOk K S as σ ρ ∧ Fin R K S as H W σ ρ (f ρ M) Q
def Mono {α β : Type} (R : Hp → List Addr → α → β → Prop) : Prop := ∀ {S S' : Hp} {as as' : List Addr} {a : α} {b : β}, Same S S' → Pre as as' → R S as a b → R S' as' a b
section
variable {K : PySem.W.Frag} {W : WX} {α β α' β' : Type} {R : Hp → List Addr → α → β → Prop} {R' : Hp → List Addr → α' → β' → Prop}
theorem Fin.pre {S S0 : Hp} {as as0 : List Addr} {H H0 : Hp} {σ : L2.St} {ρ : Env} {o : Out α} {Q : β → Hp → Prop} (e : Ext S0 as0 H0 S as H) (h : Fin R K S0 as0 H0 W σ ρ o Q) : Fin R K S as H W σ ρ o Q := by
  cases o with
  | ok a M' => exact fun S' as' b H' e' => h S' as' b H' (e.trans e')
  | er x M' => exact fun S' as' H' dd e' => h S' as' H' dd (e.trans e')
  | stuck => exact h
theorem Fin.imp {S : Hp} {as : List Addr} {H : Hp} {σ : L2.St} {ρ : Env} {o : Out α} {Q Q' : β → Hp → Prop} (h : Fin R K S as H W σ ρ o Q) (i : ∀ b H, Q b H → Q' b H) : Fin R K S as H W σ ρ o Q' := by
  cases o with
  | ok a M' => exact fun S' as' b H' e' s r => i _ _ (h S' as' b H' e' s r)
  | er x M' => exact h
  | stuck => exact h
/-- two computations in a row -/
theorem Fin.bind {c : C α} {g : α → C α'} {S : Hp} {as : List Addr} {H : Hp} {M : Mem} {σ : L2.St} {ρ : Env} {Q : β' → Hp → Prop} {Q1 : β → Hp → Prop} (fin : Fin R' K S as H W σ ρ (c.bind g M) Q) (env : EnvOk K S as σ ρ)
    (k : ∀ S' as' M' a b H', Ext S as H S' as' H' → St K S' as' M' H' → EnvOk K S' as' σ ρ → R S' as' a b → Fin R' K S' as' H' W σ ρ (g a M') Q → Q1 b H') : Fin R K S as H W σ ρ (c M) Q1 := by
  unfold C.bind at fin
  cases e : c M with
  | ok a M' =>
    simp only [e] at fin
    intro S' as' b H' e' s' r
    exact k S' as' M' a b H' e' s' (env.mono e'.same e'.pre) r (fin.pre e')
  | er x M' =>
    simp only [e] at fin
    exact fin
  | stuck =>
    simp only [e] at fin
    exact fin.elim
end

/-! ### expressions -/
def RepR (K : PySem.W.Frag) : Hp → List Addr → D → V → Prop := Rep K
def RepsR (K : PySem.W.Frag) : Hp → List Addr → List D → List V → Prop := Reps K
def EqR {α : Type} : Hp → List Addr → α → α → Prop := fun _ _ a b => a = b
abbrev tD (K : PySem.W.Frag) (W : WX) (f : Env → C D) : TE := tG (RepR K) K W f
abbrev tDs (K : PySem.W.Frag) (W : WX) (f : Env → C (List D)) : TA := tG (RepsR K) K W f
abbrev tDb (K : PySem.W.Frag) (W : WX) (f : Env → C Bool) : TT := tG EqR K W f
abbrev PD (X : Cx) (W : WX) (e : Expr) (f : Env → C D) : Prop := PE X e (tD X.K W f)
abbrev PDs (X : Cx) (W : WX) (es : List Expr) (f : Env → C (List D)) : Prop := PA X es (tDs X.K W f)
abbrev PDb (X : Cx) (W : WX) (e : Expr) (f : Env → C Bool) : Prop := PT X e (tDb X.K W f)
abbrev PDw (X : Cx) (W : WX) (e : Expr) (f : Env → C Bool) : Prop := PW X e (tDb X.K W f)
theorem _root_.L2.PE.up {X : Cx} {e : Expr} {t t' : TE} (h : PE X e t) (i : ∀ σ H Q, t' σ H Q → t σ H Q) : PE X e t' := ⟨fun pins s σ H Q I q => h.run pins s σ H Q I (i σ H Q q)⟩
theorem _root_.L2.PT.up {X : Cx} {e : Expr} {t t' : TT} (h : PT X e t) (i : ∀ σ H Q, t' σ H Q → t σ H Q) : PT X e t' := ⟨fun pins s σ H Q I q => h.run pins s σ H Q I (i σ H Q q)⟩
theorem _root_.L2.PW.up {X : Cx} {e : Expr} {t t' : TT} (h : PW X e t) (i : ∀ σ H Q, t' σ H Q → t σ H Q) : PW X e t' := ⟨fun wh pins s σ H Q I q => h.run wh pins s σ H Q I (i σ H Q q)⟩
theorem _root_.L2.PA.up {X : Cx} {e : List Expr} {t t' : TA} (h : PA X e t) (i : ∀ σ H Q, t' σ H Q → t σ H Q) : PA X e t' := ⟨fun ps pins s σ H Q I q => h.run ps pins s σ H Q I (i σ H Q q)⟩
theorem _root_.L2.PS.up {X : Cx} {e : Stmt} {t t' : TS} (h : PS X e t) (i : ∀ D σ H, t' D σ H → t D σ H) : PS X e t' := ⟨fun pins s σ H D I q => h.run pins s σ H D I (i D σ H q)⟩
theorem _root_.L2.PSs.up {X : Cx} {e : List Stmt} {t t' : TS} (h : PSs X e t) (i : ∀ D σ H, t' D σ H → t D σ H) : PSs X e t' := ⟨fun pins s σ H D I q => h.run pins s σ H D I (i D σ H q)⟩
theorem _root_.L2.PE.or {X : Cx} {e : Expr} {t t' : TE} (h : PE X e t) (h' : PE X e t') : PE X e (fun σ H Q => t σ H Q ∨ t' σ H Q) := ⟨fun pins s σ H Q I q => q.elim (h.run pins s σ H Q I) (h'.run pins s σ H Q I)⟩

/-- an operation on values: the reading r is met by the denotation g -/
def Dr2 (K : PySem.W.Frag) (r : R2) (g : D → D → C D) : Prop := ∀ S as M H σ ρ W x y v u Q, St K S as M H → Rep K S as x v → Rep K S as y u → Fin (RepR K) K S as H W σ ρ (g x y M) Q → r v u H Q
def Dr1 (K : PySem.W.Frag) (r : V → Hp → VK → Prop) (g : D → C D) : Prop := ∀ S as M H σ ρ W x v Q, St K S as M H → Rep K S as x v → Fin (RepR K) K S as H W σ ρ (g x M) Q → r v H Q
def DrN (K : PySem.W.Frag) (r : List V → Hp → VK → Prop) (g : List D → C D) : Prop := ∀ S as M H σ ρ W xs vs Q, St K S as M H → Reps K S as xs vs → Fin (RepR K) K S as H W σ ρ (g xs M) Q → r vs H Q

def eVar (i : Nat) : Env → C D := fun ρ M => match ρ[i]? with
  | some (some d) => .ok d M
  | _ => .stuck
def eC (d : D) : Env → C D := fun _ M => .ok d M
def e2 (g : D → D → C D) (fa fb : Env → C D) : Env → C D := fun ρ => (fa ρ).bind fun x => (fb ρ).bind fun y => g x y
def e1 (g : D → C D) (fa : Env → C D) : Env → C D := fun ρ => (fa ρ).bind g
def eNil : Env → C (List D) := fun _ => C.ret []
def eCons (fa : Env → C D) (fr : Env → C (List D)) : Env → C (List D) := fun ρ => (fa ρ).bind fun x => (fr ρ).bind fun xs => C.ret (x :: xs)
def eN (g : List D → C D) (fs : Env → C (List D)) : Env → C D := fun ρ => (fs ρ).bind g

theorem fin_ok {K : PySem.W.Frag} {W : WX} {S : Hp} {as : List Addr} {M : Mem} {H : Hp} {σ : L2.St} {ρ : Env} {d : D} {v : V} {Q : VK} (st : St K S as M H) (r : Rep K S as d v) (fin : Fin (RepR K) K S as H W σ ρ (.ok d M) Q) : Q v H := fin S as v H (Ext.refl _ _ _) st r
theorem fin_okb {K : PySem.W.Frag} {W : WX} {S : Hp} {as : List Addr} {M : Mem} {H : Hp} {σ : L2.St} {ρ : Env} {b : Bool} {Q : Bool → Hp → Prop} (st : St K S as M H) (fin : Fin EqR K S as H W σ ρ (.ok b M) Q) : Q b H := fin S as b H (Ext.refl _ _ _) st rfl
section
variable {X : Cx} {W : WX} {pos : Pos} {a b e : Expr} {es : List Expr} {fa fb : Env → C D} {fs : Env → C (List D)}
theorem pd_var (i : Nat) {x : Str} (hN : X.N[i]? = some x := by rfl) (hv : Vis X.env.scope x := by first | exact Or.inl rfl | exact Or.inr (Or.inl rfl) | exact Or.inr (Or.inr rfl)) (hd : (x == ("__debug__" : Str)) = false := by decide)
    (hcd : (x == ("__classdict__" : Str)) = false := by decide) : PD X W (.Name x pos) (eVar i) := (pe_var hN hv hd hcd).up fun σ H Q h => by
  obtain ⟨S, as, M, ρ, st, env, fin⟩ := h
  unfold eVar at fin
  cases e : ρ[i]? with
  | none => simp only [e] at fin; exact fin.elim
  | some o =>
    cases o with
    | none => simp only [e] at fin; exact fin.elim
    | some d =>
      simp only [e] at fin
      obtain ⟨v, h1, h2⟩ := env.2 i d e
      exact ⟨v, h1, fin_ok st h2 fin⟩
theorem pd_c {v : V} (h : PE X e (tC v)) (ok : okV v = true) : PD X W e (eC (.v v)) := h.up fun σ H Q h => by
  obtain ⟨S, as, M, ρ, st, env, fin⟩ := h
  exact fin_ok (d := .v v) st ⟨rfl, ok⟩ fin
theorem pd_int {i : Int} {j} : PD X W (.Constant (.int i) j pos) (eC (.v (.int i))) := pd_c pe_int rfl
theorem pd_bl {b : Bool} {j} : PD X W (.Constant (.bool b) j pos) (eC (.v (.bl b))) := pd_c pe_bl rfl
theorem pd_non {j} : PD X W (.Constant .none j pos) (eC (.v .non)) := pd_c pe_non rfl
theorem pd_str {x : Str} {j} (h : okV (.str x) = true := by decide +kernel) : PD X W (.Constant (.str x) j pos) (eC (.v (.str x))) := pd_c pe_str h
theorem t2_of {r : R2} {g : D → D → C D} (hr : Dr2 X.K r g) {σ : L2.St} {H : Hp} {Q : VK} (h : tD X.K W (e2 g fa fb) σ H Q) : tOp r (tD X.K W fa) (tD X.K W fb) σ H Q := by
  obtain ⟨S, as, M, ρ, st, env, fin⟩ := h
  refine ⟨S, as, M, ρ, st, env, Fin.bind (g := fun x => (fb ρ).bind fun y => g x y) fin env fun S1 as1 M1 x v H1 e1 st1 env1 rx fin1 => ?_⟩
  refine ⟨S1, as1, M1, ρ, st1, env1, Fin.bind (g := fun y => g x y) fin1 env1 fun S2 as2 M2 y u H2 e2 st2 env2 ry fin2 => ?_⟩
  exact hr S2 as2 M2 H2 σ ρ W x y v u Q st2 (Rep.mono e2.same e2.pre x v rx) ry fin2
theorem pd_op {op : Operator} {r : R2} {g : D → D → C D} (ho : OpR X (binaryOp op) r) (hr : Dr2 X.K r g) (ha : PD X W a fa) (hb : PD X W b fb) : PD X W (.BinOp a op b pos) (e2 g fa fb) := (pe_op ho ha hb).up fun _ _ _ h => t2_of hr h
theorem pd_cmp {op : CmpOp} {r : R2} {g : D → D → C D} (ho : OpR X (compareOp op) r) (hr : Dr2 X.K r g) (ha : PD X W a fa) (hb : PD X W b fb) (hm : behindInMarks op b = false := by first | exact nomark _ | rfl) : PD X W (.Compare a [op] [b] pos) (e2 g fa fb) :=
  (pe_cmpR ho ha hb hm).up fun _ _ _ h => t2_of hr h
theorem pd_un {op : UnaryOp} {r : V → Hp → VK → Prop} {g : D → C D} (ho : UnR X (unaryOp op) r) (hr : Dr1 X.K r g) (ha : PD X W a fa) : PD X W (.UnaryOp op a pos) (e1 g fa) := (pe_un ho ha).up fun σ H Q h => by
  obtain ⟨S, as, M, ρ, st, env, fin⟩ := h
  exact ⟨S, as, M, ρ, st, env, Fin.bind (g := g) fin env fun S1 as1 M1 x v H1 e1 st1 env1 rx fin1 => hr S1 as1 M1 H1 σ ρ W x v Q st1 rx fin1⟩
theorem pd_ix {r : R2} {g : D → D → C D} (ho : IxR X r) (hr : Dr2 X.K r g) (ha : PD X W a fa) (hb : PD X W b fb) (hs : PlainIx b := by exact fun _ _ => rfl) : PD X W (.Subscript a b pos) (e2 g fa fb) := (pe_ix ho ha hb hs).up fun _ _ _ h => t2_of hr h
/-! arguments -/
theorem pds_nil : PDs X W [] eNil := pa_nil.up fun σ H Q h => by
  obtain ⟨S, as, M, ρ, st, env, fin⟩ := h
  exact fin S as [] H (Ext.refl _ _ _) st rfl
theorem pds_cons (ha : PD X W e fa) (hr : PDs X W es fs) (hs : starEach (e :: es) X.env = (false, eval e X.env) :: starEach es X.env := by rfl) : PDs X W (e :: es) (eCons fa fs) := (pa_cons ha hr hs).up fun σ H Q h => by
  obtain ⟨S, as, M, ρ, st, env, fin⟩ := h
  refine ⟨S, as, M, ρ, st, env, Fin.bind (g := fun x => (fs ρ).bind fun xs => C.ret (x :: xs)) fin env fun S1 as1 M1 x v H1 e1 st1 env1 rx fin1 => ?_⟩
  refine ⟨S1, as1, M1, ρ, st1, env1, Fin.bind (g := fun xs => C.ret (x :: xs)) fin1 env1 fun S2 as2 M2 xs vs H2 e2 st2 env2 rs fin2 => ?_⟩
  exact fin2 S2 as2 (v :: vs) H2 (Ext.refl _ _ _) st2 (Reps.cons (Rep.mono e2.same e2.pre x v rx) rs)
theorem pd_callB {x : Str} {id : String} {r : List V → Hp → VK → Prop} {g : List D → C D} {p : Pos} (hr : CallR X (.builtin id) r) (hd : DrN X.K r g) (hm : X.mg x = none) (hv : bootBuiltins x = some (.builtin id) := by decide +kernel)
    (ha : PDs X W (e :: es) fs) (hg : Gl X x := by rfl) (hn : x ≠ "__name__" := by decide) (hdb : (x == ("__debug__" : Str)) = false := by decide) (hs : starEach (e :: es) X.env = (false, eval e X.env) :: starEach es X.env := by rfl) (hpl : (backTo pos (starEach es X.env)).any (·.1) = false := by rfl) : PD X W (.Call (.Name x p) (e :: es) [] pos) (eN g fs) :=
  (pe_callB hr hg hm hv ha hn hdb hs hpl).up fun σ H Q h => by
    obtain ⟨S, as, M, ρ, st, env, fin⟩ := h
    exact ⟨S, as, M, ρ, st, env, Fin.bind (g := g) fin env fun S1 as1 M1 xs vs H1 e1 st1 env1 rx fin1 => hd S1 as1 M1 H1 σ ρ W xs vs Q st1 rx fin1⟩
end
end DL
set_option Elab.async false
set_option maxRecDepth 100000
set_option maxHeartbeats 2000000
namespace DL
open PySem PySem.Spec PyProof.Rows L2
theorem line_eq : sizeLine = 16777216 := sizeLine_eq
section
variable {K : PySem.W.Frag} {W : WX} {S : Hp} {as : List Addr} {M : Mem} {H : Hp} {σ : L2.St} {ρ : Env} {Q : VK} {p : Addr}
/-! ### the memory -/
theorem St.notin (st : St K S as M H) (n : H p = none) : p ∉ as := fun hm => by
  obtain ⟨k, hk⟩ := List.getElem?_of_mem hm
  have hl : k < M.length := by
    have := (List.getElem?_eq_some_iff.mp hk).1
    rw [st.len] at this; exact this
  obtain ⟨_, ho, e, _⟩ := st.cell k M[k] p (List.getElem?_eq_getElem hl) hk
  rw [n] at e; cases e
theorem St.sfree (st : St K S as M H) (n : H p = none) : S p = none := by
  cases h : S p with
  | none => rfl
  | some o => rw [st.ex p o h] at n; cases n
/-- a new value object -/
theorem St.frozen {ho : HO} (st : St K S as M H) (n : H p = none) : St K (upd S p ho) as M (upd H p ho) := by
  have sp := st.sfree n
  refine ⟨fun b o e => ?_, st.len, st.nd, fun k c a h1 h2 => ?_⟩
  · by_cases hb : b = p
    · subst hb; rw [upd_same] at e ⊢; exact e
    · rw [upd_ne hb] at e ⊢; exact st.ex b o e
  · obtain ⟨s0, o, e, r⟩ := st.cell k c a h1 h2
    have ha : a ≠ p := ne_of_none e n
    exact ⟨by rw [upd_ne ha]; exact s0, o, by rw [upd_ne ha]; exact e, r.mono fun ds vs h => Reps.mono (Evl.Ex.new sp) (Pre.refl _) ds vs h⟩
theorem Ext.frozen {ho : HO} (st : St K S as M H) (n : H p = none) : Ext S as H (upd S p ho) as (upd H p ho) :=
  ⟨Evl.Ex.new (st.sfree n), Pre.refl _, fun a o h na => by
    have ha : a ≠ p := ne_of_none h n
    exact ⟨by rw [upd_ne ha]; exact h, na, fun z => by rw [upd_ne ha]; exact z⟩⟩
/-- a new cell -/
theorem St.fresh {ho : HO} {c : D} (st : St K S as M H) (n : H p = none) (r : ObjR K p (Reps K S as) c ho) : St K S (as ++ [p]) (M ++ [c]) (upd H p ho) := by
  have sp := st.sfree n
  have np := st.notin n
  refine ⟨fun b o e => ?_, by simp [st.len], ?_, fun k c' a h1 h2 => ?_⟩
  · rw [upd_ne (ne_of_none e sp)]; exact st.ex b o e
  · rw [List.nodup_append]
    refine ⟨st.nd, by simp, fun a ha b hb => ?_⟩
    have : b = p := by simpa using hb
    subst this
    rintro rfl
    exact np ha
  · by_cases hk : k < M.length
    · rw [List.getElem?_append_left hk] at h1
      rw [List.getElem?_append_left (by rw [st.len]; exact hk)] at h2
      obtain ⟨s0, o, e, r'⟩ := st.cell k c' a h1 h2
      have ha : a ≠ p := ne_of_none e n
      exact ⟨s0, o, by rw [upd_ne ha]; exact e, r'.mono fun ds vs h => Reps.mono (Same.refl _) (Pre.app _ _) ds vs h⟩
    · have hk' : k = M.length := by
        have := (List.getElem?_eq_some_iff.mp h1).1
        simp at this; omega
      subst hk'
      rw [List.getElem?_concat_length] at h1
      rw [← st.len, List.getElem?_concat_length] at h2
      cases h1; cases h2
      exact ⟨sp, ho, upd_same, r.mono fun ds vs h => Reps.mono (Same.refl _) (Pre.app _ _) ds vs h⟩
theorem Ext.fresh {ho : HO} (st : St K S as M H) (n : H p = none) : Ext S as H S (as ++ [p]) (upd H p ho) :=
  ⟨Same.refl _, Pre.app _ _, fun a o h na => by
    have ha : a ≠ p := ne_of_none h n
    exact ⟨by rw [upd_ne ha]; exact h, by simp [na, ha], fun z => z⟩⟩
theorem nodup_ixA {N : List Addr} (hN : N.Nodup) {i j : Nat} {x : Addr} (a : N[i]? = some x) (b : N[j]? = some x) : i = j := by
  obtain ⟨h1, e1⟩ := List.getElem?_eq_some_iff.mp a
  obtain ⟨h2, e2⟩ := List.getElem?_eq_some_iff.mp b
  exact (List.getElem_inj hN).mp (e1.trans e2.symm)
/-- a cell is written -/
theorem St.write {ho : HO} {k : Nat} {c c0 : D} {a : Addr} (st : St K S as M H) (hM : M[k]? = some c0) (ha : as[k]? = some a) (r : ObjR K a (Reps K S as) c ho) : St K S as (M.set k c) (upd H a ho) := by
  have sa := (st.cell k c0 a hM ha).1
  refine ⟨fun b o e => ?_, by simp [st.len], st.nd, fun j c' b h1 h2 => ?_⟩
  · rw [upd_ne (ne_of_none e sa)]; exact st.ex b o e
  · by_cases hj : j = k
    · subst hj
      rw [ha] at h2; cases h2
      rw [List.getElem?_set_self (List.getElem?_eq_some_iff.mp hM).1] at h1
      cases h1
      exact ⟨sa, ho, upd_same, r⟩
    · rw [List.getElem?_set_ne (Ne.symm hj)] at h1
      obtain ⟨s0, o, e, r'⟩ := st.cell j c' b h1 h2
      have hb : b ≠ a := fun z => by
        subst z
        exact hj (nodup_ixA st.nd h2 ha)
      exact ⟨s0, o, by rw [upd_ne hb]; exact e, r'⟩
theorem Ext.write {ho : HO} {k : Nat} {a : Addr} (ha : as[k]? = some a) : Ext S as H S as (upd H a ho) :=
  ⟨Same.refl _, Pre.refl _, fun b o h nb => by
    have hb : b ≠ a := fun z => nb (z ▸ List.mem_of_getElem? ha)
    exact ⟨by rw [upd_ne hb]; exact h, nb, fun z => z⟩⟩
theorem fin_lst {ds : List D} {vs : List V} (st : St K S as M H) (fin : Fin (RepR K) K S as H W σ ρ (.ok (.lst ds) M) Q) (r : Reps K S as ds vs) (hl : ds.length ≤ sizeLine) (n : H p = none) : Q (.ref p) (upd H p (.lst vs)) :=
  fin (upd S p (.lst vs)) as (.ref p) _ (Ext.frozen st n) (st.frozen n) ⟨p, vs, rfl, upd_same, Reps.mono (Evl.Ex.new (st.sfree n)) (Pre.refl _) _ _ r, hl⟩
theorem fin_tup {ds : List D} {vs : List V} (st : St K S as M H) (fin : Fin (RepR K) K S as H W σ ρ (.ok (.tup ds) M) Q) (r : Reps K S as ds vs) (hl : ds.length ≤ sizeLine) (n : H p = none) : Q (.ref p) (upd H p (.tup vs)) :=
  fin (upd S p (.tup vs)) as (.ref p) _ (Ext.frozen st n) (st.frozen n) ⟨p, vs, rfl, upd_same, Reps.mono (Evl.Ex.new (st.sfree n)) (Pre.refl _) _ _ r, hl⟩
theorem fin_cell {c : D} {ho : HO} (st : St K S as M H) (fin : Fin (RepR K) K S as H W σ ρ (.ok (.h M.length) (M ++ [c])) Q) (r : ObjR K p (Reps K S as) c ho) (n : H p = none) : Q (.ref p) (upd H p ho) :=
  fin S (as ++ [p]) (.ref p) _ (Ext.fresh st n) (st.fresh n r) ⟨p, by rw [← st.len]; simp, rfl⟩

/-! ### what a datum holds -/
def seqOf (M : Mem) : D → Option (List D)
  | .tup ds => some ds
  | .lst ds => some ds
  | .ro ds => some ds
  | .kt ds => some ds
  | .h k => match M[k]? with
    | some (.lst ds) => some ds
    | _ => none
  | _ => none
def lstOf (M : Mem) : D → Option (List D)
  | .lst ds => some ds
  | .ro ds => some ds
  | .h k => match M[k]? with
    | some (.lst ds) => some ds
    | _ => none
  | _ => none
def mlOf (M : Mem) : D → Option (List D)
  | .lst ds => some ds
  | .h k => match M[k]? with
    | some (.lst ds) => some ds
    | _ => none
  | _ => none
theorem cell_lst {k : Nat} {a : Addr} {ds : List D} (st : St K S as M H) (hM : M[k]? = some (.lst ds)) (ha : as[k]? = some a) : ∃ vs, H a = some (.lst vs) ∧ Reps K S as ds vs ∧ ds.length ≤ sizeLine := by
  obtain ⟨_, ho, e, r⟩ := st.cell k _ a hM ha
  cases ho with
  | lst vs => exact ⟨vs, e, r.1, r.2⟩
  | _ => exact r.elim
theorem ml_of {d : D} {v : V} {ds : List D} (st : St K S as M H) (r : Rep K S as d v) (h : mlOf M d = some ds) : ∃ a vs, v = .ref a ∧ H a = some (.lst vs) ∧ Reps K S as ds vs ∧ ds.length ≤ sizeLine := by
  cases d with
  | lst es =>
    cases h
    obtain ⟨a, vs, h1, h2, h3, h4⟩ := r
    exact ⟨a, vs, h1, st.ex _ _ h2, h3, h4⟩
  | h k =>
    obtain ⟨a, h1, h2⟩ := r
    unfold mlOf at h
    cases e : M[k]? with
    | none => simp [e] at h
    | some c =>
      cases c with
      | lst es =>
        simp [e] at h; subst h
        obtain ⟨vs, h3, h4, h5⟩ := cell_lst st e h1
        exact ⟨a, vs, h2, h3, h4, h5⟩
      | _ => simp [e] at h
  | _ => cases h
theorem lst_of {d : D} {v : V} {ds : List D} (st : St K S as M H) (r : Rep K S as d v) (h : lstOf M d = some ds) : ∃ a vs, v = .ref a ∧ SqL K H a vs ∧ Reps K S as ds vs ∧ ds.length ≤ sizeLine := by
  cases d with
  | lst es =>
    obtain ⟨a, vs, h1, h2, h3, h4⟩ := ml_of st r (by exact h)
    exact ⟨a, vs, h1, SqL.of h2, h3, h4⟩
  | h k =>
    obtain ⟨a, vs, h1, h2, h3, h4⟩ := ml_of st r (by exact h)
    exact ⟨a, vs, h1, SqL.of h2, h3, h4⟩
  | ro es =>
    cases h
    obtain ⟨a, vs, h1, h2, h3, h4⟩ := r
    exact ⟨a, vs, h1, Evl.ex_l st.ex h2, h3, h4⟩
  | _ => cases h
theorem seq_of {d : D} {v : V} {ds : List D} (st : St K S as M H) (r : Rep K S as d v) (h : seqOf M d = some ds) : ∃ a vs, v = .ref a ∧ (SqL K H a vs ∨ SqT K H a vs) ∧ Reps K S as ds vs ∧ ds.length ≤ sizeLine := by
  cases d with
  | lst es =>
    obtain ⟨a, vs, h1, h2, h3, h4⟩ := lst_of st r (by exact h)
    exact ⟨a, vs, h1, .inl h2, h3, h4⟩
  | h k =>
    obtain ⟨a, vs, h1, h2, h3, h4⟩ := lst_of st r (by exact h)
    exact ⟨a, vs, h1, .inl h2, h3, h4⟩
  | ro es =>
    obtain ⟨a, vs, h1, h2, h3, h4⟩ := lst_of st r (by exact h)
    exact ⟨a, vs, h1, .inl h2, h3, h4⟩
  | tup es =>
    cases h
    obtain ⟨a, vs, h1, h2, h3, h4⟩ := r
    exact ⟨a, vs, h1, .inr (SqT.of (st.ex _ _ h2)), h3, h4⟩
  | kt es =>
    cases h
    obtain ⟨a, vs, h1, h2, h3, h4⟩ := r
    exact ⟨a, vs, h1, .inr (Evl.ex_t st.ex h2), h3, h4⟩
  | _ => cases h
theorem tup_of {v : V} {ds : List D} (st : St K S as M H) (r : Rep K S as (.tup ds) v) : ∃ a vs, v = .ref a ∧ SqT K H a vs ∧ Reps K S as ds vs ∧ ds.length ≤ sizeLine := by
  obtain ⟨a, vs, h1, h2, h3, h4⟩ := r
  exact ⟨a, vs, h1, SqT.of (st.ex _ _ h2), h3, h4⟩
theorem kt_of {v : V} {ds : List D} (st : St K S as M H) (r : Rep K S as (.kt ds) v) : ∃ a vs, v = .ref a ∧ SqT K H a vs ∧ Reps K S as ds vs ∧ ds.length ≤ sizeLine := by
  obtain ⟨a, vs, h1, h2, h3, h4⟩ := r
  exact ⟨a, vs, h1, Evl.ex_t st.ex h2, h3, h4⟩
theorem tup_at {v : V} {ds : List D} (st : St K S as M H) (r : Rep K S as (.tup ds) v) : ∃ a vs, v = .ref a ∧ H a = some (.tup vs) ∧ Reps K S as ds vs ∧ ds.length ≤ sizeLine := by
  obtain ⟨a, vs, h1, h2, h3, h4⟩ := r
  exact ⟨a, vs, h1, st.ex _ _ h2, h3, h4⟩
theorem Reps.flat : ∀ {ds : List D} {vs : List V} {f : D → Option V}, Reps K S as ds vs → (∀ d x, f d = some x → d = .v x) → ∀ {xs : List V}, ds.mapM f = some xs → vs = xs
  | [], vs, f, h, hf, xs, e => by
    have h : vs = [] := h
    subst h
    simp at e; subst e; rfl
  | d :: ds, vs, f, h, hf, xs, e => by
    obtain ⟨v, r, h1, h2, h3⟩ := h
    subst h1
    rw [List.mapM_cons] at e
    cases e1 : f d with
    | none => simp [e1] at e
    | some x =>
      cases e2 : ds.mapM f with
      | none => simp [e1, e2] at e
      | some ys =>
        simp [e1, e2] at e
        subst e
        have := hf d x e1
        subst this
        rw [h2.1, Reps.flat h3 hf e2]
end

/-! ### operators -/
open Classical in
noncomputable def gI (P : Int → Int → Prop) (f : Int → Int → V) : D → D → C D := fun x y M => match x, y with
  | .v (.int i), .v (.int j) => if P i j then .ok (.v (f i j)) M else .stuck
  | _, _ => .stuck
theorem dr_gI {K : PySem.W.Frag} {P : Int → Int → Prop} {f : Int → Int → V} (hf : ∀ i j, okV (f i j) = true) : Dr2 K (rI P f) (gI P f) := by
  intro S as M H σ ρ W x y v u Q st rx ry fin
  unfold gI at fin
  split at fin
  · rename_i i j
    split at fin
    · rename_i hp
      exact ⟨i, j, rx.1, ry.1, hp, fin_ok (d := .v (f i j)) st ⟨rfl, hf i j⟩ fin⟩
    · exact fin.elim
  · exact fin.elim
theorem dr_gI0 {K : PySem.W.Frag} {f : Int → Int → V} (hf : ∀ i j, okV (f i j) = true) : Dr2 K (rI0 f) (gI (fun _ _ => True) f) := by
  intro S as M H σ ρ W x y v u Q st rx ry fin
  obtain ⟨i, j, h1, h2, _, h3⟩ := dr_gI hf S as M H σ ρ W x y v u Q st rx ry fin
  exact ⟨i, j, h1, h2, h3⟩
/-- + of ints, texts, tuples, lists (a new list: a value) -/
def addD (x y : D) (M : Mem) : Out D := match x with
  | .v (.int i) => match y with
    | .v (.int j) => .ok (.v (.int (i + j))) M
    | .v (.bl k) => .ok (.v (.int (i + b2i k))) M
    | _ => .stuck
  | .v (.str a) => match y with
    | .v (.str b) => if a.length + b.length ≤ 16777216 then .ok (.v (.str (a ++ b))) M else .stuck
    | _ => .stuck
  | .tup xs => match y with
    | .tup ys => if xs.length + ys.length ≤ 16777216 then .ok (.tup (xs ++ ys)) M else .stuck
    | _ => .stuck
  | x => match mlOf M x with
    | some xs => match mlOf M y with
      | some ys => if xs.length + ys.length ≤ 16777216 then .ok (.lst (xs ++ ys)) M else .stuck
      | none => .stuck
    | none => .stuck
def gAdd : D → D → C D := addD
theorem strOk_app {a b : Str} (h : PyData.strOk a = true) (h' : PyData.strOk b = true) : PyData.strOk (a ++ b) = true := by
  unfold PyData.strOk at *
  show (a.cps ++ b.cps).all _ = true
  rw [Array.all_append, h, h']; rfl
theorem len_app (a b : Str) : (a ++ b).length = a.length + b.length := by
  show (a.cps ++ b.cps).size = a.cps.size + b.cps.size
  exact Array.size_append
theorem okV_str {s : Str} (h : okV (.str s) = true) : PyData.strOk s = true ∧ s.length ≤ 16777216 := by
  unfold okV at h
  simpa using h
theorem okV_mk {s : Str} (h : PyData.strOk s = true) (h' : s.length ≤ 16777216) : okV (.str s) = true := by
  unfold okV
  simp [h, h']
abbrev rAddAll (K : PySem.W.Frag) : R2 := fun x y H Q => (rI0 (fun i j => .int (i + j))) x y H Q ∨ ((fun x y H Q => ∃ i k, x = .int i ∧ y = .bl k ∧ Q (.int (i + b2i k)) H) : R2) x y H Q ∨
  ((fun x y H Q => ∃ i j, x = .str i ∧ y = .str j ∧ i.length + j.length ≤ sizeLine ∧ Q (.str (i ++ j)) H) : R2) x y H Q ∨ rCatA K x y H Q ∨ rCat x y H Q
theorem op_addAll {X : Cx} : OpR X (binaryOp .Add) (rAddAll X.K) := op_add.or (op_add_ib.or (op_add_str.or (op_catA.or op_cat)))
theorem dr_cat {K : PySem.W.Frag} {S : Hp} {as : List Addr} {M : Mem} {H : Hp} {σ : L2.St} {ρ : Env} {W : WX} {x y : D} {v u : V} {Q : VK} {xs ys : List D} (st : St K S as M H) (rx : Rep K S as x v) (ry : Rep K S as y u)
    (hx : mlOf M x = some xs) (hy : mlOf M y = some ys) (hl : xs.length + ys.length ≤ 16777216) (fin : Fin (RepR K) K S as H W σ ρ (.ok (.lst (xs ++ ys)) M) Q) : rCat v u H Q := by
  obtain ⟨a, vs, h1, h2, h3, h4⟩ := ml_of st rx hx
  obtain ⟨b, us, k1, k2, k3, k4⟩ := ml_of st ry hy
  have l1 := h3.length
  have l2 := k3.length
  have lq := line_eq
  exact ⟨a, b, vs, us, h1, k1, h2, k2, by omega, fun p n => fin_lst st fin (h3.append k3) (by rw [List.length_append]; omega) n⟩
theorem dr_add {K : PySem.W.Frag} : Dr2 K (rAddAll K) gAdd := by
  intro S as M H σ ρ W x y v u Q st rx ry fin
  have lq := line_eq
  unfold gAdd addD at fin
  split at fin
  · rename_i i
    split at fin
    · rename_i j
      exact .inl ⟨i, j, rx.1, ry.1, fin_ok (d := .v (.int (i + j))) st ⟨rfl, rfl⟩ fin⟩
    · rename_i k
      exact .inr (.inl ⟨i, k, rx.1, ry.1, fin_ok (d := .v (.int (i + b2i k))) st ⟨rfl, rfl⟩ fin⟩)
    · exact fin.elim
  · rename_i a
    split at fin
    · rename_i b
      split at fin
      · rename_i hl
        refine .inr (.inr (.inl ⟨a, b, rx.1, ry.1, by omega, fin_ok (d := .v (.str (a ++ b))) st ⟨rfl, okV_mk (strOk_app (okV_str rx.2).1 (okV_str ry.2).1) (by rw [len_app]; exact hl)⟩ fin⟩))
      · exact fin.elim
    · exact fin.elim
  · rename_i xs
    split at fin
    · rename_i ys
      split at fin
      · rename_i hl
        obtain ⟨a, vs, h1, h2, h3, h4⟩ := tup_of st rx
        obtain ⟨b, us, k1, k2, k3, k4⟩ := tup_of st ry
        have l1 := h3.length
        have l2 := k3.length
        refine .inr (.inr (.inr (.inl ⟨a, b, vs, us, h1, k1, h2, k2, by omega, fun e => ?_, fun e1 e2 => ?_, fun e1 e2 p n => ?_⟩)))
        · subst e
          have : xs = [] := List.length_eq_zero_iff.mp (by simpa using l1)
          subst this
          rw [← k1]
          exact fin_ok (d := .tup ys) st ry fin
        · subst e2
          have : ys = [] := List.length_eq_zero_iff.mp (by simpa using l2)
          subst this
          rw [← h1]
          rw [List.append_nil] at fin
          exact fin_ok (d := .tup xs) st rx fin
        · exact fin_tup st fin (h3.append k3) (by rw [List.length_append]; omega) n
      · exact fin.elim
    · exact fin.elim
  · split at fin
    · rename_i xs hx
      split at fin
      · rename_i ys hy
        split at fin
        · rename_i hl
          exact .inr (.inr (.inr (.inr (dr_cat st rx ry hx hy hl fin))))
        · exact fin.elim
      · exact fin.elim
    · exact fin.elim
theorem pd_add {X : Cx} {W : WX} {pos : Pos} {a b : Expr} {fa fb : Env → C D} (ha : PD X W a fa) (hb : PD X W b fb) : PD X W (.BinOp a .Add b pos) (e2 gAdd fa fb) := pd_op op_addAll dr_add ha hb
noncomputable def gSub : D → D → C D := gI (fun _ _ => True) fun i j => .int (i - j)
theorem pd_sub {X : Cx} {W : WX} {pos : Pos} {a b : Expr} {fa fb : Env → C D} (ha : PD X W a fa) (hb : PD X W b fb) : PD X W (.BinOp a .Sub b pos) (e2 gSub fa fb) := pd_op op_sub (dr_gI0 fun _ _ => rfl) ha hb
def PMul (i j : Int) : Prop := CMul i j ∨ CMulW i j
noncomputable def gMul : D → D → C D := gI PMul fun i j => .int (i * j)
theorem op_mulAll {X : Cx} : OpR X (binaryOp .Mult) (rI PMul fun i j => .int (i * j)) := fun pins s σ H x y v u Q I r1 r2 ⟨i, j, h1, h2, h3, h4⟩ =>
  h3.elim (fun h => op_mul pins s σ H x y v u Q I r1 r2 ⟨i, j, h1, h2, h, h4⟩) fun h => op_mulW pins s σ H x y v u Q I r1 r2 ⟨i, j, h1, h2, h, h4⟩
theorem pd_mul {X : Cx} {W : WX} {pos : Pos} {a b : Expr} {fa fb : Env → C D} (ha : PD X W a fa) (hb : PD X W b fb) : PD X W (.BinOp a .Mult b pos) (e2 gMul fa fb) := pd_op op_mulAll (dr_gI fun _ _ => rfl) ha hb
def PDiv (i j : Int) : Prop := CDiv i j ∨ CDivW i j
noncomputable def gDiv : D → D → C D := gI PDiv fun i j => .int (i / j)
theorem op_divAll {X : Cx} : OpR X (binaryOp .FloorDiv) (rI PDiv fun i j => .int (i / j)) := fun pins s σ H x y v u Q I r1 r2 ⟨i, j, h1, h2, h3, h4⟩ =>
  h3.elim (fun h => op_fdiv pins s σ H x y v u Q I r1 r2 ⟨i, j, h1, h2, h, h4⟩) fun h => op_fdivW pins s σ H x y v u Q I r1 r2 ⟨i, j, h1, h2, h, h4⟩
theorem pd_div {X : Cx} {W : WX} {pos : Pos} {a b : Expr} {fa fb : Env → C D} (ha : PD X W a fa) (hb : PD X W b fb) : PD X W (.BinOp a .FloorDiv b pos) (e2 gDiv fa fb) := pd_op op_divAll (dr_gI fun _ _ => rfl) ha hb
noncomputable def gMod : D → D → C D := gI (fun _ j => 0 < j) fun i j => .int (i % j)
theorem pd_mod {X : Cx} {W : WX} {pos : Pos} {a b : Expr} {fa fb : Env → C D} (ha : PD X W a fa) (hb : PD X W b fb) : PD X W (.BinOp a .Mod b pos) (e2 gMod fa fb) := pd_op op_mod (dr_gI fun _ _ => rfl) ha hb
noncomputable def gPow : D → D → C D := gI CPow fun i j => .int (i ^ j.toNat)
theorem pd_pow {X : Cx} {W : WX} {pos : Pos} {a b : Expr} {fa fb : Env → C D} (ha : PD X W a fa) (hb : PD X W b fb) : PD X W (.BinOp a .Pow b pos) (e2 gPow fa fb) := pd_op op_pow (dr_gI fun _ _ => rfl) ha hb
def gNeg : D → C D := fun x M => match x with
  | .v (.int i) => .ok (.v (.int (-i))) M
  | _ => .stuck
theorem pd_neg {X : Cx} {W : WX} {pos : Pos} {a : Expr} {fa : Env → C D} (ha : PD X W a fa) : PD X W (.UnaryOp .USub a pos) (e1 gNeg fa) := pd_un un_neg (fun S as M H σ ρ W x v Q st rx fin => by
  unfold gNeg at fin
  split at fin
  · rename_i i
    exact ⟨i, rx.1, fin_ok (d := .v (.int (-i))) st ⟨rfl, rfl⟩ fin⟩
  · exact fin.elim) ha
/-! comparisons -/
def strLt (a b : Str) : Bool := decide (a.cps.toList < b.cps.toList)
def gLt : D → D → C D := fun x y M => match x, y with
  | .v (.int i), .v (.int j) => .ok (.v (.bl (decide (i < j)))) M
  | .v (.str i), .v (.str j) => .ok (.v (.bl (strLt i j))) M
  | _, _ => .stuck
def gLe : D → D → C D := fun x y M => match x, y with
  | .v (.int i), .v (.int j) => .ok (.v (.bl (decide (i ≤ j)))) M
  | .v (.str i), .v (.str j) => .ok (.v (.bl (!strLt j i))) M
  | _, _ => .stuck
def gGt : D → D → C D := fun x y M => match x, y with
  | .v (.int i), .v (.int j) => .ok (.v (.bl (decide (j < i)))) M
  | .v (.str i), .v (.str j) => .ok (.v (.bl (strLt j i))) M
  | _, _ => .stuck
def gGe : D → D → C D := fun x y M => match x, y with
  | .v (.int i), .v (.int j) => .ok (.v (.bl (decide (j ≤ i)))) M
  | .v (.str i), .v (.str j) => .ok (.v (.bl (!strLt i j))) M
  | _, _ => .stuck
theorem dr_cmp {K : PySem.W.Frag} {f : Int → Int → Bool} {g : Str → Str → Bool} {G : D → D → C D} (hG : ∀ x y M, G x y M = match x, y with
    | .v (.int i), .v (.int j) => Out.ok (.v (.bl (f i j))) M
    | .v (.str i), .v (.str j) => .ok (.v (.bl (g i j))) M
    | _, _ => .stuck) : Dr2 K (fun x y H Q => (rI0 fun i j => .bl (f i j)) x y H Q ∨ ((fun x y H Q => ∃ i j, x = .str i ∧ y = .str j ∧ Q (.bl (g i j)) H) : R2) x y H Q) G := by
  intro S as M H σ ρ W x y v u Q st rx ry fin
  rw [hG] at fin
  split at fin
  · rename_i i j
    exact .inl ⟨i, j, rx.1, ry.1, fin_ok (d := .v (.bl (f i j))) st ⟨rfl, rfl⟩ fin⟩
  · rename_i i j
    exact .inr ⟨i, j, rx.1, ry.1, fin_ok (d := .v (.bl (g i j))) st ⟨rfl, rfl⟩ fin⟩
  · exact fin.elim
section
variable {X : Cx} {W : WX} {pos : Pos} {a b : Expr} {fa fb : Env → C D}
theorem op_ltAll : OpR X (compareOp .Lt) (fun x y H Q => (rI0 fun i j => .bl (decide (i < j))) x y H Q ∨ ((fun x y H Q => ∃ i j, x = .str i ∧ y = .str j ∧ Q (.bl (strLt i j)) H) : R2) x y H Q) := op_lt.or op_lt_str
theorem op_leAll : OpR X (compareOp .LtE) (fun x y H Q => (rI0 fun i j => .bl (decide (i ≤ j))) x y H Q ∨ ((fun x y H Q => ∃ i j, x = .str i ∧ y = .str j ∧ Q (.bl (!strLt j i)) H) : R2) x y H Q) := op_le.or op_le_str
theorem op_gtAll : OpR X (compareOp .Gt) (fun x y H Q => (rI0 fun i j => .bl (decide (j < i))) x y H Q ∨ ((fun x y H Q => ∃ i j, x = .str i ∧ y = .str j ∧ Q (.bl (strLt j i)) H) : R2) x y H Q) := op_gt.or op_gt_str
theorem op_geAll : OpR X (compareOp .GtE) (fun x y H Q => (rI0 fun i j => .bl (decide (j ≤ i))) x y H Q ∨ ((fun x y H Q => ∃ i j, x = .str i ∧ y = .str j ∧ Q (.bl (!strLt i j)) H) : R2) x y H Q) := op_ge.or op_ge_str
theorem dr_lt {K : PySem.W.Frag} : Dr2 K (fun x y H Q => (rI0 fun i j => .bl (decide (i < j))) x y H Q ∨ ((fun x y H Q => ∃ i j, x = .str i ∧ y = .str j ∧ Q (.bl (strLt i j)) H) : R2) x y H Q) gLt := dr_cmp (f := fun i j => decide (i < j)) (g := strLt) fun _ _ _ => rfl
theorem dr_le {K : PySem.W.Frag} : Dr2 K (fun x y H Q => (rI0 fun i j => .bl (decide (i ≤ j))) x y H Q ∨ ((fun x y H Q => ∃ i j, x = .str i ∧ y = .str j ∧ Q (.bl (!strLt j i)) H) : R2) x y H Q) gLe := dr_cmp (f := fun i j => decide (i ≤ j)) (g := fun i j => !strLt j i) fun _ _ _ => rfl
theorem dr_gt {K : PySem.W.Frag} : Dr2 K (fun x y H Q => (rI0 fun i j => .bl (decide (j < i))) x y H Q ∨ ((fun x y H Q => ∃ i j, x = .str i ∧ y = .str j ∧ Q (.bl (strLt j i)) H) : R2) x y H Q) gGt := dr_cmp (f := fun i j => decide (j < i)) (g := fun i j => strLt j i) fun _ _ _ => rfl
theorem dr_ge {K : PySem.W.Frag} : Dr2 K (fun x y H Q => (rI0 fun i j => .bl (decide (j ≤ i))) x y H Q ∨ ((fun x y H Q => ∃ i j, x = .str i ∧ y = .str j ∧ Q (.bl (!strLt i j)) H) : R2) x y H Q) gGe := dr_cmp (f := fun i j => decide (j ≤ i)) (g := fun i j => !strLt i j) fun _ _ _ => rfl
theorem pd_lt (ha : PD X W a fa) (hb : PD X W b fb) : PD X W (.Compare a [.Lt] [b] pos) (e2 gLt fa fb) := pd_cmp op_ltAll dr_lt ha hb
theorem pd_le (ha : PD X W a fa) (hb : PD X W b fb) : PD X W (.Compare a [.LtE] [b] pos) (e2 gLe fa fb) := pd_cmp op_leAll dr_le ha hb
theorem pd_gt (ha : PD X W a fa) (hb : PD X W b fb) : PD X W (.Compare a [.Gt] [b] pos) (e2 gGt fa fb) := pd_cmp op_gtAll dr_gt ha hb
theorem pd_ge (ha : PD X W a fa) (hb : PD X W b fb) : PD X W (.Compare a [.GtE] [b] pos) (e2 gGe fa fb) := pd_cmp op_geAll dr_ge ha hb
end
end DL
set_option Elab.async false
set_option maxRecDepth 100000
set_option maxHeartbeats 2000000
namespace DL
open PySem PySem.Spec PyProof.Rows L2

/-! ### == of data -/
mutual
def plain : D → Bool
  | .v x => flatV x
  | .tup ds => plains ds
  | .lst ds => plains ds
  | .ro ds => plains ds
  | .kt ds => plains ds
  | _ => false
def plains : List D → Bool
  | [] => true
  | d :: ds => plain d && plains ds
end
def pyV : V → PyData
  | .non => .none
  | .bl b => .bool b
  | .int i => .int i
  | .str s => .str s
  | _ => .none
mutual
def toPy : D → PyData
  | .v x => pyV x
  | .tup ds => .tuple (toPys ds)
  | .lst ds => .list (toPys ds)
  | .ro ds => .list (toPys ds)
  | .kt ds => .tuple (toPys ds)
  | _ => .none
def toPys : List D → List PyData
  | [] => []
  | d :: ds => toPy d :: toPys ds
end
mutual
def dep : D → Nat
  | .v _ => 0
  | .tup ds => deps ds + 1
  | .lst ds => deps ds + 1
  | .ro ds => deps ds + 1
  | .kt ds => deps ds + 1
  | _ => 0
def deps : List D → Nat
  | [] => 0
  | d :: ds => max (dep d) (deps ds)
end
def deq (x y : D) : Bool := PyData.eqv (toPy x) (toPy y)
def resM (M : Mem) : D → D
  | .h k => match M[k]? with
    | some c => c
    | none => .h k
  | d => d
theorem pyV_can {x : V} (h : okV x = true) : (pyV x).canLay0 = true := by
  cases x with
  | str s => unfold pyV PyData.canLay0; exact (okV_str h).1
  | _ => first | (unfold pyV; simp [PyData.canLay0])
theorem pyV_dep (x : V) : (pyV x).depth = 0 := by
  cases x <;> simp [pyV, PyData.depth]
section
variable {K : PySem.W.Frag} {W : WX} {S : Hp} {as : List Addr} {M : Mem} {H : Hp} {σ : L2.St} {ρ : Env} {Q : VK} {p : Addr}
mutual
theorem Rep.dp (e : Same S H) : ∀ (d : D) (v : V), Rep K S as d v → plain d = true → Dp K H v (toPy d) ∧ (toPy d).canLay0 = true ∧ (toPy d).depth = dep d
  | .v x, v, r, h => by
    obtain ⟨r1, r2⟩ := r
    subst r1
    refine ⟨?_, by unfold toPy; exact pyV_can r2, by unfold toPy dep; exact pyV_dep _⟩
    unfold plain at h
    cases v with
    | non => exact .non
    | bl b => exact .bl b
    | int i => exact .int i
    | str s => exact .str s
    | _ => cases h
  | .tup ds, v, r, h => by
    obtain ⟨a, vs, h1, h2, h3, h4⟩ := r
    subst h1
    obtain ⟨q1, q2, q3⟩ := Reps.dp e ds vs h3 (by unfold plain at h; exact h)
    unfold toPy
    exact ⟨.tup (SqT.of (e _ _ h2)) q1, by simp [PyData.canLay0, q2], by simp [PyData.depth, q3, dep]⟩
  | .lst ds, v, r, h => by
    obtain ⟨a, vs, h1, h2, h3, h4⟩ := r
    subst h1
    obtain ⟨q1, q2, q3⟩ := Reps.dp e ds vs h3 (by unfold plain at h; exact h)
    unfold toPy
    exact ⟨.lst (SqL.of (e _ _ h2)) q1, by simp [PyData.canLay0, q2], by simp [PyData.depth, q3, dep]⟩
  | .ro ds, v, r, h => by
    obtain ⟨a, vs, h1, h2, h3, h4⟩ := r
    subst h1
    obtain ⟨q1, q2, q3⟩ := Reps.dp e ds vs h3 (by unfold plain at h; exact h)
    unfold toPy
    exact ⟨.lst (Evl.ex_l e h2) q1, by simp [PyData.canLay0, q2], by simp [PyData.depth, q3, dep]⟩
  | .kt ds, v, r, h => by
    obtain ⟨a, vs, h1, h2, h3, h4⟩ := r
    subst h1
    obtain ⟨q1, q2, q3⟩ := Reps.dp e ds vs h3 (by unfold plain at h; exact h)
    unfold toPy
    exact ⟨.tup (Evl.ex_t e h2) q1, by simp [PyData.canLay0, q2], by simp [PyData.depth, q3, dep]⟩
  | .h k, v, r, h => by simp [plain] at h
  | .ins _ _ _, v, r, h => by simp [plain] at h
  | .dK _ _, v, r, h => by simp [plain] at h
  | .dT _ _, v, r, h => by simp [plain] at h
  | .dN _ _ _, v, r, h => by simp [plain] at h
  | .cl _, v, r, h => by simp [plain] at h
theorem Reps.dp (e : Same S H) : ∀ (ds : List D) (vs : List V), Reps K S as ds vs → plains ds = true → DpAll K H vs (toPys ds) ∧ PyData.canLayAll0 (toPys ds) = true ∧ PyData.depthAll (toPys ds) = deps ds
  | [], vs, r, h => by
    have r : vs = [] := r
    subst r
    unfold toPys
    exact ⟨.nil, by simp [PyData.canLayAll0], by simp [PyData.depthAll, deps]⟩
  | d :: ds, vs, r, h => by
    obtain ⟨v, r', h1, h2, h3⟩ := r
    subst h1
    unfold plains at h
    rw [Bool.and_eq_true] at h
    obtain ⟨a1, a2, a3⟩ := Rep.dp e d v h2 h.1
    obtain ⟨b1, b2, b3⟩ := Reps.dp e ds r' h3 h.2
    unfold toPys
    exact ⟨.cons a1 b1, by simp [PyData.canLayAll0, a2, b2], by simp [PyData.depthAll, a3, b3, deps]⟩
end
theorem res_dp {d : D} {v : V} (st : St K S as M H) (r : Rep K S as d v) (h : plain (resM M d) = true) : Dp K H v (toPy (resM M d)) ∧ (toPy (resM M d)).canLay0 = true ∧ (toPy (resM M d)).depth = dep (resM M d) := by
  cases d with
  | h k =>
    obtain ⟨a, h1, h2⟩ := r
    subst h2
    unfold resM at h ⊢
    cases e : M[k]? with
    | none => simp [e, plain] at h
    | some c =>
      simp only [e] at h ⊢
      obtain ⟨_, ho, eh, ro⟩ := st.cell k c a e h1
      cases c with
      | lst ds =>
        cases ho with
        | lst vs =>
          obtain ⟨q1, q2, q3⟩ := Reps.dp st.ex ds vs ro.1 (by unfold plain at h; exact h)
          unfold toPy
          exact ⟨.lst (SqL.of eh) q1, by simp [PyData.canLay0, q2], by simp [PyData.depth, q3, dep]⟩
        | _ => exact ro.elim
      | tup ds =>
        cases ho with
        | tup vs =>
          obtain ⟨q1, q2, q3⟩ := Reps.dp st.ex ds vs ro.1 (by unfold plain at h; exact h)
          unfold toPy
          exact ⟨.tup (SqT.of eh) q1, by simp [PyData.canLay0, q2], by simp [PyData.depth, q3, dep]⟩
        | _ => exact ro.elim
      | v x => exact ro.elim
      | h j => exact ro.elim
      | ro ds => exact ro.elim
      | kt ds => exact ro.elim
      | _ => simp [plain] at h
  | _ => exact Rep.dp st.ex _ v r h
theorem shaped_of {d : PyData} (h1 : d.canLay0 = true) (h2 : d.depth ≤ 64) : SeqAt.shaped d = true := by
  unfold SeqAt.shaped; simp [h1, h2]
def okEq (d : D) : Bool := plain d && decide (dep d ≤ 64)
theorem okEq_of {d : D} {v : V} (st : St K S as M H) (r : Rep K S as d v) (h : okEq (resM M d) = true) : Dp K H v (toPy (resM M d)) ∧ SeqAt.shaped (toPy (resM M d)) = true := by
  unfold okEq at h
  rw [Bool.and_eq_true, decide_eq_true_iff] at h
  obtain ⟨a, b, c⟩ := res_dp st r h.1
  exact ⟨a, shaped_of b (by rw [c]; exact h.2)⟩
def gEq : D → D → C D := fun x y M => if (okEq (resM M x) && okEq (resM M y)) = true then .ok (.v (.bl (deq (resM M x) (resM M y)))) M else .stuck
def gNe : D → D → C D := fun x y M => if (okEq (resM M x) && okEq (resM M y)) = true then .ok (.v (.bl (!deq (resM M x) (resM M y)))) M else .stuck
theorem dr_eq : Dr2 K (rEqD K) gEq := by
  intro S as M H σ ρ W x y v u Q st rx ry fin
  unfold gEq at fin
  split at fin
  · rename_i h
    rw [Bool.and_eq_true] at h
    obtain ⟨a1, a2⟩ := okEq_of st rx h.1
    obtain ⟨b1, b2⟩ := okEq_of st ry h.2
    exact ⟨_, _, a1, b1, a2, b2, fin_ok (d := .v (.bl _)) st ⟨rfl, rfl⟩ fin⟩
  · exact fin.elim
theorem dr_ne : Dr2 K (rNeD K) gNe := by
  intro S as M H σ ρ W x y v u Q st rx ry fin
  unfold gNe at fin
  split at fin
  · rename_i h
    rw [Bool.and_eq_true] at h
    obtain ⟨a1, a2⟩ := okEq_of st rx h.1
    obtain ⟨b1, b2⟩ := okEq_of st ry h.2
    exact ⟨_, _, a1, b1, a2, b2, fin_ok (d := .v (.bl _)) st ⟨rfl, rfl⟩ fin⟩
  · exact fin.elim
end
section
variable {X : Cx} {W : WX} {pos : Pos} {a b : Expr} {fa fb : Env → C D}
theorem pd_eq (hu : X.A.units + 65 < cLine) (ha : PD X W a fa) (hb : PD X W b fb) : PD X W (.Compare a [.Eq] [b] pos) (e2 gEq fa fb) := pd_cmp (op_eqD (by omega)) dr_eq ha hb
theorem pd_ne (hu : X.A.units + 65 < cLine) (ha : PD X W a fa) (hb : PD X W b fb) : PD X W (.Compare a [.NotEq] [b] pos) (e2 gNe fa fb) := pd_cmp (op_neD (by omega)) dr_ne ha hb
/-- is None -/
def isNon : D → Bool
  | .v .non => true
  | _ => false
def gIsN : D → C D := fun x M => .ok (.v (.bl (isNon x))) M
def gNotN : D → C D := fun x M => .ok (.v (.bl (!isNon x))) M
theorem rep_non {K : PySem.W.Frag} {S : Hp} {as : List Addr} : ∀ {d : D} {v : V}, Rep K S as d v → decide (v = .non) = isNon d := fun {d v} r => by
  cases d with
  | v x =>
    obtain ⟨r1, _⟩ := r
    subst r1
    cases v <;> rfl
  | h k => obtain ⟨_, _, r1⟩ := r; subst r1; rfl
  | tup _ => obtain ⟨_, _, r1, _⟩ := r; subst r1; rfl
  | lst _ => obtain ⟨_, _, r1, _⟩ := r; subst r1; rfl
  | ro _ => obtain ⟨_, _, r1, _⟩ := r; subst r1; rfl
  | kt _ => obtain ⟨_, _, r1, _⟩ := r; subst r1; rfl
  | ins _ _ _ => obtain ⟨_, _, _, r1, _⟩ := r; subst r1; rfl
  | dK _ _ => obtain ⟨_, _, r1, _⟩ := r; subst r1; rfl
  | dT _ _ => obtain ⟨_, _, r1, _⟩ := r; subst r1; rfl
  | dN _ _ _ => obtain ⟨_, _, r1, _⟩ := r; subst r1; rfl
  | cl _ =>
    have r1 : v = V.ref _ := r
    subst r1; rfl
theorem pd_isN {j pos'} (ha : PD X W a fa) : PD X W (.Compare a [.Is] [.Constant .none j pos'] pos) (e1 gIsN fa) := (pe_cmp (pc_isN ha) (by first | rfl | exact nobehind _ (by decide) (by decide))).up fun σ H Q h => by
  obtain ⟨S, as, M, ρ, st, env, fin⟩ := h
  refine ⟨S, as, M, ρ, st, env, Fin.bind (g := gIsN) fin env fun S1 as1 M1 x v H1 e1 st1 env1 rx fin1 => ?_⟩
  rw [rep_non rx]
  exact fin_ok (d := .v (.bl _)) st1 ⟨rfl, rfl⟩ fin1
theorem pd_notN {j pos'} (ha : PD X W a fa) : PD X W (.Compare a [.IsNot] [.Constant .none j pos'] pos) (e1 gNotN fa) := (pe_cmp (pc_notN ha) (by first | rfl | exact nobehind _ (by decide) (by decide))).up fun σ H Q h => by
  obtain ⟨S, as, M, ρ, st, env, fin⟩ := h
  refine ⟨S, as, M, ρ, st, env, Fin.bind (g := gNotN) fin env fun S1 as1 M1 x v H1 e1 st1 env1 rx fin1 => ?_⟩
  rw [rep_non rx]
  exact fin_ok (d := .v (.bl _)) st1 ⟨rfl, rfl⟩ fin1
end

/-! ### in, not in: texts, lists, tuples (dicts: below) -/
def inStr (a b : Str) : Bool := !(Builtin.Str.occurrences b a 0 b.length 1).isEmpty
def flatD : D → Bool
  | .v x => flatV x
  | _ => false
def anyEq (x : D) (ds : List D) : Bool := ds.any fun z => deq z x
/-- the answer of in, if it is known -/
def inD (M : Mem) (x y : D) : Option Bool := match y with
  | .v (.str b) => match x with
    | .v (.str a) => some (inStr a b)
    | _ => none
  | .tup ds => if (flatD x && ds.all flatD) = true then some (anyEq x ds) else none
  | y => match lstOf M y with
    | some ds => if (okEq (resM M x) && okEq (.lst ds)) = true then some (anyEq (resM M x) ds) else none
    | none => none
def gIn : D → D → C D := fun x y M => match inD M x y with
  | some b => .ok (.v (.bl b)) M
  | none => .stuck
def gNotIn : D → D → C D := fun x y M => match inD M x y with
  | some b => .ok (.v (.bl (!b))) M
  | none => .stuck
theorem eqV_flat {x y : V} (hx : flatV x = true) (hy : flatV y = true) : eqV y x = PyData.eqv (pyV y) (pyV x) := by
  cases x <;> cases hx <;> cases y <;> cases hy <;> simp [eqV, pyV, PyData.eqv]
section
variable {K : PySem.W.Frag} {W : WX} {S : Hp} {as : List Addr} {M : Mem} {H : Hp} {σ : L2.St} {ρ : Env} {Q : VK} {p : Addr}
theorem flat_in {x : V} (hx : flatV x = true) : ∀ {ds : List D} {vs : List V}, Reps K S as ds vs → ds.all flatD = true → vs.all flatV = true ∧ inV x vs = anyEq (.v x) ds
  | [], vs, r, h => by
    have r : vs = [] := r
    subst r
    exact ⟨rfl, rfl⟩
  | d :: ds, vs, r, h => by
    obtain ⟨v, r', h1, h2, h3⟩ := r
    subst h1
    rw [List.all_cons, Bool.and_eq_true] at h
    obtain ⟨q1, q2⟩ := flat_in hx h3 h.2
    cases d with
    | v z =>
      obtain ⟨h4, _⟩ := h2
      subst h4
      have hz : flatV v = true := h.1
      refine ⟨by rw [List.all_cons, hz, q1]; rfl, ?_⟩
      unfold inV anyEq at *
      rw [List.any_cons, List.any_cons, q2, eqV_flat hx hz]
      unfold deq toPy
      rfl
    | _ => exact absurd h.1 (by simp [flatD])
theorem dp_any : ∀ {ds : List D} {x : D}, (toPys ds).any (fun z => PyData.eqv z (toPy x)) = anyEq x ds
  | [], x => by unfold toPys anyEq; rfl
  | d :: ds, x => by
    have ih := dp_any (ds := ds) (x := x)
    show ((toPy d :: toPys ds).any fun z => PyData.eqv z (toPy x)) = anyEq x (d :: ds)
    rw [List.any_cons, ih]; rfl
theorem okEq_lst {y : D} {u : V} {ds : List D} (st : St K S as M H) (ry : Rep K S as y u) (hy : lstOf M y = some ds) (h : okEq (.lst ds) = true) : Dp K H u (.list (toPys ds)) ∧ SeqAt.shaped (.list (toPys ds)) = true := by
  obtain ⟨a, vs, h1, h2, h3, h4⟩ := lst_of st ry hy
  unfold okEq at h
  rw [Bool.and_eq_true, decide_eq_true_iff] at h
  unfold plain dep at h
  obtain ⟨q1, q2, q3⟩ := Reps.dp st.ex ds vs h3 h.1
  subst h1
  exact ⟨.lst h2 q1, shaped_of (by simp [PyData.canLay0, q2]) (by simp [PyData.depth, q3]; omega)⟩
abbrev rInAll (K : PySem.W.Frag) : R2 := fun x y H Q => ((fun x y H Q => ∃ i j, x = .str i ∧ y = .str j ∧ Q (.bl (!(Builtin.Str.occurrences j i 0 j.length 1).isEmpty)) H) : R2) x y H Q ∨ rIn K false x y H Q ∨ rInD K x y H Q
abbrev rNotInAll (K : PySem.W.Frag) : R2 := fun x y H Q => ((fun x y H Q => ∃ i j, x = .str i ∧ y = .str j ∧ Q (.bl (!(!(Builtin.Str.occurrences j i 0 j.length 1).isEmpty))) H) : R2) x y H Q ∨ rIn K true x y H Q ∨ rNotInD K x y H Q
theorem dr_in : Dr2 K (rInAll K) gIn := by
  intro S as M H σ ρ W x y v u Q st rx ry fin
  unfold gIn inD at fin
  split at fin
  · rename_i b he
    split at he
    · rename_i j
      split at he
      · rename_i i
        cases he
        exact .inl ⟨i, j, rx.1, ry.1, fin_ok (d := .v (.bl _)) st ⟨rfl, rfl⟩ fin⟩
      · cases he
    · rename_i ds
      split at he
      · rename_i h
        cases he
        rw [Bool.and_eq_true] at h
        obtain ⟨a, vs, h1, h2, h3, h4⟩ := tup_of st ry
        cases x with
        | v z =>
          obtain ⟨r1, r2⟩ := rx
          subst r1
          have hz : flatV v = true := h.1
          obtain ⟨q1, q2⟩ := flat_in hz h3 h.2
          refine .inr (.inl ⟨a, vs, h1, .inr h2, hz, q1, ?_⟩)
          rw [if_neg Bool.false_ne_true, q2]
          exact fin_ok (d := .v (.bl _)) st ⟨rfl, rfl⟩ fin
        | _ => exact absurd h.1 (by simp [flatD])
      · cases he
    · split at he
      · rename_i ds hl
        split at he
        · rename_i h
          cases he
          rw [Bool.and_eq_true] at h
          obtain ⟨a1, a2⟩ := okEq_of st rx h.1
          obtain ⟨b1, b2⟩ := okEq_lst st ry hl h.2
          refine .inr (.inr ⟨_, _, a1, b1, a2, b2, ?_⟩)
          rw [dp_any]
          exact fin_ok (d := .v (.bl _)) st ⟨rfl, rfl⟩ fin
        · cases he
      · cases he
  · exact fin.elim
theorem dr_notIn : Dr2 K (rNotInAll K) gNotIn := by
  intro S as M H σ ρ W x y v u Q st rx ry fin
  unfold gNotIn inD at fin
  split at fin
  · rename_i b he
    split at he
    · rename_i j
      split at he
      · rename_i i
        cases he
        exact .inl ⟨i, j, rx.1, ry.1, fin_ok (d := .v (.bl _)) st ⟨rfl, rfl⟩ fin⟩
      · cases he
    · rename_i ds
      split at he
      · rename_i h
        cases he
        rw [Bool.and_eq_true] at h
        obtain ⟨a, vs, h1, h2, h3, h4⟩ := tup_of st ry
        cases x with
        | v z =>
          obtain ⟨r1, r2⟩ := rx
          subst r1
          have hz : flatV v = true := h.1
          obtain ⟨q1, q2⟩ := flat_in hz h3 h.2
          refine .inr (.inl ⟨a, vs, h1, .inr h2, hz, q1, ?_⟩)
          rw [if_pos rfl, q2]
          exact fin_ok (d := .v (.bl _)) st ⟨rfl, rfl⟩ fin
        | _ => exact absurd h.1 (by simp [flatD])
      · cases he
    · split at he
      · rename_i ds hl
        split at he
        · rename_i h
          cases he
          rw [Bool.and_eq_true] at h
          obtain ⟨a1, a2⟩ := okEq_of st rx h.1
          obtain ⟨b1, b2⟩ := okEq_lst st ry hl h.2
          refine .inr (.inr ⟨_, _, a1, b1, a2, b2, ?_⟩)
          rw [dp_any]
          exact fin_ok (d := .v (.bl _)) st ⟨rfl, rfl⟩ fin
        · cases he
      · cases he
  · exact fin.elim
end
section
variable {X : Cx} {W : WX} {pos : Pos} {a b : Expr} {fa fb : Env → C D}
theorem op_inAll (hu : X.A.units + 65 < cLine) : OpR X (compareOp .In) (rInAll X.K) := op_in_str.or (op_in_seq.or (op_inD hu))
theorem op_notInAll (hu : X.A.units + 65 < cLine) : OpR X (compareOp .NotIn) (rNotInAll X.K) := op_notin_str.or (op_notIn_seq.or (op_notInD hu))
theorem pd_in (hu : X.A.units + 65 < cLine) (ha : PD X W a fa) (hb : PD X W b fb) (hm : behindInMarks .In b = false := by rfl) : PD X W (.Compare a [.In] [b] pos) (e2 gIn fa fb) := pd_cmp (op_inAll hu) dr_in ha hb hm
theorem pd_notIn (hu : X.A.units + 65 < cLine) (ha : PD X W a fa) (hb : PD X W b fb) (hm : behindInMarks .NotIn b = false := by rfl) : PD X W (.Compare a [.NotIn] [b] pos) (e2 gNotIn fa fb) := pd_cmp (op_notInAll hu) dr_notIn ha hb hm
end
end DL
set_option Elab.async false
set_option maxRecDepth 100000
set_option maxHeartbeats 2000000
namespace DL
open PySem PySem.Spec PyProof.Rows L2

/-! ### subscripts -/
def gIx : D → D → C D := fun x y M => match y with
  | .v (.int i) => match x with
    | .v (.str z) => match atI z.cps.toList i with
      | some c => .ok (.v (.str ⟨#[c]⟩)) M
      | none => .stuck
    | x => match seqOf M x with
      | some ds => match atI ds i with
        | some d => .ok d M
        | none => .stuck
      | none => .stuck
  | _ => .stuck
section
variable {K : PySem.W.Frag} {W : WX} {S : Hp} {as : List Addr} {M : Mem} {H : Hp} {σ : L2.St} {ρ : Env} {Q : VK} {p : Addr}
theorem Reps.at {ds : List D} {vs : List V} {i : Int} {d : D} (r : Reps K S as ds vs) (h : atI ds i = some d) : ∃ v, atI vs i = some v ∧ Rep K S as d v := by
  unfold atI at *
  rw [← r.length]
  cases e : ixN ds.length i with
  | none => rw [e] at h; cases h
  | some j =>
    rw [e] at h
    exact r.get h
theorem strOk_at {z : Str} {i : Int} {c : Nat} (h : PyData.strOk z = true) (e : atI z.cps.toList i = some c) : okV (.str ⟨#[c]⟩) = true := by
  obtain ⟨j, _, h2, _⟩ := atI_get e
  unfold PyData.strOk at h
  rw [Array.all_eq_true_iff_forall_mem] at h
  have := h c (by simpa using List.mem_of_getElem? h2)
  exact okV_mk (by unfold PyData.strOk; simpa using this) (by show (#[c] : Array Nat).size ≤ 16777216; simp)
theorem dr_ix : Dr2 K (rIx K) gIx := by
  intro S as M H σ ρ W x y v u Q st rx ry fin
  have lq := line_eq
  unfold gIx at fin
  split at fin
  · rename_i i
    split at fin
    · rename_i z
      split at fin
      · rename_i c hc
        have hz := okV_str rx.2
        exact .inr (.inr ⟨z, i, c, rx.1, ry.1, by omega, hc, fin_ok (d := .v (.str ⟨#[c]⟩)) st ⟨rfl, strOk_at hz.1 hc⟩ fin⟩)
      · exact fin.elim
    · split at fin
      · rename_i ds hd
        split at fin
        · rename_i d hi
          obtain ⟨a, vs, h1, h2, h3, h4⟩ := seq_of st rx hd
          obtain ⟨w', k1, k2⟩ := h3.at hi
          rcases h2 with h2 | h2
          · exact .inl ⟨a, vs, i, w', h1, ry.1, h2, k1, fin_ok st k2 fin⟩
          · exact .inr (.inl ⟨a, vs, i, w', h1, ry.1, h2, k1, fin_ok st k2 fin⟩)
        · exact fin.elim
      · exact fin.elim
  · exact fin.elim
end
/-! ### slices -/
def cutG {α : Type} (xs : List α) (lo hi : Option Int) : List α := (xs.drop (HT.sIx xs.length 0 lo)).take (HT.sIx xs.length xs.length hi - HT.sIx xs.length 0 lo)
abbrev tDo (K : PySem.W.Frag) (W : WX) (f : Env → C (Option Int)) : TO := tG EqR K W f
abbrev PDo (X : Cx) (W : WX) (e : Option Expr) (f : Env → C (Option Int)) : Prop := PO X e (tDo X.K W f)
def oNo : Env → C (Option Int) := fun _ => C.ret none
def oYes (fa : Env → C D) : Env → C (Option Int) := fun ρ => (fa ρ).bind fun x M => match x with
  | .v (.int i) => .ok (some i) M
  | _ => .stuck
theorem _root_.L2.PO.up {X : Cx} {e : Option Expr} {t t' : TO} (h : PO X e t) (i : ∀ σ H Q, t' σ H Q → t σ H Q) : PO X e t' := ⟨fun pins s σ H Q I q => h.run pins s σ H Q I (i σ H Q q)⟩
section
variable {X : Cx} {W : WX} {pos : Pos} {a b e : Expr} {fa fb : Env → C D}
theorem pdo_no : PDo X W none oNo := po_none.up fun σ H Q h => by
  obtain ⟨S, as, M, ρ, st, env, fin⟩ := h
  exact fin S as none H (Ext.refl _ _ _) st rfl
theorem pdo_some (ha : PD X W e fa) : PDo X W (some e) (oYes fa) := (po_some ha).up fun σ H Q h => by
  obtain ⟨S, as, M, ρ, st, env, fin⟩ := h
  refine ⟨S, as, M, ρ, st, env, Fin.bind (R' := EqR) (g := fun x M => match x with
    | .v (.int i) => Out.ok (some i) M
    | _ => .stuck) fin env fun S1 as1 M1 x v H1 e1 st1 env1 rx fin1 => ?_⟩
  split at fin1
  · rename_i i
    exact ⟨i, rx.1, fin1 S1 as1 (some i) H1 (Ext.refl _ _ _) st1 rfl⟩
  · exact fin1.elim
/-- a slice: of a list a new value; of a tuple not the whole; of a text -/
def gSl (x : D) (lo hi : Option Int) : C D := fun M => match x with
  | .v (.str z) => .ok (.v (.str (cutS z lo hi))) M
  | .tup ds => if HT.sIx ds.length 0 lo = 0 ∧ HT.sIx ds.length ds.length hi = ds.length then .stuck else .ok (.tup (cutG ds lo hi)) M
  | x => match lstOf M x with
    | some ds => .ok (.lst (cutG ds lo hi)) M
    | none => .stuck
theorem cutG_len {α : Type} (xs : List α) (lo hi : Option Int) : (cutG xs lo hi).length ≤ xs.length := by
  unfold cutG
  rw [List.length_take, List.length_drop]
  omega
theorem Reps.cut {K : PySem.W.Frag} {S : Hp} {as : List Addr} {ds : List D} {vs : List V} (r : Reps K S as ds vs) (lo hi : Option Int) : Reps K S as (cutG ds lo hi) (cutV vs lo hi) := by
  unfold cutG cutV
  rw [← r.length]
  exact (r.drop _).take _
theorem okV_cut {z : Str} (h : okV (.str z) = true) (lo hi : Option Int) : okV (.str (cutS z lo hi)) = true := by
  obtain ⟨h1, h2⟩ := okV_str h
  refine okV_mk ?_ (Nat.le_trans (cutS_length z lo hi) h2)
  unfold PyData.strOk at *
  rw [Array.all_eq_true_iff_forall_mem] at *
  intro c hc
  refine h1 c ?_
  unfold cutS at hc
  have := List.mem_of_mem_drop (List.mem_of_mem_take (by simpa using hc))
  simpa using this
def eSl (fe : Env → C D) (fl fh : Env → C (Option Int)) : Env → C D := fun ρ => (fe ρ).bind fun x => (fl ρ).bind fun lo => (fh ρ).bind fun hi => gSl x lo hi
theorem pd_slice {fl fh : Env → C (Option Int)} {lo hi : Option Expr} {p2 : Pos} (he : PD X W e fa) (hl : PDo X W lo fl) (hh : PDo X W hi fh) : PD X W (.Subscript e (.Slice lo hi none p2) pos) (eSl fa fl fh) :=
  (pe_slice (sl_list.or (sl_tup.or sl_str)) he hl hh).up fun σ H Q h => by
    have lq := line_eq
    obtain ⟨S, as, M, ρ, st, env, fin⟩ := h
    refine ⟨S, as, M, ρ, st, env, Fin.bind (g := fun x => (fl ρ).bind fun lo => (fh ρ).bind fun hi => gSl x lo hi) fin env fun S1 as1 M1 x v H1 e1 st1 env1 rx fin1 => ?_⟩
    refine ⟨S1, as1, M1, ρ, st1, env1, Fin.bind (g := fun lo => (fh ρ).bind fun hi => gSl x lo hi) fin1 env1 fun S2 as2 M2 l l' H2 e2 st2 env2 rl fin2 => ?_⟩
    refine ⟨S2, as2, M2, ρ, st2, env2, Fin.bind (g := fun hi => gSl x l hi) fin2 env2 fun S3 as3 M3 u u' H3 e3 st3 env3 ru fin3 => ?_⟩
    have rl : l = l' := rl
    have ru : u = u' := ru
    subst rl ru
    have rx3 := Rep.mono (e2.trans e3).same (e2.trans e3).pre x v rx
    unfold gSl at fin3
    split at fin3
    · rename_i z
      exact .inr (.inr ⟨z, rx3.1, by have := (okV_str rx3.2).2; omega, fin_ok (d := .v (.str _)) st3 ⟨rfl, okV_cut rx3.2 l u⟩ fin3⟩)
    · rename_i ds
      split at fin3
      · exact fin3.elim
      · rename_i hn
        obtain ⟨a, vs, h1, h2, h3, h4⟩ := tup_of st3 rx3
        refine .inr (.inl ⟨a, vs, h1, h2, by rw [← h3.length]; exact hn, fun p n => fin_tup st3 fin3 (h3.cut l u) (Nat.le_trans (cutG_len _ _ _) h4) n⟩)
    · split at fin3
      · rename_i ds hd
        obtain ⟨a, vs, h1, h2, h3, h4⟩ := lst_of st3 rx3 hd
        exact .inl ⟨a, vs, h1, h2, fun p n => fin_lst st3 fin3 (h3.cut l u) (Nat.le_trans (cutG_len _ _ _) h4) n⟩
      · exact fin3.elim
/-! ### truth, tests -/
def truD (M : Mem) : D → Option Bool
  | .v .non => some false
  | .v (.bl b) => some b
  | .v (.int i) => some (i != 0)
  | .v (.str y) => some ((y.length : Int) != 0)
  | .tup ds => some (!ds.isEmpty)
  | .lst ds => some (!ds.isEmpty)
  | .ro ds => some (!ds.isEmpty)
  | .kt ds => some (!ds.isEmpty)
  | .dK ks _ => some (!ks.isEmpty)
  | .h k => match M[k]? with
    | some (.lst ds) => some (!ds.isEmpty)
    | some (.dK ks _) => some (!ks.isEmpty)
    | _ => none
  | _ => none
def gTru : D → C Bool := fun x M => match truD M x with
  | some b => .ok b M
  | none => .stuck
def eT (fa : Env → C D) : Env → C Bool := fun ρ => (fa ρ).bind gTru
def asB : D → C Bool := fun x M => match x with
  | .v (.bl b) => .ok b M
  | _ => .stuck
def eB (fa : Env → C D) : Env → C Bool := fun ρ => (fa ρ).bind asB
theorem Reps.empty {K : PySem.W.Frag} {S : Hp} {as : List Addr} {ds : List D} {vs : List V} (r : Reps K S as ds vs) : (!ds.isEmpty) = !vs.isEmpty := by
  have := r.length
  cases ds <;> cases vs <;> first | rfl | (simp at this)
theorem tru_of {K : PySem.W.Frag} {S : Hp} {as : List Addr} {M : Mem} {H : Hp} {d : D} {v : V} {b : Bool} (st : St K S as M H) (r : Rep K S as d v) (h : truD M d = some b) : TruV K v H b := by
  have lq := line_eq
  cases d with
  | v x =>
    obtain ⟨r1, r2⟩ := r
    subst r1
    cases v with
    | non => cases h; rfl
    | bl b => cases h; rfl
    | int i => cases h; rfl
    | str s => cases h; exact ⟨by have := (okV_str r2).2; omega, rfl⟩
    | _ => cases h
  | tup ds =>
    cases h
    obtain ⟨a, vs, h1, h2, h3, h4⟩ := tup_of st r
    subst h1
    exact .inr (.inl ⟨vs, h2, h3.empty⟩)
  | kt ds =>
    cases h
    obtain ⟨a, vs, h1, h2, h3, h4⟩ := kt_of st r
    subst h1
    exact .inr (.inl ⟨vs, h2, h3.empty⟩)
  | lst ds =>
    cases h
    obtain ⟨a, vs, h1, h2, h3, h4⟩ := lst_of st r rfl
    subst h1
    exact .inl ⟨vs, h2, h3.empty⟩
  | ro ds =>
    cases h
    obtain ⟨a, vs, h1, h2, h3, h4⟩ := lst_of st r rfl
    subst h1
    exact .inl ⟨vs, h2, h3.empty⟩
  | h k =>
    obtain ⟨a, h1, h2⟩ := r
    subst h2
    unfold truD at h
    cases e : M[k]? with
    | none => simp [e] at h
    | some c =>
      obtain ⟨_, ho, eh, ro⟩ := st.cell k c a e h1
      cases c with
      | lst ds =>
        simp only [e] at h
        have h := (Option.some.inj h).symm
        subst h
        cases ho with
        | lst vs => exact .inl ⟨vs, SqL.of eh, by rw [ro.1.empty]⟩
        | _ => exact ro.elim
      | dK ks ds =>
        simp only [e] at h
        have h := (Option.some.inj h).symm
        subst h
        cases ho with
        | dK kvs =>
          refine .inr (.inr ⟨kvs, eh, ?_⟩)
          rw [← ro.1]
          cases kvs <;> rfl
        | _ => exact ro.elim
      | _ => simp [e] at h
  | dK ks ds =>
    cases h
    obtain ⟨a, kvs, h1, h2, h3, _⟩ := r
    subst h1
    refine .inr (.inr ⟨kvs, st.ex _ _ h2, ?_⟩)
    rw [← h3]
    cases kvs <;> rfl
  | _ => cases h
theorem pdb_tru (ha : PD X W a fa) (he : ∀ whole, isTrue a X.env whole = (do let v ← whole; standAt a.pos; holding [v] (truthy v)) := by exact fun _ => rfl) : PDb X W a (eT fa) := (pt_truth ha he).up fun σ H Q h => by
  obtain ⟨S, as, M, ρ, st, env, fin⟩ := h
  refine ⟨S, as, M, ρ, st, env, Fin.bind (g := gTru) fin env fun S1 as1 M1 x v H1 e1 st1 env1 rx fin1 => ?_⟩
  unfold gTru at fin1
  split at fin1
  · rename_i b hb
    exact ⟨b, tru_of st1 rx hb, fin_okb st1 fin1⟩
  · exact fin1.elim
theorem asB_k {S : Hp} {as : List Addr} {M : Mem} {H : Hp} {σ : L2.St} {ρ : Env} {x : D} {v : V} {Q : Bool → Hp → Prop} (st : St X.K S as M H) (rx : Rep X.K S as x v) (fin : Fin EqR X.K S as H W σ ρ (asB x M) Q) : ∃ k, v = .bl k ∧ Q k H := by
  unfold asB at fin
  split at fin
  · rename_i b
    exact ⟨b, rx.1, fin_okb st fin⟩
  · exact fin.elim
/-- a comparison as a test -/
theorem pdb_cmp {op : CmpOp} {r : R2} {g : D → D → C D} (ho : OpR X (compareOp op) r) (hr : Dr2 X.K r g) (ha : PD X W a fa) (hb : PD X W b fb) (hm : behindInMarks op b = false := by first | exact nomark _ | rfl) : PDb X W (.Compare a [op] [b] pos) (eB (e2 g fa fb)) :=
  (pt_cmpR ho ha hb hm).up fun σ H Q h => by
    obtain ⟨S, as, M, ρ, st, env, fin⟩ := h
    refine t2_of hr ⟨S, as, M, ρ, st, env, ?_⟩
    exact Fin.bind (g := asB) fin env fun S1 as1 M1 x v H1 e1 st1 env1 rx fin1 => asB_k st1 rx fin1
theorem pdb_eq (hu : X.A.units + 65 < cLine) (ha : PD X W a fa) (hb : PD X W b fb) : PDb X W (.Compare a [.Eq] [b] pos) (eB (e2 gEq fa fb)) := pdb_cmp (op_eqD (by omega)) dr_eq ha hb
theorem pdb_ne (hu : X.A.units + 65 < cLine) (ha : PD X W a fa) (hb : PD X W b fb) : PDb X W (.Compare a [.NotEq] [b] pos) (eB (e2 gNe fa fb)) := pdb_cmp (op_neD (by omega)) dr_ne ha hb
theorem pdb_lt (ha : PD X W a fa) (hb : PD X W b fb) : PDb X W (.Compare a [.Lt] [b] pos) (eB (e2 gLt fa fb)) := pdb_cmp op_ltAll dr_lt ha hb
theorem pdb_le (ha : PD X W a fa) (hb : PD X W b fb) : PDb X W (.Compare a [.LtE] [b] pos) (eB (e2 gLe fa fb)) := pdb_cmp op_leAll dr_le ha hb
theorem pdb_gt (ha : PD X W a fa) (hb : PD X W b fb) : PDb X W (.Compare a [.Gt] [b] pos) (eB (e2 gGt fa fb)) := pdb_cmp op_gtAll dr_gt ha hb
theorem pdb_ge (ha : PD X W a fa) (hb : PD X W b fb) : PDb X W (.Compare a [.GtE] [b] pos) (eB (e2 gGe fa fb)) := pdb_cmp op_geAll dr_ge ha hb
theorem pdb_in (hu : X.A.units + 65 < cLine) (ha : PD X W a fa) (hb : PD X W b fb) (hm : behindInMarks .In b = false := by rfl) : PDb X W (.Compare a [.In] [b] pos) (eB (e2 gIn fa fb)) := pdb_cmp (op_inAll hu) dr_in ha hb hm
theorem pdb_notIn (hu : X.A.units + 65 < cLine) (ha : PD X W a fa) (hb : PD X W b fb) (hm : behindInMarks .NotIn b = false := by rfl) : PDb X W (.Compare a [.NotIn] [b] pos) (eB (e2 gNotIn fa fb)) := pdb_cmp (op_notInAll hu) dr_notIn ha hb hm
def bIsN (fa : Env → C D) : Env → C Bool := fun ρ => (fa ρ).bind fun x => C.ret (isNon x)
def bNotN (fa : Env → C D) : Env → C Bool := fun ρ => (fa ρ).bind fun x => C.ret (!isNon x)
theorem pdb_isN {j pos'} (ha : PD X W a fa) : PDb X W (.Compare a [.Is] [.Constant .none j pos'] pos) (bIsN fa) := (pt_cmp (pc_isN ha) (by first | rfl | exact nobehind _ (by decide) (by decide))).up fun σ H Q h => by
  obtain ⟨S, as, M, ρ, st, env, fin⟩ := h
  refine ⟨S, as, M, ρ, st, env, Fin.bind (g := fun x => C.ret (isNon x)) fin env fun S1 as1 M1 x v H1 e1 st1 env1 rx fin1 => ?_⟩
  rw [rep_non rx]
  exact ⟨_, rfl, fin_okb st1 fin1⟩
theorem pdb_notN {j pos'} (ha : PD X W a fa) : PDb X W (.Compare a [.IsNot] [.Constant .none j pos'] pos) (bNotN fa) := (pt_cmp (pc_notN ha) (by first | rfl | exact nobehind _ (by decide) (by decide))).up fun σ H Q h => by
  obtain ⟨S, as, M, ρ, st, env, fin⟩ := h
  refine ⟨S, as, M, ρ, st, env, Fin.bind (g := fun x => C.ret (!isNon x)) fin env fun S1 as1 M1 x v H1 e1 st1 env1 rx fin1 => ?_⟩
  rw [rep_non rx]
  exact ⟨_, rfl, fin_okb st1 fin1⟩
/-! and, or, not as tests -/
variable {ba bb bc : Env → C Bool} {rest : List Expr}
def bAnd (fa fb : Env → C Bool) : Env → C Bool := fun ρ => (fa ρ).bind fun c => if c = true then fb ρ else C.ret false
def bOr (fa fb : Env → C Bool) : Env → C Bool := fun ρ => (fa ρ).bind fun c => if c = true then C.ret true else fb ρ
def bNot (fa : Env → C Bool) : Env → C Bool := fun ρ => (fa ρ).bind fun c => C.ret (!c)
theorem pdw_and1 (ha : PDb X W a ba) : PDw X W (.BoolOp .And [a] pos) ba := pw_and1 ha
theorem pdw_or1 (ha : PDb X W a ba) : PDw X W (.BoolOp .Or [a] pos) ba := pw_or1 ha
theorem pdw_and (ha : PDb X W a ba) (hb : PDw X W (.BoolOp .And (b :: rest) pos) bb) : PDw X W (.BoolOp .And (a :: b :: rest) pos) (bAnd ba bb) := (pw_and ha hb).up fun σ H Q h => by
  obtain ⟨S, as, M, ρ, st, env, fin⟩ := h
  refine ⟨S, as, M, ρ, st, env, Fin.bind (R := EqR) (g := fun c => if c = true then bb ρ else C.ret false) fin env fun S1 as1 M1 x v H1 e1 st1 env1 rx fin1 => ?_⟩
  have rx : x = v := rx
  subst rx
  cases x with
  | true => rw [if_pos rfl] at fin1 ⊢; exact ⟨S1, as1, M1, ρ, st1, env1, fin1⟩
  | false => rw [if_neg Bool.false_ne_true] at fin1 ⊢; exact fin_okb st1 fin1
theorem pdw_or (ha : PDb X W a ba) (hb : PDw X W (.BoolOp .Or (b :: rest) pos) bb) : PDw X W (.BoolOp .Or (a :: b :: rest) pos) (bOr ba bb) := (pw_or ha hb).up fun σ H Q h => by
  obtain ⟨S, as, M, ρ, st, env, fin⟩ := h
  refine ⟨S, as, M, ρ, st, env, Fin.bind (R := EqR) (g := fun c => if c = true then C.ret true else bb ρ) fin env fun S1 as1 M1 x v H1 e1 st1 env1 rx fin1 => ?_⟩
  have rx : x = v := rx
  subst rx
  cases x with
  | true => rw [if_pos rfl] at fin1 ⊢; exact fin_okb st1 fin1
  | false => rw [if_neg Bool.false_ne_true] at fin1 ⊢; exact ⟨S1, as1, M1, ρ, st1, env1, fin1⟩
theorem pdb_w (h : PDw X W e ba) : PDb X W e ba := h.pt
theorem pdb_not (ha : PDb X W a ba) : PDb X W (.UnaryOp .Not a pos) (bNot ba) := (pt_not ha).up fun σ H Q h => by
  obtain ⟨S, as, M, ρ, st, env, fin⟩ := h
  refine ⟨S, as, M, ρ, st, env, Fin.bind (R := EqR) (g := fun c => C.ret (!c)) fin env fun S1 as1 M1 x v H1 e1 st1 env1 rx fin1 => ?_⟩
  have rx : x = v := rx
  subst rx
  exact fin_okb st1 fin1
/-! .. as values, by truth -/
def eAndV (fa fb : Env → C D) : Env → C D := fun ρ => (fa ρ).bind fun x => (gTru x).bind fun c => if c = true then fb ρ else C.ret x
def eOrV (fa fb : Env → C D) : Env → C D := fun ρ => (fa ρ).bind fun x => (gTru x).bind fun c => if c = true then C.ret x else fb ρ
def eNotV (fa : Env → C D) : Env → C D := fun ρ => (fa ρ).bind fun x => (gTru x).bind fun c => C.ret (.v (.bl (!c)))
theorem tru_bind {α : Type} {S : Hp} {as : List Addr} {M : Mem} {H : Hp} {σ : L2.St} {ρ : Env} {x : D} {v : V} {β : Type} {R : Hp → List Addr → α → β → Prop} {Q : β → Hp → Prop} {g : Bool → C α} (st : St X.K S as M H) (rx : Rep X.K S as x v) (fin : Fin R X.K S as H W σ ρ (((gTru x).bind g) M) Q) :
    ∃ k, TruV X.K v H k ∧ Fin R X.K S as H W σ ρ (g k M) Q := by
  unfold C.bind gTru at fin
  cases e : truD M x with
  | none => simp only [e] at fin; exact fin.elim
  | some k => simp only [e] at fin; exact ⟨k, tru_of st rx e, fin⟩
theorem pd_and1 {op} {fa : Env → C D} (ha : PD X W a fa) : PD X W (.BoolOp op [a] pos) fa := pe_one ha
theorem pd_andV (ha : PD X W a fa) (hb : PD X W (.BoolOp .And (b :: rest) pos) fb) : PD X W (.BoolOp .And (a :: b :: rest) pos) (eAndV fa fb) := (pe_andT ha hb).up fun σ H Q h => by
  obtain ⟨S, as, M, ρ, st, env, fin⟩ := h
  refine ⟨S, as, M, ρ, st, env, Fin.bind (g := fun x => (gTru x).bind fun c => if c = true then fb ρ else C.ret x) fin env fun S1 as1 M1 x v H1 e1 st1 env1 rx fin1 => ?_⟩
  obtain ⟨k, h1, h2⟩ := tru_bind st1 rx fin1
  refine ⟨k, h1, ?_⟩
  cases k with
  | true => rw [if_pos rfl] at h2 ⊢; exact ⟨S1, as1, M1, ρ, st1, env1, h2⟩
  | false => rw [if_neg Bool.false_ne_true] at h2 ⊢; exact fin_ok st1 rx h2
theorem pd_orV (ha : PD X W a fa) (hb : PD X W (.BoolOp .Or (b :: rest) pos) fb) : PD X W (.BoolOp .Or (a :: b :: rest) pos) (eOrV fa fb) := (pe_orT ha hb).up fun σ H Q h => by
  obtain ⟨S, as, M, ρ, st, env, fin⟩ := h
  refine ⟨S, as, M, ρ, st, env, Fin.bind (g := fun x => (gTru x).bind fun c => if c = true then C.ret x else fb ρ) fin env fun S1 as1 M1 x v H1 e1 st1 env1 rx fin1 => ?_⟩
  obtain ⟨k, h1, h2⟩ := tru_bind st1 rx fin1
  refine ⟨k, h1, ?_⟩
  cases k with
  | true => rw [if_pos rfl] at h2 ⊢; exact fin_ok st1 rx h2
  | false => rw [if_neg Bool.false_ne_true] at h2 ⊢; exact ⟨S1, as1, M1, ρ, st1, env1, h2⟩
theorem pd_notV (ha : PD X W a fa) : PD X W (.UnaryOp .Not a pos) (eNotV fa) := (pe_notT ha).up fun σ H Q h => by
  obtain ⟨S, as, M, ρ, st, env, fin⟩ := h
  refine ⟨S, as, M, ρ, st, env, Fin.bind (g := fun x => (gTru x).bind fun c => C.ret (D.v (.bl (!c)))) fin env fun S1 as1 M1 x v H1 e1 st1 env1 rx fin1 => ?_⟩
  obtain ⟨k, h1, h2⟩ := tru_bind st1 rx fin1
  exact ⟨k, h1, fin_ok (d := .v (.bl _)) st1 ⟨rfl, rfl⟩ h2⟩
def eIf (fc : Env → C Bool) (fa fb : Env → C D) : Env → C D := fun ρ => (fc ρ).bind fun c => if c = true then fa ρ else fb ρ
theorem pd_ifExp {c : Expr} (hc : PDb X W c bc) (ha : PD X W a fa) (hb : PD X W b fb) : PD X W (.IfExp c a b pos) (eIf bc fa fb) := (pe_ifExp hc ha hb).up fun σ H Q h => by
  obtain ⟨S, as, M, ρ, st, env, fin⟩ := h
  refine ⟨S, as, M, ρ, st, env, Fin.bind (R := EqR) (g := fun c => if c = true then fa ρ else fb ρ) fin env fun S1 as1 M1 x v H1 e1 st1 env1 rx fin1 => ?_⟩
  have rx : x = v := rx
  subst rx
  cases x with
  | true => rw [if_pos rfl] at fin1 ⊢; exact ⟨S1, as1, M1, ρ, st1, env1, fin1⟩
  | false => rw [if_neg Bool.false_ne_true] at fin1 ⊢; exact ⟨S1, as1, M1, ρ, st1, env1, fin1⟩
theorem asB_bind {α : Type} {S : Hp} {as : List Addr} {M : Mem} {H : Hp} {σ : L2.St} {ρ : Env} {x : D} {v : V} {β : Type} {R : Hp → List Addr → α → β → Prop} {Q : β → Hp → Prop} {g : Bool → C α} (rx : Rep X.K S as x v) (fin : Fin R X.K S as H W σ ρ (((asB x).bind g) M) Q) :
    ∃ k, v = .bl k ∧ Fin R X.K S as H W σ ρ (g k M) Q := by
  cases x with
  | v z =>
    cases z with
    | bl k => exact ⟨k, rx.1, fin⟩
    | _ => exact fin.elim
  | _ => exact fin.elim
/-- a op b op' c -/
def eChain (g g' : D → D → C D) (fa fb fc : Env → C D) : Env → C D := fun ρ => (fa ρ).bind fun x => (fb ρ).bind fun y => (g x y).bind fun z => (asB z).bind fun k => if k = true then (fc ρ).bind fun w => g' y w else C.ret (.v (.bl false))
theorem chain_of {r r' : R2} {g g' : D → D → C D} {fc : Env → C D} {σ : L2.St} {H : Hp} {Q : VK} (hr : Dr2 X.K r g) (hr' : Dr2 X.K r' g') (h : tD X.K W (eChain g g' fa fb fc) σ H Q) : tChain r r' (tD X.K W fa) (tD X.K W fb) (tD X.K W fc) σ H Q := by
  obtain ⟨S, as, M, ρ, st, env, fin⟩ := h
  refine ⟨S, as, M, ρ, st, env, Fin.bind (g := fun x => (fb ρ).bind fun y => (g x y).bind fun z => (asB z).bind fun k => if k = true then (fc ρ).bind fun w => g' y w else C.ret (.v (.bl false))) fin env fun S1 as1 M1 x v H1 e1 st1 env1 rx fin1 => ?_⟩
  refine ⟨S1, as1, M1, ρ, st1, env1, Fin.bind (g := fun y => (g x y).bind fun z => (asB z).bind fun k => if k = true then (fc ρ).bind fun w => g' y w else C.ret (.v (.bl false))) fin1 env1 fun S2 as2 M2 y u H2 e2 st2 env2 ry fin2 => ?_⟩
  refine hr S2 as2 M2 H2 σ ρ W x y v u _ st2 (Rep.mono e2.same e2.pre x v rx) ry ?_
  refine Fin.bind (g := fun z => (asB z).bind fun k => if k = true then (fc ρ).bind fun w => g' y w else C.ret (.v (.bl false))) fin2 env2 fun S3 as3 M3 z z' H3 e3 st3 env3 rz fin3 => ?_
  obtain ⟨k, h1, h2⟩ := asB_bind rz fin3
  refine ⟨k, h1, ?_⟩
  cases k with
  | true =>
    rw [if_pos rfl] at h2 ⊢
    refine ⟨S3, as3, M3, ρ, st3, env3, Fin.bind (g := fun w => g' y w) h2 env3 fun S4 as4 M4 w w' H4 e4 st4 env4 rw4 fin4 => ?_⟩
    exact hr' S4 as4 M4 H4 σ ρ W y w u w' Q st4 (Rep.mono (e3.trans e4).same (e3.trans e4).pre y u ry) rw4 fin4
  | false =>
    rw [if_neg Bool.false_ne_true] at h2 ⊢
    exact fin_ok (d := .v (.bl false)) st3 ⟨rfl, rfl⟩ h2
theorem pd_chain {op op' : CmpOp} {r r' : R2} {g g' : D → D → C D} {c : Expr} {fc : Env → C D} (ho : OpR X (compareOp op) r) (hr : Dr2 X.K r g) (ho' : OpR X (compareOp op') r') (hr' : Dr2 X.K r' g') (ha : PD X W a fa) (hb : PD X W b fb) (hc : PD X W c fc)
    (hm : lastMarks [op, op'] [b, c] = false := by with_unfolding_all rfl) : PD X W (.Compare a [op, op'] [b, c] pos) (eChain g g' fa fb fc) := (pe_chain ho ho' ha hb hc hm).up fun _ _ _ h => chain_of hr hr' h
theorem pdb_chain {op op' : CmpOp} {r r' : R2} {g g' : D → D → C D} {c : Expr} {fc : Env → C D} (ho : OpR X (compareOp op) r) (hr : Dr2 X.K r g) (ho' : OpR X (compareOp op') r') (hr' : Dr2 X.K r' g') (ha : PD X W a fa) (hb : PD X W b fb) (hc : PD X W c fc)
    (hm : lastMarks [op, op'] [b, c] = false := by with_unfolding_all rfl) : PDb X W (.Compare a [op, op'] [b, c] pos) (eB (eChain g g' fa fb fc)) := (pt_chain ho ho' ha hb hc hm).up fun σ H Q h => by
  obtain ⟨S, as, M, ρ, st, env, fin⟩ := h
  refine chain_of (W := W) hr hr' ⟨S, as, M, ρ, st, env, ?_⟩
  exact Fin.bind (g := asB) fin env fun S1 as1 M1 x v H1 e1 st1 env1 rx fin1 => asB_k st1 rx fin1
end
end DL
set_option Elab.async false
set_option maxRecDepth 100000
set_option maxHeartbeats 2000000
namespace DL
open PySem PySem.Spec PyProof.Rows L2

/-! ### statements -/
inductive SOut where
  | nx (ρ : Env) (M : Mem)
  | rt (d : D) (M : Mem)
  | bk (ρ : Env) (M : Mem)
  | ct (ρ : Env) (M : Mem)
  | er (x : Exn) (ρ : Env) (M : Mem)
  | stuck
abbrev Cs := Env → Mem → SOut
def FinS (K : PySem.W.Frag) (S : Hp) (as : List Addr) (H : Hp) (W : WX) (o : SOut) (De : Ends) : Prop := match o with
  | .nx ρ' M' => ∀ S' as' σ' H', Ext S as H S' as' H' → St K S' as' M' H' → EnvOk K S' as' σ' ρ' → De.nx σ' H'
  | .bk ρ' M' => ∀ S' as' σ' H', Ext S as H S' as' H' → St K S' as' M' H' → EnvOk K S' as' σ' ρ' → De.bk σ' H'
  | .ct ρ' M' => ∀ S' as' σ' H', Ext S as H S' as' H' → St K S' as' M' H' → EnvOk K S' as' σ' ρ' → De.ct σ' H'
  | .rt d M' => ∀ S' as' v H', Ext S as H S' as' H' → St K S' as' M' H' → Rep K S' as' d v → De.rt v H'
  | .er x ρ' M' => ∀ S' as' σ' H' dd, Ext S as H S' as' H' → St K S' as' M' H' → EnvOk K S' as' σ' ρ' → ErOk K S' as' H' x dd → W x.cls dd σ' H'
  | .stuck => False
def tS (K : PySem.W.Frag) (W : WX) (f : Cs) : TS := fun De σ H => ∃ S as M ρ, St K S as M H ∧ EnvOk K S as σ ρ ∧ FinS K S as H W (f ρ M) De
abbrev SD (X : Cx) (W : WX) (st : Stmt) (f : Cs) : Prop := PS X st (tS X.K W f)
abbrev SDs (X : Cx) (W : WX) (sts : List Stmt) (f : Cs) : Prop := PSs X sts (tS X.K W f)
def sE {α : Type} (c : C α) (ρ : Env) (g : α → Mem → SOut) : Mem → SOut := fun M => match c M with
  | .ok a M1 => g a M1
  | .er x M1 => .er x ρ M1
  | .stuck => .stuck
section
variable {K : PySem.W.Frag} {W : WX} {S S0 : Hp} {as as0 : List Addr} {M : Mem} {H H0 : Hp} {σ : L2.St} {ρ : Env} {De : Ends} {α β : Type} {R : Hp → List Addr → α → β → Prop}
theorem FinS.pre {o : SOut} (e : Ext S0 as0 H0 S as H) (h : FinS K S0 as0 H0 W o De) : FinS K S as H W o De := by
  cases o with
  | nx ρ' M' => exact fun S' as' σ' H' e' => h S' as' σ' H' (e.trans e')
  | bk ρ' M' => exact fun S' as' σ' H' e' => h S' as' σ' H' (e.trans e')
  | ct ρ' M' => exact fun S' as' σ' H' e' => h S' as' σ' H' (e.trans e')
  | rt d M' => exact fun S' as' v H' e' => h S' as' v H' (e.trans e')
  | er x ρ' M' => exact fun S' as' σ' H' dd e' => h S' as' σ' H' dd (e.trans e')
  | stuck => exact h
theorem FinS.bindE {c : C α} {g : α → Mem → SOut} {Q1 : β → Hp → Prop} (fin : FinS K S as H W (sE c ρ g M) De) (env : EnvOk K S as σ ρ)
    (k : ∀ S' as' M' a b H', Ext S as H S' as' H' → St K S' as' M' H' → EnvOk K S' as' σ ρ → R S' as' a b → FinS K S' as' H' W (g a M') De → Q1 b H') : Fin R K S as H W σ ρ (c M) Q1 := by
  unfold sE at fin
  cases e : c M with
  | ok a M' =>
    simp only [e] at fin
    intro S' as' b H' e' s' r
    exact k S' as' M' a b H' e' s' (env.mono e'.same e'.pre) r (fin.pre e')
  | er x M' =>
    simp only [e] at fin
    intro S' as' H' dd e' s' env' eo
    exact fin S' as' σ H' dd e' s' env' eo
  | stuck =>
    simp only [e] at fin
    exact fin.elim
theorem fin_nx (st : St K S as M H) (env : EnvOk K S as σ ρ) (fin : FinS K S as H W (.nx ρ M) De) : De.nx σ H := fin S as σ H (Ext.refl _ _ _) st env
theorem fin_rt {d : D} {v : V} (st : St K S as M H) (r : Rep K S as d v) (fin : FinS K S as H W (.rt d M) De) : De.rt v H := fin S as v H (Ext.refl _ _ _) st r
end
def sSet (i : Nat) (fe : Env → C D) : Cs := fun ρ => sE (fe ρ) ρ fun d M => .nx (ρ.set i (some d)) M
def sRet (fe : Env → C D) : Cs := fun ρ => sE (fe ρ) ρ fun d M => .rt d M
def sRetN : Cs := fun ρ M => .rt (.v .non) M
def sExpr (fe : Env → C D) : Cs := fun ρ => sE (fe ρ) ρ fun _ M => .nx ρ M
def sIf (fc : Env → C Bool) (f g : Cs) : Cs := fun ρ => sE (fc ρ) ρ fun b M => if b = true then f ρ M else g ρ M
def sSeq (f g : Cs) : Cs := fun ρ M => match f ρ M with
  | .nx ρ1 M1 => g ρ1 M1
  | o => o
def sPass : Cs := fun ρ M => .nx ρ M
def sBreak : Cs := fun ρ M => .bk ρ M
def sCont : Cs := fun ρ M => .ct ρ M
section
variable {X : Cx} {W : WX} {pos : Pos} {a b e : Expr} {es : List Expr} {fa fb : Env → C D} {fs : Env → C (List D)} {f g : Cs} {bc : Env → C Bool} {st : Stmt} {rest A B : List Stmt}
theorem sd_set {i : Nat} {x : Str} {pos' : Pos} (hN : X.N.Nodup) (he : PD X W e fa) (hi : X.N[i]? = some x := by rfl) (hx : Loc X.env.scope x := by first | exact Or.inl rfl | exact Or.inr rfl) (hs : swapsWith e (some (.Name x pos')) pos.line X.env = pure false := by rfl)
    (hf : X.fn x = true ∨ X.env.scope.names.lookup x = some .local := by first | exact .inl rfl | exact .inr rfl) : SD X W (.Assign [.Name x pos'] e pos) (sSet i fa) := (ps_set hN hi hx he hs hf).up fun De σ H h => by
  obtain ⟨S, as, M, ρ, st, env, fin⟩ := h
  exact ⟨S, as, M, ρ, st, env, FinS.bindE (g := fun d M => .nx (ρ.set i (some d)) M) fin env fun S1 as1 M1 d v H1 e1 st1 env1 rx fin1 => fin_nx st1 (env1.set rx) fin1⟩
theorem sd_ret (he : PD X W e fa) : SD X W (.Return (some e) pos) (sRet fa) := (ps_ret he).up fun De σ H h => by
  obtain ⟨S, as, M, ρ, st, env, fin⟩ := h
  exact ⟨S, as, M, ρ, st, env, FinS.bindE (g := fun d M => .rt d M) fin env fun S1 as1 M1 d v H1 e1 st1 env1 rx fin1 => fin_rt st1 rx fin1⟩
theorem sd_retN : SD X W (.Return none pos) sRetN := ps_retN.up fun De σ H h => by
  obtain ⟨S, as, M, ρ, st, env, fin⟩ := h
  exact fin_rt (d := .v .non) st ⟨rfl, rfl⟩ fin
theorem sd_expr (he : PD X W e fa) (hs : swapsWith e none pos.line X.env = pure false := by rfl) : SD X W (.Expr e pos) (sExpr fa) := (ps_expr he hs).up fun De σ H h => by
  obtain ⟨S, as, M, ρ, st, env, fin⟩ := h
  exact ⟨S, as, M, ρ, st, env, FinS.bindE (g := fun d M => .nx ρ M) fin env fun S1 as1 M1 d v H1 e1 st1 env1 rx fin1 => fin_nx st1 env1 fin1⟩
theorem sd_if {c : Expr} (hc : PDb X W c bc) (ha : SDs X W A f) (hb : SDs X W B g) : SD X W (.If c A B pos) (sIf bc f g) := (ps_if hc ha hb).up fun De σ H h => by
  obtain ⟨S, as, M, ρ, st, env, fin⟩ := h
  refine ⟨S, as, M, ρ, st, env, FinS.bindE (R := EqR) (g := fun b M => if b = true then f ρ M else g ρ M) fin env fun S1 as1 M1 x v H1 e1 st1 env1 rx fin1 => ?_⟩
  have rx : x = v := rx
  subst rx
  cases x with
  | true => rw [if_pos rfl] at fin1 ⊢; exact ⟨S1, as1, M1, ρ, st1, env1, fin1⟩
  | false => rw [if_neg Bool.false_ne_true] at fin1 ⊢; exact ⟨S1, as1, M1, ρ, st1, env1, fin1⟩
theorem sds_nil : SDs X W [] sPass := pss_nil.up fun De σ H h => by
  obtain ⟨S, as, M, ρ, st, env, fin⟩ := h
  exact fin_nx st env fin
theorem sds_one (h : SD X W st f) : SDs X W [st] f := pss_one h
theorem sds_cons (h1 : SD X W st f) (h2 : SDs X W rest g) : SDs X W (st :: rest) (sSeq f g) := (pss_cons h1 h2).up fun De σ H h => by
  obtain ⟨S, as, M, ρ, st, env, fin⟩ := h
  refine ⟨S, as, M, ρ, st, env, ?_⟩
  unfold sSeq at fin
  cases e : f ρ M with
  | nx ρ1 M1 =>
    simp only [e] at fin
    intro S' as' σ' H' e' st' env'
    exact ⟨S', as', M1, ρ1, st', env', fin.pre e'⟩
  | bk ρ1 M1 => simp only [e] at fin; exact fin
  | ct ρ1 M1 => simp only [e] at fin; exact fin
  | rt d M1 => simp only [e] at fin; exact fin
  | er x ρ1 M1 => simp only [e] at fin; exact fin
  | stuck => simp only [e] at fin; exact fin.elim
theorem sd_pass : SD X W (.Pass pos) sPass := ps_pass.up fun De σ H h => by
  obtain ⟨S, as, M, ρ, st, env, fin⟩ := h
  exact fin_nx st env fin
theorem sd_break : SD X W (.Break pos) sBreak := ps_break.up fun De σ H h => by
  obtain ⟨S, as, M, ρ, st, env, fin⟩ := h
  exact fin S as σ H (Ext.refl _ _ _) st env
theorem sd_cont : SD X W (.Continue pos) sCont := ps_continue.up fun De σ H h => by
  obtain ⟨S, as, M, ρ, st, env, fin⟩ := h
  exact fin S as σ H (Ext.refl _ _ _) st env
end

/-! ### targets -/
inductive Tg where
  | nm (i : Nat)
  | tp (ts : List Tg)
mutual
def Tg.run : Tg → D → Env → Option Env
  | .nm i, d, ρ => some (ρ.set i (some d))
  | .tp ts, .tup ds, ρ => Tg.runs ts ds ρ
  | .tp _, _, _ => none
def Tg.runs : List Tg → List D → Env → Option Env
  | [], [], ρ => some ρ
  | t :: ts, d :: ds, ρ => (t.run d ρ).bind fun ρ1 => Tg.runs ts ds ρ1
  | _, _, _ => none
end
mutual
def Tg.slots : Tg → List Nat
  | .nm i => [i]
  | .tp ts => Tg.slotss ts
def Tg.slotss : List Tg → List Nat
  | [] => []
  | t :: ts => t.slots ++ Tg.slotss ts
end
mutual
def Tg.tg (K : PySem.W.Frag) : Tg → TG
  | .nm i => gName i
  | .tp ts => gTup K ts.length (Tg.tgs K ts)
def Tg.tgs (K : PySem.W.Frag) : List Tg → TGs
  | [] => gNil
  | t :: ts => gCons (t.tg K) (Tg.tgs K ts)
end
theorem wipe_set {σ : L2.St} {i : Nat} {x : Option V} : ∀ {vs : List Nat}, i ∈ vs → wipe (σ.set i x) vs = wipe σ vs
  | [], h => by cases h
  | v :: vs, h => by
    unfold wipe
    by_cases hi : i ∈ vs
    · rw [wipe_set hi]
    · have e : i = v := by
        rcases List.mem_cons.mp h with z | z
        · exact z
        · exact absurd z hi
      subst e
      rw [wipe_setN hi, List.set_set]
where wipe_setN {σ : L2.St} {i : Nat} {x : Option V} : ∀ {vs : List Nat}, i ∉ vs → wipe (σ.set i x) vs = (wipe σ vs).set i x
  | [], h => rfl
  | v :: vs, h => by
    unfold wipe
    have h1 : i ≠ v := fun z => h (z ▸ List.mem_cons_self)
    rw [wipe_setN fun z => h (List.mem_cons_of_mem _ z), List.set_comm _ _ h1]
section
variable {K : PySem.W.Frag} {S : Hp} {as : List Addr} {M : Mem} {H : Hp}
mutual
theorem Tg.ok (vs : List Nat) (e : Same S H) : ∀ (t : Tg) (d : D) (v : V) (σ : L2.St) (ρ ρ' : Env) (Q : L2.St → Hp → Prop), Rep K S as d v → EnvOk K S as σ ρ → t.run d ρ = some ρ' → (∀ i ∈ t.slots, i ∈ vs) →
    (∀ σ', EnvOk K S as σ' ρ' → wipe σ' vs = wipe σ vs → Q σ' H) → t.tg K v σ H Q
  | .nm i, d, v, σ, ρ, ρ', Q, r, env, h, hs, k => by
    unfold Tg.run at h
    cases h
    unfold Tg.tg
    exact k _ (env.set r) (wipe_set (hs i (by simp [Tg.slots])))
  | .tp ts, .tup ds, v, σ, ρ, ρ', Q, r, env, h, hs, k => by
    obtain ⟨a, us, h1, h2, h3, h4⟩ := r
    unfold Tg.run at h
    unfold Tg.tg
    have hl : us.length = ts.length := by rw [← h3.length]; exact (Tg.runs_len h).symm
    exact ⟨a, us, h1, SqT.of (e _ _ h2), hl, Tg.oks vs e ts ds us σ ρ ρ' Q h3 env h (by unfold Tg.slots at hs; exact hs) k⟩
  | .tp ts, .kt ds, v, σ, ρ, ρ', Q, r, env, h, hs, k => by simp [Tg.run] at h
  | .tp _, .v _, v, σ, ρ, ρ', Q, r, env, h, hs, k => by simp [Tg.run] at h
  | .tp _, .h _, v, σ, ρ, ρ', Q, r, env, h, hs, k => by simp [Tg.run] at h
  | .tp _, .lst _, v, σ, ρ, ρ', Q, r, env, h, hs, k => by simp [Tg.run] at h
  | .tp _, .ro _, v, σ, ρ, ρ', Q, r, env, h, hs, k => by simp [Tg.run] at h
  | .tp _, .ins _ _ _, v, σ, ρ, ρ', Q, r, env, h, hs, k => by simp [Tg.run] at h
  | .tp _, .dK _ _, v, σ, ρ, ρ', Q, r, env, h, hs, k => by simp [Tg.run] at h
  | .tp _, .dT _ _, v, σ, ρ, ρ', Q, r, env, h, hs, k => by simp [Tg.run] at h
  | .tp _, .dN _ _ _, v, σ, ρ, ρ', Q, r, env, h, hs, k => by simp [Tg.run] at h
  | .tp _, .cl _, v, σ, ρ, ρ', Q, r, env, h, hs, k => by simp [Tg.run] at h
theorem Tg.oks (vs : List Nat) (e : Same S H) : ∀ (ts : List Tg) (ds : List D) (us : List V) (σ : L2.St) (ρ ρ' : Env) (Q : L2.St → Hp → Prop), Reps K S as ds us → EnvOk K S as σ ρ → Tg.runs ts ds ρ = some ρ' → (∀ i ∈ Tg.slotss ts, i ∈ vs) →
    (∀ σ', EnvOk K S as σ' ρ' → wipe σ' vs = wipe σ vs → Q σ' H) → Tg.tgs K ts us σ H Q
  | [], [], us, σ, ρ, ρ', Q, r, env, h, hs, k => by
    have r : us = [] := r
    subst r
    unfold Tg.runs at h
    cases h
    unfold Tg.tgs
    exact ⟨rfl, k σ env rfl⟩
  | t :: ts, d :: ds, us, σ, ρ, ρ', Q, r, env, h, hs, k => by
    obtain ⟨v, r', h1, h2, h3⟩ := r
    subst h1
    unfold Tg.runs at h
    cases e1 : t.run d ρ with
    | none => simp [e1] at h
    | some ρ1 =>
      simp only [e1, Option.bind_some] at h
      unfold Tg.slotss at hs
      unfold Tg.tgs
      refine ⟨v, r', rfl, Tg.ok vs e t d v σ ρ ρ1 _ h2 env e1 (fun i hi => hs i (List.mem_append_left _ hi)) fun σ1 env1 w1 => ?_⟩
      exact Tg.oks vs e ts ds r' σ1 ρ1 ρ' Q h3 env1 h (fun i hi => hs i (List.mem_append_right _ hi)) fun σ' env' w' => k σ' env' (w'.trans w1)
  | [], _ :: _, us, σ, ρ, ρ', Q, r, env, h, hs, k => by simp [Tg.runs] at h
  | _ :: _, [], us, σ, ρ, ρ', Q, r, env, h, hs, k => by simp [Tg.runs] at h
theorem Tg.runs_len : ∀ {ts : List Tg} {ds : List D} {ρ ρ' : Env}, Tg.runs ts ds ρ = some ρ' → ts.length = ds.length
  | [], [], _, _, _ => rfl
  | t :: ts, d :: ds, ρ, ρ', h => by
    unfold Tg.runs at h
    cases e1 : t.run d ρ with
    | none => simp [e1] at h
    | some ρ1 =>
      simp only [e1, Option.bind_some] at h
      simp [Tg.runs_len h]
  | [], _ :: _, _, _, h => by simp [Tg.runs] at h
  | _ :: _, [], _, _, h => by simp [Tg.runs] at h
end
end
abbrev PGd (X : Cx) (target : Expr) (t : Tg) : Prop := PG X target (t.tg X.K)
abbrev PGds (X : Cx) (ts : List Expr) (t : List Tg) : Prop := PGs X ts (Tg.tgs X.K t)
section
variable {X : Cx} {W : WX} {pos : Pos}
theorem pgd_nm {i : Nat} {x : Str} (hN : X.N.Nodup) (hi : X.N[i]? = some x := by rfl) (hx : Loc X.env.scope x := by first | exact Or.inl rfl | exact Or.inr rfl) (hf : X.fn x = true ∨ X.env.scope.names.lookup x = some .local := by first | exact .inl rfl | exact .inr rfl) : PGd X (.Name x pos) (.nm i) := by
  unfold PGd Tg.tg; exact pg_name hN hi hx hf
theorem pgds_nil : PGds X [] [] := by unfold PGds Tg.tgs; exact pgs_nil
theorem pgds_cons {e : Expr} {es : List Expr} {t : Tg} {ts : List Tg} (h1 : PGd X e t) (h2 : PGds X es ts) (hs : (assignEach (e :: es) X.env).map (·.2) = assign e X.env :: (assignEach es X.env).map (·.2) := by rfl) : PGds X (e :: es) (t :: ts) := by
  unfold PGds Tg.tgs; exact pgs_cons h1 h2 hs
theorem pgd_tp {es : List Expr} {k : Nat} {ts : List Tg} (hc : X.calm = true) (h : PGds X es ts) (hn : (assignEach es X.env).length = ts.length := by rfl) (hst : (assignEach es X.env).findIdx? (·.1) = none := by rfl) : PGd X (.Tuple es k pos) (.tp ts) := by
  unfold PGd Tg.tg; exact pg_tup hc h hn hst
/-- target = e -/
def sAsg (t : Tg) (fe : Env → C D) : Cs := fun ρ => sE (fe ρ) ρ fun d M => match t.run d ρ with
  | some ρ1 => .nx ρ1 M
  | none => .stuck
theorem sd_asg {tg e : Expr} {t : Tg} {fe : Env → C D} (he : PD X W e fe) (hg : PGd X tg t) (hs : swapsWithSole [tg] e pos.line X.env = pure false := by rfl) (hw : swappedStores [tg] e X.env = pure none := by rfl)
    (h1 : (assignEach [tg] X.env).map (·.2) = [assign tg X.env] := by rfl) : SD X W (.Assign [tg] e pos) (sAsg t fe) := (ps_asg he hg hs hw h1).up fun De σ H h => by
  obtain ⟨S, as, M, ρ, st, env, fin⟩ := h
  refine ⟨S, as, M, ρ, st, env, FinS.bindE (g := fun d M => match t.run d ρ with
    | some ρ1 => SOut.nx ρ1 M
    | none => .stuck) fin env fun S1 as1 M1 d v H1 e1 st1 env1 rx fin1 => ?_⟩
  cases e : t.run d ρ with
  | none => simp only [e] at fin1; exact fin1.elim
  | some ρ1 =>
    simp only [e] at fin1
    exact Tg.ok t.slots st1.ex t d v σ ρ ρ1 _ rx env1 e (fun _ h => h) fun σ' env' _ => fin_nx st1 env' fin1
end
end DL
set_option Elab.async false
set_option maxRecDepth 100000
set_option maxHeartbeats 2000000
namespace DL
open PySem PySem.Spec PyProof.Rows L2

/-! ### what is walked -/
structure ItS where
  ds : List D
  g : Option (Nat × List D)
def gOk : Option (Nat × List D) → Mem → Prop
  | none, _ => True
  | some (k, c), M => M[k]? = some (.lst c)
structure ItOk (K : PySem.W.Frag) (S : Hp) (as : List Addr) (I : ItS) (J : It) : Prop where
  go : ∀ S' as' M H i, Same S S' → Pre as as' → St K S' as' M H → gOk I.g M → i < I.ds.length → J.go i H
  stop : ∀ S' as' M H i, Same S S' → Pre as as' → St K S' as' M H → gOk I.g M → I.ds.length ≤ i → J.stop i H
  yld : ∀ S' as' M H i d x H', Same S S' → Pre as as' → St K S' as' M H → gOk I.g M → I.ds[i]? = some d → J.yld i H x H' → ∃ S'', Ext S' as' H S'' as' H' ∧ St K S'' as' M H' ∧ Rep K S'' as' d x
def ItR (K : PySem.W.Frag) : Hp → List Addr → ItS → It → Prop := ItOk K
abbrev tI (K : PySem.W.Frag) (W : WX) (f : Env → C ItS) : TI := tG (ItR K) K W f
abbrev PId (X : Cx) (W : WX) (tg iter : Expr) (f : Env → C ItS) : Prop := PI X tg iter (tI X.K W f)
theorem _root_.L2.PI.up {X : Cx} {tg e : Expr} {t t' : TI} (h : PI X tg e t) (i : ∀ σ H Q, t' σ H Q → t σ H Q) : PI X tg e t' := ⟨fun pins s σ H Q I q => h.run pins s σ H Q I (i σ H Q q)⟩
theorem _root_.L2.PI.orr {X : Cx} {tg e : Expr} {t t' : TI} (h : PI X tg e t) (h' : PI X tg e t') : PI X tg e (fun σ H Q => t σ H Q ∨ t' σ H Q) := ⟨fun pins s σ H Q I q => q.elim (h.run pins s σ H Q I) (h'.run pins s σ H Q I)⟩
theorem fin_it {K : PySem.W.Frag} {W : WX} {S : Hp} {as : List Addr} {M : Mem} {H : Hp} {σ : L2.St} {ρ : Env} {I : ItS} {J : It} {Q : It → Hp → Prop} (st : St K S as M H) (r : ItOk K S as I J) (fin : Fin (ItR K) K S as H W σ ρ (.ok I M) Q) : Q J H := fin S as J H (Ext.refl _ _ _) st r
def charsD (z : Str) : List D := z.cps.toList.map fun c => .v (.str ⟨#[c]⟩)
def itOf (M : Mem) : D → Option ItS
  | .v (.str z) => some ⟨charsD z, none⟩
  | .tup ds => some ⟨ds, none⟩
  | .lst ds => some ⟨ds, none⟩
  | .ro ds => some ⟨ds, none⟩
  | .kt ds => some ⟨ds, none⟩
  | .h k => match M[k]? with
    | some (.lst ds) => some ⟨ds, some (k, ds)⟩
    | _ => none
  | _ => none
def gIt : D → C ItS := fun x M => match itOf M x with
  | some I => .ok I M
  | none => .stuck
def eIt (fa : Env → C D) : Env → C ItS := fun ρ => (fa ρ).bind gIt
section
variable {K : PySem.W.Frag} {S : Hp} {as : List Addr} {M : Mem} {H : Hp}
theorem it_str {z : Str} (h : okV (.str z) = true) : ItOk K S as ⟨charsD z, none⟩ (Its z) := by
  have hl : (charsD z).length = z.cps.size := by unfold charsD; simp
  refine ⟨fun S' as' M H i e p st g hi => ?_, fun S' as' M H i e p st g hi => ?_, fun S' as' M H i d x H' e p st g hd y => ?_⟩
  · show i < z.cps.size; simp only at hi; omega
  · show z.cps.size ≤ i; simp only at hi; omega
  · obtain ⟨e1, c, hc, e2⟩ := y
    subst e1 e2
    refine ⟨S', Ext.refl _ _ _, st, ?_⟩
    unfold charsD at hd
    simp only [List.getElem?_map, Array.getElem?_toList, hc] at hd
    cases hd
    exact ⟨rfl, strOk_at (okV_str h).1 (atI_nat (xs := z.cps.toList) (j := i) (by simpa using hc))⟩
theorem it_lst {ds : List D} {a : Addr} {vs : List V} (h : ∀ S' H, Same S S' → Same S' H → SqL K H a vs) (r : Reps K S as ds vs) : ItOk K S as ⟨ds, none⟩ (Itl K a) := by
  refine ⟨fun S' as' M H i e p st g hi => ?_, fun S' as' M H i e p st g hi => ?_, fun S' as' M H i d x H' e p st g hd y => ?_⟩
  · have hi' : i < vs.length := by rw [← r.length]; exact hi
    exact ⟨vs, vs[i], h S' H e st.ex, List.getElem?_eq_getElem hi'⟩
  · exact ⟨vs, h S' H e st.ex, by rw [← r.length]; exact hi⟩
  · obtain ⟨e1, e2⟩ := y
    subst e1
    refine ⟨S', Ext.refl _ _ _, st, ?_⟩
    obtain ⟨v, h1, h2⟩ := r.get hd
    have h3 := e2 vs (h S' _ e st.ex)
    rw [h1] at h3; cases h3
    exact Rep.mono e p _ _ h2
theorem it_tup {ds : List D} {a : Addr} {vs : List V} (h : ∀ S' H, Same S S' → Same S' H → SqT K H a vs) (r : Reps K S as ds vs) : ItOk K S as ⟨ds, none⟩ (Itt K a) := by
  refine ⟨fun S' as' M H i e p st g hi => ?_, fun S' as' M H i e p st g hi => ?_, fun S' as' M H i d x H' e p st g hd y => ?_⟩
  · have hi' : i < vs.length := by rw [← r.length]; exact hi
    exact ⟨vs, vs[i], h S' H e st.ex, List.getElem?_eq_getElem hi'⟩
  · exact ⟨vs, h S' H e st.ex, by rw [← r.length]; exact hi⟩
  · obtain ⟨e1, e2⟩ := y
    subst e1
    refine ⟨S', Ext.refl _ _ _, st, ?_⟩
    obtain ⟨v, h1, h2⟩ := r.get hd
    have h3 := e2 vs (h S' _ e st.ex)
    rw [h1] at h3; cases h3
    exact Rep.mono e p _ _ h2
theorem it_cell {ds : List D} {k : Nat} {a : Addr} (ha : as[k]? = some a) : ItOk K S as ⟨ds, some (k, ds)⟩ (Itl K a) := by
  refine ⟨fun S' as' M H i e p st g hi => ?_, fun S' as' M H i e p st g hi => ?_, fun S' as' M H i d x H' e p st g hd y => ?_⟩
  · obtain ⟨vs, h1, h2, _⟩ := cell_lst st g (p _ _ ha)
    have hi' : i < vs.length := by rw [← h2.length]; exact hi
    exact ⟨vs, vs[i], SqL.of h1, List.getElem?_eq_getElem hi'⟩
  · obtain ⟨vs, h1, h2, _⟩ := cell_lst st g (p _ _ ha)
    exact ⟨vs, SqL.of h1, by rw [← h2.length]; exact hi⟩
  · obtain ⟨e1, e2⟩ := y
    subst e1
    refine ⟨S', Ext.refl _ _ _, st, ?_⟩
    obtain ⟨vs, h1, h2, _⟩ := cell_lst st g (p _ _ ha)
    obtain ⟨v, h4, h5⟩ := h2.get hd
    have h3 := e2 vs (SqL.of h1)
    rw [h4] at h3; cases h3
    exact h5
end
section
variable {X : Cx} {W : WX} {pos : Pos} {tg a b e : Expr} {es : List Expr} {fa fb : Env → C D} {fs : Env → C (List D)}
/-- a list, a tuple, a text -/
theorem pid_seq (ha : PD X W e fa) : PId X W tg e (eIt fa) := ((pi_list ha).orr ((pi_tup ha).orr (pi_str ha))).up fun σ H Q h => by
  obtain ⟨S, as, M, ρ, st, env, fin⟩ := h
  cases e0 : fa ρ M with
  | er x M' =>
    refine .inl ⟨S, as, M, ρ, st, env, ?_⟩
    unfold eIt C.bind at fin
    simp only [e0] at fin
    rw [e0]
    exact fin
  | stuck =>
    unfold eIt C.bind at fin
    simp only [e0] at fin
    exact fin.elim
  | ok d M' =>
    unfold eIt C.bind gIt at fin
    simp only [e0] at fin
    have go : ∀ {R1 : VK}, (∀ S' as' v H', Ext S as H S' as' H' → St X.K S' as' M' H' → Rep X.K S' as' d v → R1 v H') → tD X.K W fa σ H R1 := fun {R1} k => ⟨S, as, M, ρ, st, env, by
      rw [e0]
      exact fun S' as' v H' e' s' r => k S' as' v H' e' s' r⟩
    cases d with
    | v z =>
      cases z with
      | str z =>
        refine .inr (.inr (go fun S' as' v H' e' s' r => ⟨z, r.1, ?_⟩))
        exact fin_it s' (it_str r.2) (fin.pre e')
      | _ => exact fin.elim
    | tup ds =>
      refine .inr (.inl (go fun S' as' v H' e' s' r => ?_))
      obtain ⟨a, vs, h1, h2, h3, h4⟩ := r
      refine ⟨a, h1, ⟨vs, SqT.of (s'.ex _ _ h2)⟩, ?_⟩
      exact fin_it s' (it_tup (fun S2 H2 e e2 => SqT.of (e2 _ _ (e _ _ h2))) h3) (fin.pre e')
    | kt ds =>
      refine .inr (.inl (go fun S' as' v H' e' s' r => ?_))
      obtain ⟨a, vs, h1, h2, h3, h4⟩ := r
      refine ⟨a, h1, ⟨vs, Evl.ex_t s'.ex h2⟩, ?_⟩
      exact fin_it s' (it_tup (fun S2 H2 e e2 => Evl.ex_t e2 (Evl.ex_t e h2)) h3) (fin.pre e')
    | lst ds =>
      refine .inl (go fun S' as' v H' e' s' r => ?_)
      obtain ⟨a, vs, h1, h2, h3, h4⟩ := r
      refine ⟨a, h1, ⟨vs, SqL.of (s'.ex _ _ h2)⟩, ?_⟩
      exact fin_it s' (it_lst (fun S2 H2 e e2 => SqL.of (e2 _ _ (e _ _ h2))) h3) (fin.pre e')
    | ro ds =>
      refine .inl (go fun S' as' v H' e' s' r => ?_)
      obtain ⟨a, vs, h1, h2, h3, h4⟩ := r
      refine ⟨a, h1, ⟨vs, Evl.ex_l s'.ex h2⟩, ?_⟩
      exact fin_it s' (it_lst (fun S2 H2 e e2 => Evl.ex_l e2 (Evl.ex_l e h2)) h3) (fin.pre e')
    | h k =>
      refine .inl (go fun S' as' v H' e' s' r => ?_)
      obtain ⟨a, h1, h2⟩ := r
      simp only [itOf] at fin
      cases ec : M'[k]? with
      | none => simp only [ec] at fin; exact fin.elim
      | some c =>
        cases c with
        | lst ds =>
          simp only [ec] at fin
          obtain ⟨vs, h3, h4, _⟩ := cell_lst s' ec h1
          exact ⟨a, h2, ⟨vs, SqL.of h3⟩, fin_it s' (it_cell h1) (fin.pre e')⟩
        | _ => simp only [ec] at fin; exact fin.elim
    | ins _ _ _ => exact fin.elim
    | dK _ _ => exact fin.elim
    | dT _ _ => exact fin.elim
    | dN _ _ _ => exact fin.elim
    | cl _ => exact fin.elim
/-- range -/
def rangeD (lo : Int) (n : Nat) : List D := (List.range n).map fun (i : Nat) => .v (.int (lo + (i : Int)))
def gRange1 : List D → C ItS := fun xs M => match xs with
  | [.v (.int j)] => if -(2 ^ 62) ≤ j ∧ j < 2 ^ 62 then .ok ⟨rangeD 0 j.toNat, none⟩ M else .stuck
  | _ => .stuck
def gRange2 : List D → C ItS := fun xs M => match xs with
  | [.v (.int i), .v (.int j)] => if -(2 ^ 62) ≤ i ∧ i < 2 ^ 62 ∧ -(2 ^ 62) ≤ j ∧ j < 2 ^ 62 then .ok ⟨rangeD i (j - i).toNat, none⟩ M else .stuck
  | _ => .stuck
def eRange1 (fs : Env → C (List D)) : Env → C ItS := fun ρ => (fs ρ).bind gRange1
def eRange2 (fs : Env → C (List D)) : Env → C ItS := fun ρ => (fs ρ).bind gRange2
theorem it_range {K : PySem.W.Frag} {S : Hp} {as : List Addr} (lo : Int) (n : Nat) : ItOk K S as ⟨rangeD lo n, none⟩ (Itr lo n) := by
  have hl : (rangeD lo n).length = n := by unfold rangeD; simp
  refine ⟨fun S' as' M H i e p st g hi => ?_, fun S' as' M H i e p st g hi => ?_, fun S' as' M H i d x H' e p st g hd y => ?_⟩
  · show i < n; simp only [hl] at hi; exact hi
  · show n ≤ i; simp only [hl] at hi; exact hi
  · obtain ⟨e1, e2⟩ := y
    subst e1 e2
    refine ⟨S', Ext.refl _ _ _, st, ?_⟩
    unfold rangeD at hd
    have hi : i < n := by
      have := (List.getElem?_eq_some_iff.mp hd).1
      simpa using this
    simp only [List.getElem?_map, List.getElem?_range hi] at hd
    cases hd
    exact ⟨rfl, rfl⟩
theorem reps1 {K : PySem.W.Frag} {S : Hp} {as : List Addr} {d : D} {vs : List V} (r : Reps K S as [d] vs) : ∃ v, vs = [v] ∧ Rep K S as d v := by
  obtain ⟨v, r', e, h, h2⟩ := r
  have h2 : r' = [] := h2
  subst h2
  exact ⟨v, e, h⟩
theorem reps2 {K : PySem.W.Frag} {S : Hp} {as : List Addr} {d d' : D} {vs : List V} (r : Reps K S as [d, d'] vs) : ∃ v v', vs = [v, v'] ∧ Rep K S as d v ∧ Rep K S as d' v' := by
  obtain ⟨v, r', e, h, h2⟩ := r
  obtain ⟨v', e', h'⟩ := reps1 h2
  subst e'
  exact ⟨v, v', e, h, h'⟩
theorem pid_range1 {p : Pos} (hm : X.mg "range" = none) (ha : PDs X W [a] fs) (hg : Gl X "range" := by rfl) (hs : starEach [a] X.env = [(false, eval a X.env)] := by rfl) : PId X W tg (.Call (.Name "range" p) [a] [] pos) (eRange1 fs) := (pi_range1 hg hm ha hs).up fun σ H Q h => by
  obtain ⟨S, as, M, ρ, st, env, fin⟩ := h
  refine ⟨S, as, M, ρ, st, env, Fin.bind (g := gRange1) fin env fun S1 as1 M1 xs vs H1 e1 st1 env1 rx fin1 => ?_⟩
  unfold gRange1 at fin1
  split at fin1
  · rename_i j
    split at fin1
    · rename_i hj
      obtain ⟨v, e2, r1⟩ := reps1 rx
      obtain ⟨r1, _⟩ := r1
      subst r1
      exact ⟨j, e2, hj.1, hj.2, fin_it st1 (it_range 0 _) fin1⟩
    · exact fin1.elim
  · exact fin1.elim
theorem pid_range2 {p : Pos} (hm : X.mg "range" = none) (ha : PDs X W [a, b] fs) (hg : Gl X "range" := by rfl) (hs : starEach [a, b] X.env = [(false, eval a X.env), (false, eval b X.env)] := by rfl) (hs2 : starEach [b] X.env = [(false, eval b X.env)] := by rfl) : PId X W tg (.Call (.Name "range" p) [a, b] [] pos) (eRange2 fs) := (pi_range2 hg hm ha hs hs2).up fun σ H Q h => by
  obtain ⟨S, as, M, ρ, st, env, fin⟩ := h
  refine ⟨S, as, M, ρ, st, env, Fin.bind (g := gRange2) fin env fun S1 as1 M1 xs vs H1 e1 st1 env1 rx fin1 => ?_⟩
  unfold gRange2 at fin1
  split at fin1
  · rename_i i j
    split at fin1
    · rename_i hj
      obtain ⟨v, v', e2, r1, r2⟩ := reps2 rx
      obtain ⟨r1, _⟩ := r1
      obtain ⟨r2, _⟩ := r2
      subst r1 r2
      exact ⟨i, j, e2, hj, fin_it st1 (it_range i _) fin1⟩
    · exact fin1.elim
  · exact fin1.elim
def grd (x : D) (ds : List D) : Option (Nat × List D) := match x with
  | .h k => some (k, ds)
  | _ => none
/-- enumerate of a list -/
def enumD (ds : List D) : List D := ds.zipIdx.map fun p => .tup [.v (.int (p.2 : Int)), p.1]
def gEnum : List D → C ItS := fun xs M => match xs with
  | [x] => match lstOf M x with
    | some ds => .ok ⟨enumD ds, grd x ds⟩ M
    | none => .stuck
  | _ => .stuck
def eEnum (fs : Env → C (List D)) : Env → C ItS := fun ρ => (fs ρ).bind gEnum
/-- the list that stands at a, through all later states -/
def Stands (K : PySem.W.Frag) (S : Hp) (as : List Addr) (g : Option (Nat × List D)) (ds : List D) (a : Addr) : Prop :=
  ∀ S' as' M H, Same S S' → Pre as as' → St K S' as' M H → gOk g M → ∃ vs, SqL K H a vs ∧ Reps K S' as' ds vs
theorem it_enum {K : PySem.W.Frag} {S : Hp} {as : List Addr} {ds : List D} {a : Addr} {g : Option (Nat × List D)} (h : Stands K S as g ds a) : ItOk K S as ⟨enumD ds, g⟩ (Ite K a) := by
  have hl : (enumD ds).length = ds.length := by unfold enumD; simp
  refine ⟨fun S' as' M H i e p st g hi => ?_, fun S' as' M H i e p st g hi => ?_, fun S' as' M H i d x H' e p st g hd y => ?_⟩
  · obtain ⟨vs, h1, h2⟩ := h S' as' M H e p st g
    simp only [hl] at hi
    have hi' : i < vs.length := by rw [← h2.length]; exact hi
    exact ⟨vs, vs[i], h1, List.getElem?_eq_getElem hi'⟩
  · obtain ⟨vs, h1, h2⟩ := h S' as' M H e p st g
    simp only [hl] at hi
    exact ⟨vs, h1, by rw [← h2.length]; exact hi⟩
  · obtain ⟨vs, h1, h2⟩ := h S' as' M H e p st g
    obtain ⟨T, z, e1, n, e2, k⟩ := y
    subst e1 e2
    have hi : i < ds.length := by
      have := (List.getElem?_eq_some_iff.mp hd).1
      simpa [hl] using this
    unfold enumD at hd
    simp only [List.getElem?_map, List.getElem?_zipIdx, List.getElem?_eq_getElem hi] at hd
    have hd := Option.some.inj hd
    subst hd
    obtain ⟨v, h4, h5⟩ := h2.get (List.getElem?_eq_getElem hi)
    have h3 := k vs h1
    rw [h4] at h3; cases h3
    refine ⟨upd S' T _, Ext.frozen st n, st.frozen n, T, [.int (i : Nat), z], rfl, upd_same, ?_, by show 2 ≤ sizeLine; rw [sizeLine_eq]; decide⟩
    exact Reps.cons ⟨by simp, rfl⟩ (Reps.cons (Rep.mono (Evl.Ex.new (st.sfree n)) (Pre.refl _) _ _ h5) Reps.nil)
theorem stands_of {K : PySem.W.Frag} {S : Hp} {as : List Addr} {M : Mem} {H : Hp} {x : D} {v : V} {ds : List D} (st : St K S as M H) (r : Rep K S as x v) (h : lstOf M x = some ds) : ∃ a vs, v = .ref a ∧ SqL K H a vs ∧ Reps K S as ds vs ∧ Stands K S as (grd x ds) ds a := by
  cases x with
  | lst es =>
    cases h
    obtain ⟨a, vs, h1, h2, h3, h4⟩ := r
    exact ⟨a, vs, h1, SqL.of (st.ex _ _ h2), h3, fun S' as' M H e p st' _ => ⟨vs, SqL.of (st'.ex _ _ (e _ _ h2)), Reps.mono e p _ _ h3⟩⟩
  | ro es =>
    cases h
    obtain ⟨a, vs, h1, h2, h3, h4⟩ := r
    exact ⟨a, vs, h1, Evl.ex_l st.ex h2, h3, fun S' as' M H e p st' _ => ⟨vs, Evl.ex_l st'.ex (Evl.ex_l e h2), Reps.mono e p _ _ h3⟩⟩
  | h k =>
    obtain ⟨a, h1, h2⟩ := r
    unfold lstOf at h
    cases ec : M[k]? with
    | none => simp [ec] at h
    | some c =>
      cases c with
      | lst es =>
        simp only [ec] at h
        cases h
        obtain ⟨vs, h3, h4, _⟩ := cell_lst st ec h1
        exact ⟨a, vs, h2, SqL.of h3, h4, fun S' as' M' H' e p st' g => by
          obtain ⟨vs', h5, h6, _⟩ := cell_lst st' g (p _ _ h1)
          exact ⟨vs', SqL.of h5, h6⟩⟩
      | _ => simp [ec] at h
  | _ => cases h
theorem pid_enum {p tpos : Pos} {elts : List Expr} {kk : Nat} (hm : X.mg "enumerate" = none) (ha : PDs X W [a] fs) (hg : Gl X "enumerate" := by rfl) (hs : starEach [a] X.env = [(false, eval a X.env)] := by rfl) : PId X W (.Tuple elts kk tpos) (.Call (.Name "enumerate" p) [a] [] pos) (eEnum fs) := (pi_enum hg hm ha hs).up fun σ H Q h => by
  obtain ⟨S, as, M, ρ, st, env, fin⟩ := h
  refine ⟨S, as, M, ρ, st, env, Fin.bind (g := gEnum) fin env fun S1 as1 M1 xs vs H1 e1 st1 env1 rx fin1 => ?_⟩
  unfold gEnum at fin1
  split at fin1
  · rename_i x
    obtain ⟨v, e2, r1⟩ := reps1 rx
    split at fin1
    · rename_i ds hd
      obtain ⟨a, us, h1, h2, h3, h4⟩ := stands_of st1 r1 hd
      subst h1
      exact ⟨a, us, e2, h2, fin_it st1 (it_enum h4) fin1⟩
    · exact fin1.elim
  · exact fin1.elim
/-- reversed of a list -/
def gRev : List D → C ItS := fun xs M => match xs with
  | [x] => match lstOf M x with
    | some ds => .ok ⟨ds.reverse, grd x ds⟩ M
    | none => .stuck
  | _ => .stuck
def eRev (fs : Env → C (List D)) : Env → C ItS := fun ρ => (fs ρ).bind gRev
theorem it_rev {K : PySem.W.Frag} {S : Hp} {as : List Addr} {ds : List D} {a : Addr} {g : Option (Nat × List D)} (h : Stands K S as g ds a) : ItOk K S as ⟨ds.reverse, g⟩ (Itv K a ds.length) := by
  refine ⟨fun S' as' M H i e p st g hi => ?_, fun S' as' M H i e p st g hi => ?_, fun S' as' M H i d x H' e p st g hd y => ?_⟩
  · obtain ⟨vs, h1, h2⟩ := h S' as' M H e p st g
    simp only [List.length_reverse] at hi
    have hl := h2.length
    have hi' : ds.length - 1 - i < vs.length := by omega
    exact ⟨hi, vs, vs[ds.length - 1 - i], h1, List.getElem?_eq_getElem hi'⟩
  · simp only [List.length_reverse] at hi
    exact hi
  · obtain ⟨vs, h1, h2⟩ := h S' as' M H e p st g
    obtain ⟨e1, k⟩ := y
    subst e1
    refine ⟨S', Ext.refl _ _ _, st, ?_⟩
    have hi : i < ds.length := by
      have := (List.getElem?_eq_some_iff.mp hd).1
      simpa using this
    have hd2 : ds[ds.length - 1 - i]? = some d := by
      rw [List.getElem?_reverse (by simpa using hi)] at hd
      exact hd
    obtain ⟨v, h4, h5⟩ := h2.get hd2
    have h3 := k vs h1
    rw [h4] at h3; cases h3
    exact h5
theorem pid_rev {p : Pos} (hm : X.mg "reversed" = none) (ha : PDs X W [a] fs) (hg : Gl X "reversed" := by rfl) (hs : starEach [a] X.env = [(false, eval a X.env)] := by rfl) : PId X W tg (.Call (.Name "reversed" p) [a] [] pos) (eRev fs) := (pi_reversed hg hm ha hs).up fun σ H Q h => by
  obtain ⟨S, as, M, ρ, st, env, fin⟩ := h
  refine ⟨S, as, M, ρ, st, env, Fin.bind (g := gRev) fin env fun S1 as1 M1 xs vs H1 e1 st1 env1 rx fin1 => ?_⟩
  unfold gRev at fin1
  split at fin1
  · rename_i x
    obtain ⟨v, e2, r1⟩ := reps1 rx
    split at fin1
    · rename_i ds hd
      obtain ⟨a, us, h1, h2, h3, h4⟩ := stands_of st1 r1 hd
      subst h1
      refine ⟨a, us, e2, h2, ?_⟩
      rw [← h3.length]
      exact fin_it st1 (it_rev h4) fin1
    · exact fin1.elim
  · exact fin1.elim
end

/-! ### for -/
open Classical in
noncomputable def forL (g : Option (Nat × List D)) (t : Tg) (body : Cs) : List D → Env → Mem → SOut
  | [], ρ, M => if gOk g M then .nx ρ M else .stuck
  | d :: ds, ρ, M => if gOk g M then (match t.run d ρ with
    | none => .stuck
    | some ρ1 => match body ρ1 M with
      | .nx ρ2 M2 => forL g t body ds ρ2 M2
      | .ct ρ2 M2 => forL g t body ds ρ2 M2
      | .bk ρ2 M2 => .nx ρ2 M2
      | o => o) else .stuck
noncomputable def sFor (fi : Env → C ItS) (t : Tg) (body : Cs) : Cs := fun ρ => sE (fi ρ) ρ fun I M => forL I.g t body I.ds ρ M
section
variable {X : Cx} {W : WX} {pos : Pos} {tg iter e : Expr} {body : List Stmt} {f : Cs} {fi : Env → C ItS} {t : Tg}
theorem sd_for (hp : PassesOwn (model X.prog X.w) X.A X.env X.xe) (hc : X.calm = true) (hi : PId X W tg iter fi) (hg : PGd X tg t) (hb : SDs X W body f) (hs : ∀ x, foldedSetIterable iter X.env x = pure x := by intro _; rfl) : SD X W (.For tg iter body [] pos) (sFor fi t f) :=
  (ps_for hp hc hi hg hb hs).up fun De σ H h => by
    obtain ⟨S, as, M, ρ, st, env, fin⟩ := h
    refine ⟨S, as, M, ρ, st, env, FinS.bindE (g := fun (I : ItS) M => forL I.g t f I.ds ρ M) fin env fun S1 as1 M1 I J H1 e1 st1 env1 ok fin1 => ?_⟩
    refine ⟨fun i m σ' H' => m + i = I.ds.length ∧ ∃ S' as' M' ρ', Same S1 S' ∧ Pre as1 as' ∧ St X.K S' as' M' H' ∧ EnvOk X.K S' as' σ' ρ' ∧ FinS X.K S' as' H' W (forL I.g t f (I.ds.drop i) ρ' M') De,
      ⟨I.ds.length, by simp, S1, as1, M1, ρ, Same.refl _, Pre.refl _, st1, env1, fin1⟩, ?_⟩
    rintro i m σ' H' ⟨hm, S', as', M', ρ', e', p', st', env', fin'⟩
    by_cases hi : i < I.ds.length
    · have hd : I.ds.drop i = I.ds[i] :: I.ds.drop (i + 1) := List.drop_eq_getElem_cons hi
      rw [hd] at fin'
      unfold forL at fin'
      split at fin'
      · rename_i hgk
        refine .inr ⟨ok.go S' as' M' H' i e' p' st' hgk hi, fun σ2 H2 => ∃ S2 as2 M2 ρ2, Same S1 S2 ∧ Pre as1 as2 ∧ St X.K S2 as2 M2 H2 ∧ EnvOk X.K S2 as2 σ2 ρ2 ∧ FinS X.K S2 as2 H2 W (forL I.g t f (I.ds.drop (i + 1)) ρ2 M2) De, fun σ2 H2 q => ⟨m - 1, by omega, by omega, q⟩, fun x H2 hy => ?_⟩
        obtain ⟨S2, x2, st2, rx⟩ := ok.yld S' as' M' H' i I.ds[i] x H2 e' p' st' hgk (List.getElem?_eq_getElem hi) hy
        split at fin'
        · exact fin'.elim
        · rename_i ρ1 hr
          refine Tg.ok t.slots st2.ex t _ x σ' ρ' ρ1 _ rx (env'.mono x2.same x2.pre) hr (fun _ h => h) fun σ3 env3 _ => ?_
          refine ⟨S2, as', M', ρ1, st2, env3, ?_⟩
          have fin2 := fin'.pre x2
          cases eb : f ρ1 M' with
          | nx ρ2 M2 =>
            simp only [eb] at fin2
            intro S3 as3 σ4 H4 e4 st4 env4
            exact ⟨S3, as3, M2, ρ2, e'.trans (x2.same.trans e4.same), p'.trans (x2.pre.trans e4.pre), st4, env4, fin2.pre e4⟩
          | ct ρ2 M2 =>
            simp only [eb] at fin2
            intro S3 as3 σ4 H4 e4 st4 env4
            exact ⟨S3, as3, M2, ρ2, e'.trans (x2.same.trans e4.same), p'.trans (x2.pre.trans e4.pre), st4, env4, fin2.pre e4⟩
          | bk ρ2 M2 => simp only [eb] at fin2; exact fin2
          | rt d M2 => simp only [eb] at fin2; exact fin2
          | er y ρ2 M2 => simp only [eb] at fin2; exact fin2
          | stuck => simp only [eb] at fin2; exact fin2.elim
      · exact fin'.elim
    · have hd : I.ds.drop i = [] := List.drop_eq_nil_of_le (by omega)
      rw [hd] at fin'
      unfold forL at fin'
      split at fin'
      · rename_i hgk
        exact .inl ⟨ok.stop S' as' M' H' i e' p' st' hgk (by omega), fin_nx st' env' fin'⟩
      · exact fin'.elim
end
/-! ### while -/
def whileN (c : Env → C Bool) (body : Cs) : Nat → Env → Mem → SOut
  | 0, _, _ => .stuck
  | n + 1, ρ, M => sE (c ρ) ρ (fun b M1 => if b = true then (match body ρ M1 with
      | .nx ρ2 M2 => whileN c body n ρ2 M2
      | .ct ρ2 M2 => whileN c body n ρ2 M2
      | .bk ρ2 M2 => .nx ρ2 M2
      | o => o) else .nx ρ M1) M
/-- the loop, given enough turns -/
def sWhile (n : Env → Mem → Nat) (c : Env → C Bool) (body : Cs) : Cs := fun ρ M => whileN c body (n ρ M) ρ M
section
variable {X : Cx} {W : WX} {pos : Pos} {e : Expr} {body : List Stmt} {f : Cs} {bc : Env → C Bool}
theorem sd_while (n : Env → Mem → Nat) (hp : PassesOwn (model X.prog X.w) X.A X.env X.xe) (hc : PDb X W e bc) (hb : SDs X W body f) : SD X W (.While e body [] pos) (sWhile n bc f) := (ps_while hp hc hb).up fun De σ H h => by
  obtain ⟨S, as, M, ρ, st, env, fin⟩ := h
  refine ⟨fun m σ' H' => ∃ S' as' M' ρ', St X.K S' as' M' H' ∧ EnvOk X.K S' as' σ' ρ' ∧ FinS X.K S' as' H' W (whileN bc f m ρ' M') De, ⟨n ρ M, S, as, M, ρ, st, env, fin⟩, ?_⟩
  rintro m σ' H' ⟨S', as', M', ρ', st', env', fin'⟩
  cases m with
  | zero => exact fin'.elim
  | succ m =>
    unfold whileN at fin'
    refine ⟨S', as', M', ρ', st', env', FinS.bindE (R := EqR) fin' env' fun S1 as1 M1 b v H1 e1 st1 env1 rx fin1 => ?_⟩
    have rx : b = v := rx
    subst rx
    cases b with
    | false => rw [if_neg Bool.false_ne_true] at fin1 ⊢; exact fin_nx st1 env1 fin1
    | true =>
      rw [if_pos rfl] at fin1 ⊢
      refine ⟨fun σ2 H2 => ∃ S2 as2 M2 ρ2, St X.K S2 as2 M2 H2 ∧ EnvOk X.K S2 as2 σ2 ρ2 ∧ FinS X.K S2 as2 H2 W (whileN bc f m ρ2 M2) De, fun σ2 H2 q => ⟨m, by omega, q⟩, S1, as1, M1, ρ', st1, env1, ?_⟩
      cases eb : f ρ' M1 with
      | nx ρ2 M2 =>
        simp only [eb] at fin1
        exact fun S3 as3 σ4 H4 e4 st4 env4 => ⟨S3, as3, M2, ρ2, st4, env4, fin1.pre e4⟩
      | ct ρ2 M2 =>
        simp only [eb] at fin1
        exact fun S3 as3 σ4 H4 e4 st4 env4 => ⟨S3, as3, M2, ρ2, st4, env4, fin1.pre e4⟩
      | bk ρ2 M2 => simp only [eb] at fin1; exact fin1
      | rt d M2 => simp only [eb] at fin1; exact fin1
      | er y ρ2 M2 => simp only [eb] at fin1; exact fin1
      | stuck => simp only [eb] at fin1; exact fin1.elim
end
end DL
set_option Elab.async false
set_option maxRecDepth 100000
set_option maxHeartbeats 2000000
namespace DL
open PySem PySem.Spec PyProof.Rows L2

/-! ### list comprehensions -/
def W0 : WX := fun _ _ _ _ => False
def wipeD (ρ : Env) : List Nat → Env
  | [] => ρ
  | v :: vs => (wipeD ρ vs).set v none
theorem EnvOk.unset {K : PySem.W.Frag} {S : Hp} {as : List Addr} {σ : L2.St} {ρ : Env} {i : Nat} (h : EnvOk K S as σ ρ) : EnvOk K S as (σ.set i none) (ρ.set i none) := by
  refine ⟨by simp [h.1], fun j d q => ?_⟩
  by_cases hj : j = i
  · subst hj
    have hl : j < ρ.length := by
      have := (List.getElem?_eq_some_iff.mp q).1
      simpa using this
    rw [List.getElem?_set_self hl] at q
    cases q
  · rw [List.getElem?_set_ne (Ne.symm hj)] at q
    obtain ⟨u, h1, h2⟩ := h.2 j d q
    exact ⟨u, by rw [List.getElem?_set_ne (Ne.symm hj)]; exact h1, h2⟩
theorem EnvOk.wipe {K : PySem.W.Frag} {S : Hp} {as : List Addr} {σ : L2.St} {ρ : Env} (h : EnvOk K S as σ ρ) : ∀ vs : List Nat, EnvOk K S as (wipe σ vs) (wipeD ρ vs)
  | [] => h
  | v :: vs => by
    unfold L2.wipe wipeD
    exact (h.wipe vs).unset
open Classical in
noncomputable def lcL (g : Option (Nat × List D)) (t : Tg) (test : Env → C Bool) (elt : Env → C D) : List D → List D → Env → Mem → Out (List D)
  | [], acc, _, M => if gOk g M then .ok acc M else .stuck
  | d :: ds, acc, ρ, M => if gOk g M then (match t.run d ρ with
    | none => .stuck
    | some ρ1 => match test ρ1 M with
      | .ok true M1 => (match elt ρ1 M1 with
        | .ok y M2 => lcL g t test elt ds (acc ++ [y]) ρ M2
        | _ => .stuck)
      | .ok false M1 => lcL g t test elt ds acc ρ M1
      | _ => .stuck) else .stuck
/-- mk: what becomes of the items -/
noncomputable def eLcG (mk : List D → Mem → Out D) (fi : Env → C ItS) (t : Tg) (test : Env → C Bool) (elt : Env → C D) (vs : List Nat) : Env → C D := fun ρ => (fi ρ).bind fun I M => if I.ds.length ≤ 16777216 then (match lcL I.g t test elt I.ds [] (wipeD ρ vs) M with
  | .ok acc M' => mk acc M'
  | _ => .stuck) else .stuck
def mkV : List D → Mem → Out D := fun acc M => .ok (.lst acc) M
def mkH : List D → Mem → Out D := fun acc M => .ok (.h M.length) (M ++ [.lst acc])
def bYes : Env → C Bool := fun _ => C.ret true
abbrev PDbs (X : Cx) (W : WX) (ifs : List Expr) (f : Env → C Bool) : Prop := PTs X ifs (tDb X.K W f)
section
variable {K : PySem.W.Frag} {S : Hp} {as : List Addr} {M : Mem} {H : Hp} {p : Addr}
/-- an object outside is changed -/
theorem St.off {ho : HO} (st : St K S as M H) (n1 : p ∉ as) (n2 : S p = none) : St K S as M (upd H p ho) := by
  refine ⟨fun b o e => ?_, st.len, st.nd, fun k c a h1 h2 => ?_⟩
  · rw [upd_ne (ne_of_none e n2)]; exact st.ex b o e
  · obtain ⟨s0, o, e, r⟩ := st.cell k c a h1 h2
    have ha : a ≠ p := fun z => n1 (z ▸ List.mem_of_getElem? h2)
    exact ⟨s0, o, by rw [upd_ne ha]; exact e, r⟩
theorem Ext.off {S' H' : Hp} {as' : List Addr} {ho : HO} (x : Ext S as H S' as' H') (n : H p = none) : Ext S as H S' as' (upd H' p ho) :=
  ⟨x.same, x.pre, fun a o h na => by
    obtain ⟨h1, h2, h3⟩ := x.fr a o h na
    exact ⟨by rw [upd_ne (ne_of_none h n)]; exact h1, h2, h3⟩⟩
/-- an object outside becomes a value, a cell -/
theorem St.take {ho : HO} (st : St K S as M H) (n1 : p ∉ as) (n2 : S p = none) (h : H p = some ho) : St K (upd S p ho) as M H := by
  refine ⟨fun b o e => ?_, st.len, st.nd, fun k c a h1 h2 => ?_⟩
  · by_cases hb : b = p
    · subst hb; rw [upd_same] at e; cases e; exact h
    · rw [upd_ne hb] at e; exact st.ex b o e
  · obtain ⟨s0, o, e, r⟩ := st.cell k c a h1 h2
    have ha : a ≠ p := fun z => n1 (z ▸ List.mem_of_getElem? h2)
    exact ⟨by rw [upd_ne ha]; exact s0, o, e, r.mono fun ds vs h => Reps.mono (Evl.Ex.new n2) (Pre.refl _) ds vs h⟩
theorem Ext.take {S' H' : Hp} {as' : List Addr} {ho : HO} (x : Ext S as H S' as' H') (n : H p = none) (n2 : S' p = none) : Ext S as H (upd S' p ho) as' H' :=
  ⟨x.same.trans (Evl.Ex.new n2), x.pre, fun a o h na => by
    obtain ⟨h1, h2, h3⟩ := x.fr a o h na
    exact ⟨h1, h2, fun z => by rw [upd_ne (ne_of_none h n)]; exact h3 z⟩⟩
theorem St.adopt {ho : HO} {c : D} (st : St K S as M H) (n1 : p ∉ as) (n2 : S p = none) (h : H p = some ho) (r : ObjR K p (Reps K S as) c ho) : St K S (as ++ [p]) (M ++ [c]) H := by
  refine ⟨st.ex, by simp [st.len], ?_, fun k c' a h1 h2 => ?_⟩
  · rw [List.nodup_append]
    refine ⟨st.nd, by simp, fun a ha b hb => ?_⟩
    have : b = p := by simpa using hb
    subst this
    rintro rfl
    exact n1 ha
  · by_cases hk : k < M.length
    · rw [List.getElem?_append_left hk] at h1
      rw [List.getElem?_append_left (by rw [st.len]; exact hk)] at h2
      obtain ⟨s0, o, e, r'⟩ := st.cell k c' a h1 h2
      exact ⟨s0, o, e, r'.mono fun ds vs h => Reps.mono (Same.refl _) (Pre.app _ _) ds vs h⟩
    · have hk' : k = M.length := by
        have := (List.getElem?_eq_some_iff.mp h1).1
        simp at this; omega
      subst hk'
      rw [List.getElem?_concat_length] at h1
      rw [← st.len, List.getElem?_concat_length] at h2
      cases h1; cases h2
      exact ⟨n2, ho, h, r.mono fun ds vs h => Reps.mono (Same.refl _) (Pre.app _ _) ds vs h⟩
theorem Ext.adopt {S' H' : Hp} {as' : List Addr} (x : Ext S as H S' as' H') (n : H p = none) : Ext S as H S' (as' ++ [p]) H' :=
  ⟨x.same, x.pre.trans (Pre.app _ _), fun a o h na => by
    obtain ⟨h1, h2, h3⟩ := x.fr a o h na
    exact ⟨h1, by simp [h2, ne_of_none h n], h3⟩⟩
end
/-- mk may be done with the list that stands at p -/
def MkOk (K : PySem.W.Frag) (mk : List D → Mem → Out D) : Prop := ∀ S as H S' as' H' W σ ρ M acc vs p Q, Ext S as H S' as' H' → St K S' as' M H' → H p = none → p ∉ as' → S' p = none → H' p = some (.lst vs) → Reps K S' as' acc vs → acc.length ≤ sizeLine →
  Fin (RepR K) K S as H W σ ρ (mk acc M) Q → Q (.ref p) H'
theorem mkV_ok {K : PySem.W.Frag} : MkOk K mkV := fun S as H S' as' H' W σ ρ M acc vs p Q x st n n1 n2 hp r hl fin =>
  fin (upd S' p (.lst vs)) as' (.ref p) H' (x.take n n2) (st.take n1 n2 hp) ⟨p, vs, rfl, upd_same, Reps.mono (Evl.Ex.new n2) (Pre.refl _) _ _ r, hl⟩
theorem mkH_ok {K : PySem.W.Frag} : MkOk K mkH := fun S as H S' as' H' W σ ρ M acc vs p Q x st n n1 n2 hp r hl fin =>
  fin S' (as' ++ [p]) (.ref p) H' (x.adopt n) (st.adopt n1 n2 hp ⟨r, hl⟩) ⟨p, by rw [← st.len]; simp, rfl⟩
section
variable {X : Cx} {W : WX} {pos : Pos} {tg iter elt : Expr} {ifs : List Expr} {fi : Env → C ItS} {t : Tg} {test : Env → C Bool} {fe : Env → C D}
theorem pdbs_nil : PDbs X W [] bYes := ⟨fun pins s σ H Q I h => pts_nil.run pins s σ H Q I (by
  obtain ⟨S, as, M, ρ, st, env, fin⟩ := h
  exact fin_okb st fin)⟩
theorem pdbs_one {c : Expr} (h : PDb X W c test) : PDbs X W [c] test := pts_one h
theorem lc_of {mk : List D → Mem → Out D} (hmk : MkOk X.K mk) {vs : List Nat} {σ : L2.St} {H : Hp} {Q : VK} (hv : ∀ i ∈ t.slots, i ∈ vs) (h : tD X.K W (eLcG mk fi t test fe vs) σ H Q) : tLc (tI X.K W fi) (t.tg X.K) (tDb X.K W0 test) (tD X.K W0 fe) vs σ H Q := by
  obtain ⟨S, as, M, ρ, st, env, fin⟩ := h
  have lq := line_eq
  refine ⟨S, as, M, ρ, st, env, Fin.bind (g := fun (I : ItS) M => if I.ds.length ≤ 16777216 then (match lcL I.g t test fe I.ds [] (wipeD ρ vs) M with
    | .ok acc M' => mk acc M'
    | _ => .stuck) else .stuck) fin env fun S1 as1 M1 I J H1 e1 st1 env1 ok fin1 => ?_⟩
  intro Dp nD
  split at fin1
  · rename_i hlim
    cases el : lcL I.g t test fe I.ds [] (wipeD ρ vs) M1 with
    | er x M' => simp only [el] at fin1; exact fin1.elim
    | stuck => simp only [el] at fin1; exact fin1.elim
    | ok accF MF =>
      simp only [el] at fin1
      refine ⟨fun i m H' => m + i = I.ds.length ∧ ∃ S' as' M' acc us, Ext S1 as1 H1 S' as' H' ∧ St X.K S' as' M' H' ∧ H' Dp = some (.lst us) ∧ Dp ∉ as' ∧ S' Dp = none ∧ Reps X.K S' as' acc us ∧ acc.length ≤ i ∧ lcL I.g t test fe (I.ds.drop i) acc (wipeD ρ vs) M' = .ok accF MF,
        ⟨I.ds.length, by simp, S1, as1, M1, [], [], (Ext.refl _ _ _).off nD, st1.off (st1.notin nD) (st1.sfree nD), upd_same, st1.notin nD, st1.sfree nD, Reps.nil, by simp, el⟩, ?_⟩
      rintro i m H' ⟨hm, S', as', M', acc, us, x', st', hD, nD1, nD2, r', hacc, heq⟩
      by_cases hi : i < I.ds.length
      · have hd : I.ds.drop i = I.ds[i] :: I.ds.drop (i + 1) := List.drop_eq_getElem_cons hi
        rw [hd] at heq
        unfold lcL at heq
        split at heq
        · rename_i hgk
          refine .inr ⟨ok.go S' as' M' H' i x'.same x'.pre st' hgk hi, fun H2 => ∃ S2 as2 M2 acc2 us2, Ext S1 as1 H1 S2 as2 H2 ∧ St X.K S2 as2 M2 H2 ∧ H2 Dp = some (.lst us2) ∧ Dp ∉ as2 ∧ S2 Dp = none ∧ Reps X.K S2 as2 acc2 us2 ∧ acc2.length ≤ i + 1 ∧ lcL I.g t test fe (I.ds.drop (i + 1)) acc2 (wipeD ρ vs) M2 = .ok accF MF, fun H2 q => ⟨m - 1, by omega, by omega, q⟩, fun x H2 hy => ?_⟩
          obtain ⟨S2, x2, st2, rx⟩ := ok.yld S' as' M' H' i I.ds[i] x H2 x'.same x'.pre st' hgk (List.getElem?_eq_getElem hi) hy
          split at heq
          · cases heq
          · rename_i ρ1 hr
            have env2 : EnvOk X.K S2 as' (wipe σ vs) (wipeD ρ vs) := (env1.wipe vs).mono (x'.same.trans x2.same) x'.pre
            refine Tg.ok vs st2.ex t _ x _ _ ρ1 _ rx env2 hr hv fun σ3 env3 w3 => ?_
            refine ⟨by
              have : wipe (wipe σ vs) vs = wipe σ vs := wipe_wipe σ vs
              rw [w3, this], ?_⟩
            have hD2 := x2.fr Dp _ hD nD1
            cases et : test ρ1 M' with
            | er y M3 => simp only [et] at heq; cases heq
            | stuck => simp only [et] at heq; cases heq
            | ok b M3 =>
              refine ⟨S2, as', M', ρ1, st2, env3, ?_⟩
              rw [et]
              intro S4 as4 b4 H4 e4 st4 eb
              have eb : b = b4 := eb
              subst eb
              have hD4 := e4.fr Dp _ hD2.1 hD2.2.1
              cases b with
              | false =>
                simp only [et] at heq
                rw [if_neg Bool.false_ne_true]
                exact ⟨S4, as4, M3, acc, us, x'.trans (x2.trans e4), st4, hD4.1, hD4.2.1, hD4.2.2 (hD2.2.2 nD2), Reps.mono (x2.same.trans e4.same) e4.pre _ _ r', by omega, heq⟩
              | true =>
                simp only [et] at heq
                rw [if_pos rfl]
                refine ⟨S4, as4, M3, ρ1, st4, env3.mono e4.same e4.pre, ?_⟩
                cases ee : fe ρ1 M3 with
                | er y M5 => simp only [ee] at heq; cases heq
                | stuck => simp only [ee] at heq; cases heq
                | ok y M5 =>
                  simp only [ee] at heq
                  intro S5 as5 yv H5 e5 st5 ry
                  have hD5 := e5.fr Dp _ hD4.1 hD4.2.1
                  have nS5 := hD5.2.2 (hD4.2.2 (hD2.2.2 nD2))
                  have rr := Reps.mono (x2.same.trans (e4.same.trans e5.same)) (e4.pre.trans e5.pre) _ _ r'
                  have hul := rr.length
                  refine ⟨us, hD5.1, by omega, S5, as5, M5, acc ++ [y], us ++ [yv], (x'.trans (x2.trans (e4.trans e5))).off nD, st5.off hD5.2.1 nS5, upd_same, hD5.2.1, nS5, rr.append (Reps.cons ry Reps.nil), by simp; omega, heq⟩
        · cases heq
      · have hd : I.ds.drop i = [] := List.drop_eq_nil_of_le (by omega)
        rw [hd] at heq
        unfold lcL at heq
        split at heq
        · rename_i hgk
          cases heq
          exact .inl ⟨ok.stop S' as' MF H' i x'.same x'.pre st' hgk (by omega), hmk S1 as1 H1 S' as' H' W σ ρ MF accF us Dp Q x' st' nD nD1 nD2 hD r' (by omega) fin1⟩
        · cases heq
  · exact fin1.elim
where wipe_wipe (σ : L2.St) : ∀ vs : List Nat, wipe (wipe σ vs) vs = wipe σ vs
  | [] => rfl
  | v :: vs => by
    have h : ∀ us : List Nat, ∀ τ : L2.St, wipe (τ.set v none) us = (wipe τ us).set v none := by
      intro us
      induction us with
      | nil => intro τ; rfl
      | cons u us ih =>
        intro τ
        unfold wipe
        rw [ih]
        by_cases hu : v = u
        · subst hu; rfl
        · rw [List.set_comm _ _ hu]
    show (wipe ((wipe σ vs).set v none) vs).set v none = (wipe σ vs).set v none
    rw [h vs, wipe_wipe σ vs, List.set_set]
theorem pd_lc {mk : List D → Mem → Out D} {vs : List Nat} (hmk : MkOk X.K mk) {scope : Scope} (own : List (Str × Nat)) (hc : X.calm = true) (hN : X.N.Nodup) (hi : PId X W tg iter fi) (ok : BlkOk X.N X.env.scope scope own)
    (hg : ∀ (s : Shared) (H : Hp) (C : Addr) (cl : List (Str × Addr)) (fp : List Addr), PGd (X.blk s H scope (compEnvC scope cl C X.env) fp) tg t) (ht : ∀ (s : Shared) (H : Hp) (C : Addr) (cl : List (Str × Addr)) (fp : List Addr), PDbs (X.blk s H scope (compEnvC scope cl C X.env) fp) W0 ifs test)
    (he : ∀ (s : Shared) (H : Hp) (C : Addr) (cl : List (Str × Addr)) (fp : List Addr), PD (X.blk s H scope (compEnvC scope cl C X.env) fp) W0 elt fe) (hvs : own.map (·.2) = vs := by rfl) (hv : ∀ i ∈ t.slots, i ∈ vs := by decide) (hs : ∀ x, foldedSetIterable iter X.env x = pure x := by intro _; rfl) :
    PD X W (.ListComp elt [⟨tg, iter, ifs, 0⟩] scope pos) (eLcG mk fi t test fe vs) := by
  subst hvs
  exact (pe_lc hc hN hi ok hg ht he hs).up fun _ _ _ h => lc_of hmk hv h
theorem sd_setLc {mk : List D → Mem → Out D} {vs : List Nat} (hmk : MkOk X.K mk) {i : Nat} {y : Str} {py spos : Pos} {scope : Scope} (own : List (Str × Nat)) (hc : X.calm = true) (hN : X.N.Nodup) (hi : PId X W tg iter fi) (ok : BlkOk X.N X.env.scope scope own)
    (hg : ∀ (s : Shared) (H : Hp) (C : Addr) (cl : List (Str × Addr)) (fp : List Addr), PGd (X.blk s H scope (compEnvC scope cl C X.env) fp) tg t) (ht : ∀ (s : Shared) (H : Hp) (C : Addr) (cl : List (Str × Addr)) (fp : List Addr), PDbs (X.blk s H scope (compEnvC scope cl C X.env) fp) W0 ifs test)
    (he : ∀ (s : Shared) (H : Hp) (C : Addr) (cl : List (Str × Addr)) (fp : List Addr), PD (X.blk s H scope (compEnvC scope cl C X.env) fp) W0 elt fe) (hvs : own.map (·.2) = vs := by rfl) (hv : ∀ i ∈ t.slots, i ∈ vs := by decide)
    (hy : X.N[i]? = some y := by rfl) (hyl : X.env.scope.names.lookup y = some .local := by rfl) (hsw : swapsWith (.ListComp elt [⟨tg, iter, ifs, 0⟩] scope pos) (some (.Name y py)) spos.line X.env = pure true := by exact sw_true rfl rfl rfl (by decide +kernel)) (hs : ∀ x, foldedSetIterable iter X.env x = pure x := by intro _; rfl) :
    SD X W (.Assign [.Name y py] (.ListComp elt [⟨tg, iter, ifs, 0⟩] scope pos) spos) (sSet i (eLcG mk fi t test fe vs)) := by
  subst hvs
  exact (ps_setLc hc hN hy hyl hsw hi ok hg ht he hs).up fun De σ H h => by
    obtain ⟨S, as, M, ρ, st, env, fin⟩ := h
    refine lc_of (W := W) (fi := fi) (test := test) (fe := fe) hmk hv ⟨S, as, M, ρ, st, env, ?_⟩
    exact FinS.bindE (g := fun d M => .nx (ρ.set i (some d)) M) fin env fun S1 as1 M1 d v H1 e1 st1 env1 rx fin1 => fin_nx st1 (env1.set rx) fin1
end
end DL
set_option Elab.async false
set_option maxRecDepth 100000
set_option maxHeartbeats 2000000
namespace DL
open PySem PySem.Spec PyProof.Rows L2

/-! ### calls of built-ins -/
theorem _root_.L2.CallR.orr {X : Cx} {f : Value} {r r' : List V → Hp → VK → Prop} (h : CallR X f r) (h' : CallR X f r') : CallR X f (fun xs H Q => r xs H Q ∨ r' xs H Q) := by
  intro pins s σ H xs us Q I rv q
  rcases q with q | q
  · exact h pins s σ H xs us Q I rv q
  · exact h' pins s σ H xs us Q I rv q
section
variable {X : Cx} {W : WX} {pos : Pos} {tg a b e : Expr} {es : List Expr} {fa fb fe : Env → C D} {fs : Env → C (List D)} {p : Pos} {x : Str}
theorem pd_callTy {T : String} {r : List V → Hp → VK → Prop} {g : List D → C D} (hr : CallR X (.type T) r) (hd : DrN X.K r g) (hm : X.mg x = none) (ha : PDs X W (e :: es) fs) (hv : bootBuiltins x = some (.type T) := by decide +kernel)
    (hg : Gl X x := by rfl) (hn : x ≠ "__name__" := by decide) (hdb : (x == ("__debug__" : Str)) = false := by decide) (hs : starEach (e :: es) X.env = (false, eval e X.env) :: starEach es X.env := by rfl) (hpl : (backTo pos (starEach es X.env)).any (·.1) = false := by rfl) : PD X W (.Call (.Name x p) (e :: es) [] pos) (eN g fs) :=
  (pe_callTy hr hg hm hv ha hn hdb hs hpl).up fun σ H Q h => by
    obtain ⟨S, as, M, ρ, st, env, fin⟩ := h
    exact ⟨S, as, M, ρ, st, env, Fin.bind (g := g) fin env fun S1 as1 M1 xs vs H1 e1 st1 env1 rx fin1 => hd S1 as1 M1 H1 σ ρ W xs vs Q st1 rx fin1⟩
/-- len -/
def lenD (M : Mem) : D → Option Nat
  | .v (.str z) => some z.length
  | .dK ks _ => some ks.length
  | .dT ks _ => some ks.length
  | .h k => match M[k]? with
    | some (.lst ds) => some ds.length
    | some (.dK ks _) => some ks.length
    | some (.dT ks _) => some ks.length
    | _ => none
  | .tup ds => some ds.length
  | .lst ds => some ds.length
  | .ro ds => some ds.length
  | .kt ds => some ds.length
  | _ => none
def gLen : List D → C D := fun xs M => match xs with
  | [x] => match lenD M x with
    | some n => .ok (.v (.int (n : Int))) M
    | none => .stuck
  | _ => .stuck
abbrev rLenAll (K : PySem.W.Frag) : List V → Hp → VK → Prop := fun xs H Q => (∃ x n, xs = [x] ∧ LenV K x H n ∧ Q (.int n) H) ∨ (∃ a kvs, xs = [V.ref a] ∧ H a = some (.dK kvs) ∧ Q (.int kvs.length) H) ∨ rLenT xs H Q
theorem dr_len {K : PySem.W.Frag} : DrN K (rLenAll K) gLen := by
  intro S as M H σ ρ W xs vs Q st rx fin
  have lq := line_eq
  unfold gLen at fin
  split at fin
  · rename_i x
    obtain ⟨v, e2, r1⟩ := reps1 rx
    subst e2
    split at fin
    · rename_i n hn
      have hQ : Q (.int (n : Int)) H := fin_ok (d := .v (.int (n : Int))) st ⟨rfl, rfl⟩ fin
      cases x with
      | v z =>
        cases z with
        | str z =>
          cases hn
          obtain ⟨r1, r2⟩ := r1
          subst r1
          exact .inl ⟨_, _, rfl, ⟨by have := (okV_str r2).2; omega, rfl⟩, hQ⟩
        | _ => cases hn
      | tup ds =>
        cases hn
        obtain ⟨a, vs, h1, h2, h3, h4⟩ := tup_of st r1
        subst h1
        exact .inl ⟨_, _, rfl, .inr ⟨vs, h2, h3.length⟩, hQ⟩
      | kt ds =>
        cases hn
        obtain ⟨a, vs, h1, h2, h3, h4⟩ := kt_of st r1
        subst h1
        exact .inl ⟨_, _, rfl, .inr ⟨vs, h2, h3.length⟩, hQ⟩
      | lst ds =>
        cases hn
        obtain ⟨a, vs, h1, h2, h3, h4⟩ := lst_of st r1 rfl
        subst h1
        exact .inl ⟨_, _, rfl, .inl ⟨vs, h2, h3.length⟩, hQ⟩
      | ro ds =>
        cases hn
        obtain ⟨a, vs, h1, h2, h3, h4⟩ := lst_of st r1 rfl
        subst h1
        exact .inl ⟨_, _, rfl, .inl ⟨vs, h2, h3.length⟩, hQ⟩
      | dK ks ds =>
        cases hn
        obtain ⟨a, kvs, h1, h2, h3, h4⟩ := r1
        subst h1 h3
        refine .inr (.inl ⟨a, kvs, rfl, st.ex _ _ h2, ?_⟩)
        simpa using hQ
      | dT ks ds =>
        cases hn
        obtain ⟨a, kvs, h1, h2, h3, h4⟩ := r1
        subst h1 h3
        refine .inr (.inr ⟨a, kvs, rfl, st.ex _ _ h2, ?_⟩)
        simpa using hQ
      | h k =>
        obtain ⟨a, h1, h2⟩ := r1
        subst h2
        unfold lenD at hn
        cases ec : M[k]? with
        | none => simp [ec] at hn
        | some c =>
          obtain ⟨_, ho, eh, ro⟩ := st.cell k c a ec h1
          cases c with
          | lst ds =>
            simp only [ec] at hn
            cases hn
            cases ho with
            | lst vs => exact .inl ⟨_, _, rfl, .inl ⟨vs, SqL.of eh, ro.1.length⟩, hQ⟩
            | _ => exact ro.elim
          | dK ks ds =>
            simp only [ec] at hn
            cases hn
            cases ho with
            | dK kvs =>
              obtain ⟨q1, q2⟩ := ro
              subst q1
              refine .inr (.inl ⟨a, kvs, rfl, eh, ?_⟩)
              simpa using hQ
            | _ => exact ro.elim
          | dT ks ds =>
            simp only [ec] at hn
            cases hn
            cases ho with
            | dT kvs =>
              obtain ⟨q1, q2⟩ := ro
              subst q1
              refine .inr (.inr ⟨a, kvs, rfl, eh, ?_⟩)
              simpa using hQ
            | _ => exact ro.elim
          | _ => simp [ec] at hn
      | ins _ _ _ => cases hn
      | dN _ _ _ => cases hn
      | cl _ => cases hn
    · exact fin.elim
  · exact fin.elim
theorem pd_len (hm : X.mg "len" = none) (ha : PDs X W [a] fs) (hg : Gl X "len" := by rfl) (hs : starEach [a] X.env = (false, eval a X.env) :: starEach [] X.env := by rfl) (hpl : (backTo pos (starEach [] X.env)).any (·.1) = false := by rfl) : PD X W (.Call (.Name "len" p) [a] [] pos) (eN gLen fs) :=
  pd_callB (call_len.orr (call_lenD.orr call_len_dT)) dr_len hm boot_len ha hg (by decide) (by decide) hs hpl
/-- abs -/
def gAbs : List D → C D := fun xs M => match xs with
  | [.v (.int i)] => .ok (.v (.int (if i < 0 then -i else i))) M
  | _ => .stuck
theorem pd_abs (hm : X.mg "abs" = none) (ha : PDs X W [a] fs) (hg : Gl X "abs" := by rfl) (hs : starEach [a] X.env = (false, eval a X.env) :: starEach [] X.env := by rfl) (hpl : (backTo pos (starEach [] X.env)).any (·.1) = false := by rfl) : PD X W (.Call (.Name "abs" p) [a] [] pos) (eN gAbs fs) :=
  pd_callB call_abs (fun S as M H σ ρ W xs vs Q st rx fin => by
    unfold gAbs at fin
    split at fin
    · rename_i i
      obtain ⟨v, e2, r1⟩ := reps1 rx
      obtain ⟨r1, _⟩ := r1
      subst r1
      exact ⟨i, e2, fin_ok (d := .v (.int _)) st ⟨rfl, rfl⟩ fin⟩
    · exact fin.elim) hm (by decide +kernel) ha hg (by decide) (by decide) hs hpl
/-- int of an int, of a bool -/
def gInt : List D → C D := fun xs M => match xs with
  | [.v (.int i)] => .ok (.v (.int i)) M
  | [.v (.bl k)] => .ok (.v (.int (if k = true then 1 else 0))) M
  | _ => .stuck
theorem pd_intOf (hm : X.mg "int" = none) (ha : PDs X W [a] fs) (hg : Gl X "int" := by rfl) (hs : starEach [a] X.env = (false, eval a X.env) :: starEach [] X.env := by rfl) (hpl : (backTo pos (starEach [] X.env)).any (·.1) = false := by rfl) : PD X W (.Call (.Name "int" p) [a] [] pos) (eN gInt fs) :=
  pd_callTy call_int1 (fun S as M H σ ρ W xs vs Q st rx fin => by
    unfold gInt at fin
    split at fin
    · rename_i i
      obtain ⟨v, e2, r1⟩ := reps1 rx
      obtain ⟨r1, _⟩ := r1
      subst r1
      exact .inl ⟨i, e2, fin_ok (d := .v (.int _)) st ⟨rfl, rfl⟩ fin⟩
    · rename_i k
      obtain ⟨v, e2, r1⟩ := reps1 rx
      obtain ⟨r1, _⟩ := r1
      subst r1
      exact .inr ⟨k, e2, fin_ok (d := .v (.int _)) st ⟨rfl, rfl⟩ fin⟩
    · exact fin.elim) hm ha (by decide +kernel) hg (by decide) (by decide) hs hpl
/-- min, max of two ints -/
def gMax2 : List D → C D := fun xs M => match xs with
  | [.v (.int i), .v (.int j)] => .ok (.v (.int (if j > i then j else i))) M
  | _ => .stuck
def gMin2 : List D → C D := fun xs M => match xs with
  | [.v (.int i), .v (.int j)] => .ok (.v (.int (if j < i then j else i))) M
  | _ => .stuck
theorem pd_max2 (hc : X.calm = true) (hm : X.mg "max" = none) (ha : PDs X W [a, b] fs) (hg : Gl X "max" := by rfl) (hs : starEach [a, b] X.env = (false, eval a X.env) :: starEach [b] X.env := by rfl) (hpl : (backTo pos (starEach [b] X.env)).any (·.1) = false := by rfl) : PD X W (.Call (.Name "max" p) [a, b] [] pos) (eN gMax2 fs) :=
  pd_callB (call_max2 hc) (fun S as M H σ ρ W xs vs Q st rx fin => by
    unfold gMax2 at fin
    split at fin
    · rename_i i j
      obtain ⟨v, v', e2, r1, r2⟩ := reps2 rx
      obtain ⟨r1, _⟩ := r1
      obtain ⟨r2, _⟩ := r2
      subst r1 r2
      exact ⟨i, j, e2, fin_ok (d := .v (.int _)) st ⟨rfl, rfl⟩ fin⟩
    · exact fin.elim) hm (by decide +kernel) ha hg (by decide) (by decide) hs hpl
theorem pd_min2 (hc : X.calm = true) (hm : X.mg "min" = none) (ha : PDs X W [a, b] fs) (hg : Gl X "min" := by rfl) (hs : starEach [a, b] X.env = (false, eval a X.env) :: starEach [b] X.env := by rfl) (hpl : (backTo pos (starEach [b] X.env)).any (·.1) = false := by rfl) : PD X W (.Call (.Name "min" p) [a, b] [] pos) (eN gMin2 fs) :=
  pd_callB (call_min2 hc) (fun S as M H σ ρ W xs vs Q st rx fin => by
    unfold gMin2 at fin
    split at fin
    · rename_i i j
      obtain ⟨v, v', e2, r1, r2⟩ := reps2 rx
      obtain ⟨r1, _⟩ := r1
      obtain ⟨r2, _⟩ := r2
      subst r1 r2
      exact ⟨i, j, e2, fin_ok (d := .v (.int _)) st ⟨rfl, rfl⟩ fin⟩
    · exact fin.elim) hm (by decide +kernel) ha hg (by decide) (by decide) hs hpl
/-- sum of a list of ints -/
def intOf : D → Option Int
  | .v (.int i) => some i
  | _ => none
def intsOf (ds : List D) : Option (List Int) := ds.mapM intOf
theorem Reps.ints {K : PySem.W.Frag} {S : Hp} {as : List Addr} : ∀ {ds : List D} {vs : List V} {ns : List Int}, Reps K S as ds vs → intsOf ds = some ns → vs = ns.map V.int
  | [], vs, ns, h, e => by
    have h : vs = [] := h
    subst h
    simp [intsOf] at e; subst e; rfl
  | d :: ds, vs, ns, h, e => by
    obtain ⟨v, r, h1, h2, h3⟩ := h
    subst h1
    unfold intsOf at e
    rw [List.mapM_cons] at e
    cases d with
    | v z =>
      cases z with
      | int i =>
        cases e2 : ds.mapM intOf with
        | none => simp [intOf, e2] at e
        | some ys =>
          simp [intOf, e2] at e
          subst e
          obtain ⟨h2, _⟩ := h2
          subst h2
          rw [Reps.ints h3 e2]; rfl
      | _ => simp [intOf] at e
    | _ => simp [intOf] at e
def gSum : List D → C D := fun xs M => match xs with
  | [x] => match lstOf M x with
    | some ds => match intsOf ds with
      | some ns => .ok (.v (.int ns.sum)) M
      | none => .stuck
    | none => .stuck
  | _ => .stuck
theorem pd_sum (hc : X.calm = true) (hm : X.mg "sum" = none) (ha : PDs X W [a] fs) (hg : Gl X "sum" := by rfl) (hs : starEach [a] X.env = (false, eval a X.env) :: starEach [] X.env := by rfl) (hpl : (backTo pos (starEach [] X.env)).any (·.1) = false := by rfl) : PD X W (.Call (.Name "sum" p) [a] [] pos) (eN gSum fs) :=
  pd_callB (cr_sum hc) (fun S as M H σ ρ W xs vs Q st rx fin => by
    unfold gSum at fin
    split at fin
    · obtain ⟨v, e2, r1⟩ := reps1 rx
      subst e2
      split at fin
      · rename_i ds hd
        split at fin
        · rename_i ns hn
          obtain ⟨a, us, h1, h2, h3, h4⟩ := lst_of st r1 hd
          subst h1
          have := h3.ints hn
          subst this
          exact ⟨a, ns, rfl, h2, fin_ok (d := .v (.int _)) st ⟨rfl, rfl⟩ fin⟩
        · exact fin.elim
      · exact fin.elim
    · exact fin.elim) hm (by decide +kernel) ha hg (by decide) (by decide) hs hpl
/-- list of a list, of a tuple: mk says whether a value or a cell -/
def gListOf (mk : List D → Mem → Out D) : List D → C D := fun xs M => match xs with
  | [x] => match seqOf M x with
    | some ds => mk ds M
    | none => .stuck
  | _ => .stuck
/-- mk may be done with a new list -/
def MkN (K : PySem.W.Frag) (mk : List D → Mem → Out D) : Prop := ∀ S as H W σ ρ M ds vs p Q, St K S as M H → H p = none → Reps K S as ds vs → ds.length ≤ sizeLine → Fin (RepR K) K S as H W σ ρ (mk ds M) Q → Q (.ref p) (upd H p (.lst vs))
theorem mkV_n {K : PySem.W.Frag} : MkN K mkV := fun S as H W σ ρ M ds vs p Q st n r hl fin => fin_lst st fin r hl n
theorem mkH_n {K : PySem.W.Frag} : MkN K mkH := fun S as H W σ ρ M ds vs p Q st n r hl fin => fin_cell st fin ⟨r, hl⟩ n
theorem pd_listOf {mk : List D → Mem → Out D} (hmk : MkN X.K mk) (hm : X.mg "list" = none) (ha : PDs X W [a] fs) (hg : Gl X "list" := by rfl) (hs : starEach [a] X.env = (false, eval a X.env) :: starEach [] X.env := by rfl) (hpl : (backTo pos (starEach [] X.env)).any (·.1) = false := by rfl) : PD X W (.Call (.Name "list" p) [a] [] pos) (eN (gListOf mk) fs) :=
  pd_callTy call_list_of (fun S as M H σ ρ W xs vs Q st rx fin => by
    unfold gListOf at fin
    split at fin
    · obtain ⟨v, e2, r1⟩ := reps1 rx
      subst e2
      split at fin
      · rename_i ds hd
        obtain ⟨a, us, h1, h2, h3, h4⟩ := seq_of st r1 hd
        subst h1
        exact ⟨a, us, rfl, h2, fun l n => hmk S as H W σ ρ M ds us l Q st n h3 h4 fin⟩
      · exact fin.elim
    · exact fin.elim) hm ha (by decide +kernel) hg (by decide) (by decide) hs hpl
/-- displays -/
def gLst (mk : List D → Mem → Out D) : List D → C D := fun xs M => if xs.length ≤ 16777216 then mk xs M else .stuck
def gTup : List D → C D := fun xs M => if xs.length ≤ 16777216 then .ok (.tup xs) M else .stuck
theorem pd_lst {mk : List D → Mem → Out D} (hmk : MkN X.K mk) (ha : PDs X W es fs) : PD X W (.List es pos) (eN (gLst mk) fs) := (pe_lst ha).up fun σ H Q h => by
  obtain ⟨S, as, M, ρ, st, env, fin⟩ := h
  have lq := line_eq
  refine ⟨S, as, M, ρ, st, env, Fin.bind (g := gLst mk) fin env fun S1 as1 M1 xs vs H1 e1 st1 env1 rx fin1 => ?_⟩
  unfold gLst at fin1
  split at fin1
  · rename_i hl
    exact ⟨by rw [← Reps.length rx]; omega, fun p n => hmk S1 as1 H1 W σ ρ M1 xs vs p Q st1 n rx (by omega) fin1⟩
  · exact fin1.elim
theorem pd_tup {k} (ha : PDs X W es fs) : PD X W (.Tuple es k pos) (eN gTup fs) := (pe_tup ha).up fun σ H Q h => by
  obtain ⟨S, as, M, ρ, st, env, fin⟩ := h
  have lq := line_eq
  refine ⟨S, as, M, ρ, st, env, Fin.bind (g := gTup) fin env fun S1 as1 M1 xs vs H1 e1 st1 env1 rx fin1 => ?_⟩
  unfold gTup at fin1
  split at fin1
  · rename_i hl
    exact ⟨by rw [← Reps.length rx]; omega, fun p n => fin_tup st1 fin1 rx (by omega) n⟩
  · exact fin1.elim
/-! isinstance of data, built-in classes -/
def tyN (M : Mem) : D → Option String
  | .v .non => some "NoneType"
  | .v (.bl _) => some "bool"
  | .v (.int _) => some "int"
  | .v (.str _) => some "str"
  | .tup _ => some "tuple"
  | .kt _ => some "tuple"
  | .lst _ => some "list"
  | .dK _ _ => some "dict"
  | .dT _ _ => some "dict"
  | .h k => match M[k]? with
    | some (.lst _) => some "list"
    | some (.dK _ _) => some "dict"
    | some (.dT _ _) => some "dict"
    | _ => none
  | _ => none
def gIsi : List D → C D := fun xs M => match xs with
  | [x, .v (.ty c)] => match tyN M x with
    | some t => match kitB t c with
      | some b => .ok (.v (.bl b)) M
      | none => .stuck
    | none => .stuck
  | _ => .stuck
theorem ty_of {K : PySem.W.Frag} {S : Hp} {as : List Addr} {M : Mem} {H : Hp} {d : D} {v : V} {t : String} (st : St K S as M H) (r : Rep K S as d v) (h : tyN M d = some t) : TyX K H v (.type t) := by
  cases d with
  | v z =>
    obtain ⟨r1, _⟩ := r
    subst r1
    cases v with
    | non => cases h; exact .base .non
    | bl b => cases h; exact .base (.bl b)
    | int i => cases h; exact .base (.int i)
    | str s => cases h; exact .base (.str s)
    | _ => cases h
  | tup ds =>
    cases h
    obtain ⟨a, vs, h1, h2, h3, h4⟩ := tup_of st r
    subst h1
    rcases h2 with (h2 | ⟨o, h2⟩) | ⟨o, its, n, h2, h5, _⟩
    · exact .base (.tup h2)
    · exact .fTuple h2
    · exact .kTuple h2 h5
  | kt ds =>
    cases h
    obtain ⟨a, vs, h1, h2, h3, h4⟩ := kt_of st r
    subst h1
    rcases h2 with (h2 | ⟨o, h2⟩) | ⟨o, its, n, h2, h5, _⟩
    · exact .base (.tup h2)
    · exact .fTuple h2
    · exact .kTuple h2 h5
  | lst ds =>
    cases h
    obtain ⟨a, vs, h1, h2, h3, h4⟩ := ml_of st r rfl
    subst h1
    exact .base (.lst h2)
  | dK ks ds =>
    cases h
    obtain ⟨a, kvs, h1, h2, _⟩ := r
    subst h1
    exact .base (.dK (st.ex _ _ h2))
  | dT ks ds =>
    cases h
    obtain ⟨a, kvs, h1, h2, _⟩ := r
    subst h1
    exact .base (.dT (st.ex _ _ h2))
  | h k =>
    obtain ⟨a, h1, h2⟩ := r
    subst h2
    unfold tyN at h
    cases ec : M[k]? with
    | none => simp [ec] at h
    | some c =>
      obtain ⟨_, ho, eh, ro⟩ := st.cell k c a ec h1
      cases c with
      | lst ds =>
        simp only [ec] at h
        cases h
        cases ho with
        | lst vs => exact .base (.lst eh)
        | _ => exact ro.elim
      | dK ks ds =>
        simp only [ec] at h
        cases h
        cases ho with
        | dK kvs => exact .base (.dK eh)
        | _ => exact ro.elim
      | dT ks ds =>
        simp only [ec] at h
        cases h
        cases ho with
        | dT kvs => exact .base (.dT eh)
        | _ => exact ro.elim
      | _ => simp [ec] at h
  | _ => cases h
theorem pd_isi (hm : X.mg "isinstance" = none) (ha : PDs X W [a, b] fs) (hg : Gl X "isinstance" := by rfl) (hs : starEach [a, b] X.env = (false, eval a X.env) :: starEach [b] X.env := by rfl) (hpl : (backTo pos (starEach [b] X.env)).any (·.1) = false := by rfl) : PD X W (.Call (.Name "isinstance" p) [a, b] [] pos) (eN gIsi fs) :=
  pd_callB call_isi (fun S as M H σ ρ W xs vs Q st rx fin => by
    unfold gIsi at fin
    split at fin
    · rename_i x c
      obtain ⟨v, v', e2, r1, r2⟩ := reps2 rx
      obtain ⟨r2, _⟩ := r2
      subst r2
      split at fin
      · rename_i t ht
        split at fin
        · rename_i bb hb
          exact ⟨v, .ty c, .type t, .type c, bb, e2, .ty c, ty_of st r1 ht, kit_ty hb, fin_ok (d := .v (.bl _)) st ⟨rfl, rfl⟩ fin⟩
        · exact fin.elim
      · exact fin.elim
    · exact fin.elim) hm (by decide +kernel) ha hg (by decide) (by decide) hs hpl
/-- the name of a built-in class as a value -/
theorem pd_tyName {T : String} (hm : X.mg x = none) (hv : bootBuiltins x = some (.type T) := by decide +kernel) (hg : Gl X x := by rfl) (hn : x ≠ "__name__" := by decide) (hdb : (x == ("__debug__" : Str)) = false := by decide) : PD X W (.Name x pos) (eC (.v (.ty T))) := pd_c (pe_bltn hg hm hv rfl hn hdb) rfl
/-- a module's int -/
theorem pd_gInt {i : Int} {t : Tok} (hm : X.mg x = some (.int i t)) (hg : Gl X x := by rfl) (hdb : (x == ("__debug__" : Str)) = false := by decide) : PD X W (.Name x pos) (eC (.v (.int i))) := pd_c (pe_glob hg hm ⟨t, rfl⟩ hdb) rfl
theorem pd_gStr {i : Str} {t : Tok} (hm : X.mg x = some (.str i t)) (ok : okV (.str i) = true := by decide +kernel) (hg : Gl X x := by rfl) (hdb : (x == ("__debug__" : Str)) = false := by decide) : PD X W (.Name x pos) (eC (.v (.str i))) := pd_c (pe_glob hg hm ⟨t, rfl⟩ hdb) ok

/-! ### stores, methods that change a list -/
def storeD (M : Mem) (o i d : D) : Option Mem := match o with
  | .h k => match i with
    | .v (.int z) => match M[k]? with
      | some (.lst ds) => match ixN ds.length z with
        | some j => some (M.set k (.lst (ds.set j d)))
        | none => none
      | _ => none
    | _ => none
  | _ => none
def sStore (fo fi fe : Env → C D) : Cs := fun ρ => sE (fe ρ) ρ fun d => sE (fo ρ) ρ fun o => sE (fi ρ) ρ fun i M => match storeD M o i d with
  | some M' => .nx ρ M'
  | none => .stuck
theorem sd_store {o i : Expr} {fo fi : Env → C D} {tp : Pos} (ho : PD X W o fo) (hi : PD X W i fi) (he : PD X W e fe)
    (ha : ∀ v, assign (.Subscript o i tp) X.env v = (do
      let ov ← holding [v] (eval o X.env)
      let iv ← holding [v, ov] (eval i X.env)
      standAt tp
      holding [v, ov, iv] (setItem ov iv v)
      release [v, ov, iv] []) := by intro _; rfl)
    (hs : swapsWithSole [.Subscript o i tp] e pos.line X.env = pure false := by rfl) (hw : swappedStores [.Subscript o i tp] e X.env = pure none := by rfl)
    (h1 : (assignEach [.Subscript o i tp] X.env).map (·.2) = [assign (.Subscript o i tp) X.env] := by rfl) : SD X W (.Assign [.Subscript o i tp] e pos) (sStore fo fi fe) :=
  (ps_asg he (pg_sub ho hi set_list ha) hs hw h1).up fun De σ H h => by
    obtain ⟨S, as, M, ρ, st, env, fin⟩ := h
    refine ⟨S, as, M, ρ, st, env, FinS.bindE (g := fun d => sE (fo ρ) ρ fun o => sE (fi ρ) ρ fun i M => match storeD M o i d with
      | some M' => .nx ρ M'
      | none => .stuck) fin env fun S1 as1 M1 d v H1 e1 st1 env1 rd fin1 => ?_⟩
    refine ⟨S1, as1, M1, ρ, st1, env1, FinS.bindE (g := fun o => sE (fi ρ) ρ fun i M => match storeD M o i d with
      | some M' => .nx ρ M'
      | none => .stuck) fin1 env1 fun S2 as2 M2 o' ov H2 e2 st2 env2 ro fin2 => ?_⟩
    refine ⟨S2, as2, M2, ρ, st2, env2, FinS.bindE (g := fun i M => match storeD M o' i d with
      | some M' => .nx ρ M'
      | none => .stuck) fin2 env2 fun S3 as3 M3 i' iv H3 e3 st3 env3 ri fin3 => ?_⟩
    have ro3 := Rep.mono e3.same e3.pre _ _ ro
    have rd3 := Rep.mono (e2.trans e3).same (e2.trans e3).pre _ _ rd
    split at fin3
    · rename_i M' hM
      unfold storeD at hM
      split at hM
      · rename_i k
        split at hM
        · rename_i z
          split at hM
          · rename_i ds hk
            split at hM
            · rename_i j hj
              cases hM
              obtain ⟨a, h1, h2⟩ := ro3
              subst h2
              obtain ⟨us, h3, h4, h5⟩ := cell_lst st3 hk h1
              refine ⟨a, us, z, j, rfl, ri.1, h3, by rw [← h4.length]; exact hj, ?_⟩
              have stw := st3.write (c := .lst (ds.set j d)) (ho := .lst (us.set j v)) hk h1 ⟨h4.set j rd3, by simpa using h5⟩
              exact fin3 S3 as3 σ _ (Ext.write h1) stw env3
            · cases hM
          · cases hM
        · cases hM
      · cases hM
    · exact fin3.elim
/-- a method of a built-in type -/
def tyOk (T : String) (M : Mem) : D → Bool
  | .v (.str _) => T == "str"
  | .lst _ => T == "list"
  | .ro _ => T == "list"
  | .h k => match M[k]? with
    | some (.lst _) => T == "list"
    | some (.dK _ _) => T == "dict"
    | some (.dT _ _) => T == "dict"
    | _ => false
  | _ => false
def eM (T : String) (g : D → List D → C D) (fo : Env → C D) (fs : Env → C (List D)) : Env → C D := fun ρ => (fo ρ).bind fun x M => if tyOk T M x = true then (fs ρ).bind (g x) M else .stuck
def DrM (K : PySem.W.Frag) (r : V → List V → Hp → VK → Prop) (g : D → List D → C D) : Prop := ∀ S as M H σ ρ W x v xs vs Q, St K S as M H → Rep K S as x v → Reps K S as xs vs → Fin (RepR K) K S as H W σ ρ (g x xs M) Q → r v vs H Q
theorem tyOk_of {K : PySem.W.Frag} {S : Hp} {as : List Addr} {M : Mem} {H : Hp} {T : String} {d : D} {v : V} (st : St K S as M H) (r : Rep K S as d v) (h : tyOk T M d = true) : tyV K T v H := by
  cases d with
  | v z =>
    obtain ⟨r1, _⟩ := r
    subst r1
    cases v with
    | str s =>
      have h' : T = "str" := by simpa [tyOk] using h
      exact h'
    | _ => simp [tyOk] at h
  | lst ds =>
    obtain ⟨a, vs, h1, h2, h3, h4⟩ := lst_of st r rfl
    subst h1
    exact .inl ⟨by simpa [tyOk] using h, vs, h2⟩
  | ro ds =>
    obtain ⟨a, vs, h1, h2, h3, h4⟩ := lst_of st r rfl
    subst h1
    exact .inl ⟨by simpa [tyOk] using h, vs, h2⟩
  | h k =>
    obtain ⟨a, h1, h2⟩ := r
    subst h2
    unfold tyOk at h
    cases ec : M[k]? with
    | none => simp [ec] at h
    | some c =>
      obtain ⟨_, ho, eh, ro⟩ := st.cell k c a ec h1
      cases c with
      | lst ds =>
        simp only [ec] at h
        cases ho with
        | lst vs => exact .inl ⟨by simpa using h, vs, SqL.of eh⟩
        | _ => exact ro.elim
      | dK ks ds =>
        simp only [ec] at h
        cases ho with
        | dK kvs => exact .inr (.inr (.inl ⟨by simpa using h, .inl ⟨kvs, eh⟩⟩))
        | _ => exact ro.elim
      | dT ks ds =>
        simp only [ec] at h
        cases ho with
        | dT kvs => exact .inr (.inr (.inl ⟨by simpa using h, .inr ⟨kvs, eh⟩⟩))
        | _ => exact ro.elim
      | _ => simp [ec] at h
  | _ => simp [tyOk] at h
theorem pd_bm {o : Expr} {fo : Env → C D} {name : Str} {apos cpos : Pos} {T id : String} {r : V → List V → Hp → VK → Prop} {g : D → List D → C D} (pa : PlainAttrs T) (slot : Slot T name id) (hty : typeOf (.builtin id) = pure (.type "method_descriptor")) (hm : MtR X id r) (hd : DrM X.K r g) (ho : PD X W o fo) (ha : PDs X W (e :: es) fs)
    (hbase : attributeBase o name X.env (eval o X.env) = eval o X.env := by rfl)
    (hfew : ((backTo cpos (starEach (e :: es) X.env)).all (fun x => !x.1) && (backToKw cpos (keywordEach [] X.env)).all (fun x => x.1.isSome)
      && decide ((e :: es).length + ([] : List Keyword).length + (if ([] : List Keyword).isEmpty then 0 else 1) < 30)) = true := by rfl)
    (hline : (apos.endLine == cpos.line) = true := by rfl) (hs : starEach (e :: es) X.env = (false, eval e X.env) :: starEach es X.env := by rfl) (hplain : (backTo cpos (starEach es X.env)).any (·.1) = false := by rfl) : PD X W (.Call (.Attribute o name apos) (e :: es) [] cpos) (eM T g fo fs) :=
  (pe_bm pa slot hty hm ho ha hbase hfew hline hs hplain).up fun σ H Q h => by
    obtain ⟨S, as, M, ρ, st, env, fin⟩ := h
    refine ⟨S, as, M, ρ, st, env, Fin.bind (g := fun x M => if tyOk T M x = true then (fs ρ).bind (g x) M else .stuck) fin env fun S1 as1 M1 x v H1 e1 st1 env1 rx fin1 => ?_⟩
    split at fin1
    · rename_i ht
      refine ⟨tyOk_of st1 rx ht, S1, as1, M1, ρ, st1, env1, Fin.bind (g := g x) fin1 env1 fun S2 as2 M2 xs vs H2 e2 st2 env2 rs fin2 => ?_⟩
      exact hd S2 as2 M2 H2 σ ρ W x v xs vs Q st2 (Rep.mono e2.same e2.pre _ _ rx) rs fin2
    · exact fin1.elim
theorem pd_bm0 {o : Expr} {fo : Env → C D} {name : Str} {apos cpos : Pos} {T id : String} {r : V → List V → Hp → VK → Prop} {g : D → List D → C D} (pa : PlainAttrs T) (slot : Slot T name id) (hty : typeOf (.builtin id) = pure (.type "method_descriptor")) (hm : MtR X id r) (hd : DrM X.K r g) (ho : PD X W o fo)
    (hbase : attributeBase o name X.env (eval o X.env) = eval o X.env := by rfl) (hline : (apos.endLine == cpos.line) = true := by rfl) : PD X W (.Call (.Attribute o name apos) [] [] cpos) (eM T g fo eNil) :=
  (pe_bm0 pa slot hty hm ho hbase hline).up fun σ H Q h => by
    obtain ⟨S, as, M, ρ, st, env, fin⟩ := h
    refine ⟨S, as, M, ρ, st, env, Fin.bind (g := fun x M => if tyOk T M x = true then (eNil ρ).bind (g x) M else .stuck) fin env fun S1 as1 M1 x v H1 e1 st1 env1 rx fin1 => ?_⟩
    split at fin1
    · rename_i ht
      exact ⟨tyOk_of st1 rx ht, hd S1 as1 M1 H1 σ ρ W x v [] [] Q st1 rx Reps.nil fin1⟩
    · exact fin1.elim
/-- xs.append(d) -/
def gAppend : D → List D → C D := fun x xs M => match x with
  | .h k => match xs with
    | [d] => match M[k]? with
      | some (.lst ds) => if ds.length < 16777216 then .ok (.v .non) (M.set k (.lst (ds ++ [d]))) else .stuck
      | _ => .stuck
    | _ => .stuck
  | _ => .stuck
theorem dr_append {K : PySem.W.Frag} : DrM K rAppend gAppend := by
  intro S as M H σ ρ W x v xs vs Q st rx rs fin
  have lq := line_eq
  unfold gAppend at fin
  split at fin
  · rename_i k
    split at fin
    · rename_i d
      split at fin
      · rename_i ds hk
        split at fin
        · rename_i hl
          obtain ⟨a, h1, h2⟩ := rx
          subst h2
          obtain ⟨u, e2, r1⟩ := reps1 rs
          obtain ⟨us, h3, h4, h5⟩ := cell_lst st hk h1
          refine ⟨a, us, u, rfl, e2, h3, by rw [← h4.length]; omega, ?_⟩
          exact fin S as .non _ (Ext.write h1) (st.write (c := .lst (ds ++ [d])) hk h1 ⟨h4.append (Reps.cons r1 Reps.nil), by simp; omega⟩) ⟨rfl, rfl⟩
        · exact fin.elim
      · exact fin.elim
    · exact fin.elim
  · exact fin.elim
theorem pd_append {o : Expr} {fo : Env → C D} {apos cpos : Pos} (ho : PD X W o fo) (ha : PDs X W [e] fs) (hbase : attributeBase o "append" X.env (eval o X.env) = eval o X.env := by rfl)
    (hfew : ((backTo cpos (starEach [e] X.env)).all (fun x => !x.1) && (backToKw cpos (keywordEach [] X.env)).all (fun x => x.1.isSome)
      && decide (([e] : List Expr).length + ([] : List Keyword).length + (if ([] : List Keyword).isEmpty then 0 else 1) < 30)) = true := by rfl)
    (hline : (apos.endLine == cpos.line) = true := by rfl) (hs : starEach [e] X.env = (false, eval e X.env) :: starEach [] X.env := by rfl) (hplain : (backTo cpos (starEach [] X.env)).any (·.1) = false := by rfl) : PD X W (.Call (.Attribute o "append" apos) [e] [] cpos) (eM "list" gAppend fo fs) :=
  pd_bm PySem.F.plainAttrs_list PySem.F.slot_list_append PySem.F.type_list_append mt_append dr_append ho ha hbase hfew hline hs hplain
/-! name op= e -/
def sAug (i : Nat) (g : D → D → C D) (fe : Env → C D) : Cs := fun ρ => match ρ[i]? with
  | some (some x) => sE (fe ρ) ρ fun y => sE (g x y) ρ fun z M => .nx (ρ.set i (some z)) M
  | _ => fun _ => .stuck
theorem sd_aug {i : Nat} {op : Operator} {r : R2} {g : D → D → C D} {pos' : Pos} (hN : X.N.Nodup) (ho : OpR X (inplaceOp op) r) (hr : Dr2 X.K r g) (he : PD X W e fe) (hi : X.N[i]? = some x := by rfl) (hx : Loc X.env.scope x := by first | exact Or.inl rfl | exact Or.inr rfl)
    (hf : X.fn x = true ∨ X.env.scope.names.lookup x = some .local := by first | exact .inl rfl | exact .inr rfl) : SD X W (.AugAssign (.Name x pos') op e pos) (sAug i g fe) :=
  (ps_aug hN hi hx he ho hf).up fun De σ H h => by
    obtain ⟨S, as, M, ρ, st, env, fin⟩ := h
    unfold sAug at fin
    cases er : ρ[i]? with
    | none => simp only [er] at fin; exact fin.elim
    | some o =>
      cases o with
      | none => simp only [er] at fin; exact fin.elim
      | some d =>
        simp only [er] at fin
        obtain ⟨v, h1, h2⟩ := env.2 i d er
        refine ⟨v, h1, ?_⟩
        refine ⟨S, as, M, ρ, st, env, FinS.bindE (g := fun y => sE (g d y) ρ fun z M => .nx (ρ.set i (some z)) M) fin env fun S1 as1 M1 y u H1 e1 st1 env1 ry fin1 => ?_⟩
        refine hr S1 as1 M1 H1 σ ρ W d y v u _ st1 (Rep.mono e1.same e1.pre _ _ h2) ry ?_
        exact FinS.bindE (g := fun z M => .nx (ρ.set i (some z)) M) fin1 env1 fun S2 as2 M2 z w' H2 e2 st2 env2 rz fin2 => fin_nx st2 (env2.set rz) fin2
end
def iAdd : D → D → C D := fun x y M => match x with
  | .v (.int i) => match y with
    | .v (.int j) => .ok (.v (.int (i + j))) M
    | _ => .stuck
  | .v (.str a) => match y with
    | .v (.str b) => if a.length + b.length ≤ 16777216 then .ok (.v (.str (a ++ b))) M else .stuck
    | _ => .stuck
  | _ => .stuck
theorem iop_addAll {X : Cx} : OpR X (inplaceOp .Add) (fun x y H Q => (rI0 fun i j => .int (i + j)) x y H Q ∨ ((fun x y H Q => ∃ i j, x = .str i ∧ y = .str j ∧ i.length + j.length ≤ sizeLine ∧ Q (.str (i ++ j)) H) : R2) x y H Q) := iop_add.or iop_add_str
theorem dr_iadd {K : PySem.W.Frag} : Dr2 K (fun x y H Q => (rI0 fun i j => .int (i + j)) x y H Q ∨ ((fun x y H Q => ∃ i j, x = .str i ∧ y = .str j ∧ i.length + j.length ≤ sizeLine ∧ Q (.str (i ++ j)) H) : R2) x y H Q) iAdd := by
  intro S as M H σ ρ W x y v u Q st rx ry fin
  have lq := line_eq
  unfold iAdd at fin
  split at fin
  · rename_i i
    split at fin
    · rename_i j
      exact .inl ⟨i, j, rx.1, ry.1, fin_ok (d := .v (.int (i + j))) st ⟨rfl, rfl⟩ fin⟩
    · exact fin.elim
  · rename_i a
    split at fin
    · rename_i b
      split at fin
      · rename_i hl
        exact .inr ⟨a, b, rx.1, ry.1, by omega, fin_ok (d := .v (.str (a ++ b))) st ⟨rfl, okV_mk (strOk_app (okV_str rx.2).1 (okV_str ry.2).1) (by rw [len_app]; exact hl)⟩ fin⟩
      · exact fin.elim
    · exact fin.elim
  · exact fin.elim
end DL
set_option Elab.async false
set_option maxRecDepth 100000
set_option maxHeartbeats 2000000
namespace DL
open PySem PySem.Spec PyProof.Rows L2

/-! ### what leaves a def -/
mutual
def hb (n : Nat) : D → Bool
  | .v _ => true
  | .h k => decide (k < n)
  | .tup ds => hbs n ds
  | .lst ds => hbs n ds
  | .ro ds => hbs n ds
  | .kt ds => hbs n ds
  | .ins _ _ ds => hbs n ds
  | .dK _ ds => hbs n ds
  | .dT _ ds => hbs n ds
  | .dN _ ds _ => hbs n ds
  | .cl _ => true
def hbs (n : Nat) : List D → Bool
  | [] => true
  | d :: ds => hb n d && hbs n ds
end
section
variable {K : PySem.W.Frag} {S S1 : Hp} {as as' : List Addr} {M M1 : Mem} {H H1 : Hp}
mutual
theorem Rep.hb_of : ∀ (d : D) (v : V), Rep K S as d v → hb as.length d = true
  | .v _, _, _ => rfl
  | .h k, v, r => by
    obtain ⟨a, h1, _⟩ := r
    unfold hb
    exact decide_eq_true (List.getElem?_eq_some_iff.mp h1).1
  | .tup ds, v, r => by obtain ⟨a, vs, _, _, h, _⟩ := r; unfold hb; exact Reps.hb_of ds vs h
  | .lst ds, v, r => by obtain ⟨a, vs, _, _, h, _⟩ := r; unfold hb; exact Reps.hb_of ds vs h
  | .ro ds, v, r => by obtain ⟨a, vs, _, _, h, _⟩ := r; unfold hb; exact Reps.hb_of ds vs h
  | .kt ds, v, r => by obtain ⟨a, vs, _, _, h, _⟩ := r; unfold hb; exact Reps.hb_of ds vs h
  | .ins _ _ ds, v, r => by obtain ⟨a, dx, fs, _, _, _, h⟩ := r; unfold hb; exact Reps.hb_of ds _ h
  | .dK _ ds, v, r => by obtain ⟨a, kvs, _, _, _, h, _⟩ := r; unfold hb; exact Reps.hb_of ds _ h
  | .dT _ ds, v, r => by obtain ⟨a, kvs, _, _, _, h, _⟩ := r; unfold hb; exact Reps.hb_of ds _ h
  | .dN _ ds _, v, r => by obtain ⟨a, bs, _, _, h, _⟩ := r; unfold hb; exact Reps.hb_of ds _ h
  | .cl _, _, _ => by unfold hb; rfl
theorem Reps.hb_of : ∀ (ds : List D) (vs : List V), Reps K S as ds vs → hbs as.length ds = true
  | [], _, _ => rfl
  | d :: ds, vs, r => by
    obtain ⟨v, r', _, h1, h2⟩ := r
    unfold hbs
    rw [Rep.hb_of d v h1, Reps.hb_of ds r' h2]; rfl
end
mutual
theorem Rep.cutA {n : Nat} (e : ∀ k : Nat, k < n → as[k]? = as'[k]?) : ∀ (d : D) (v : V), Rep K S as' d v → hb n d = true → Rep K S as d v
  | .v _, _, r, _ => r
  | .h k, v, r, q => by
    obtain ⟨a, h1, h2⟩ := r
    unfold hb at q
    exact ⟨a, by rw [e k (of_decide_eq_true q)]; exact h1, h2⟩
  | .tup ds, v, r, q => by obtain ⟨a, vs, h1, h2, h3, h4⟩ := r; unfold hb at q; exact ⟨a, vs, h1, h2, Reps.cutA e ds vs h3 q, h4⟩
  | .lst ds, v, r, q => by obtain ⟨a, vs, h1, h2, h3, h4⟩ := r; unfold hb at q; exact ⟨a, vs, h1, h2, Reps.cutA e ds vs h3 q, h4⟩
  | .ro ds, v, r, q => by obtain ⟨a, vs, h1, h2, h3, h4⟩ := r; unfold hb at q; exact ⟨a, vs, h1, h2, Reps.cutA e ds vs h3 q, h4⟩
  | .kt ds, v, r, q => by obtain ⟨a, vs, h1, h2, h3, h4⟩ := r; unfold hb at q; exact ⟨a, vs, h1, h2, Reps.cutA e ds vs h3 q, h4⟩
  | .ins _ _ ds, v, r, q => by obtain ⟨a, dx, fs, h1, h2, h3, h4⟩ := r; unfold hb at q; exact ⟨a, dx, fs, h1, h2, h3, Reps.cutA e ds _ h4 q⟩
  | .dK _ ds, v, r, q => by obtain ⟨a, kvs, h1, h2, h3, h4, h5⟩ := r; unfold hb at q; exact ⟨a, kvs, h1, h2, h3, Reps.cutA e ds _ h4 q, h5⟩
  | .dT _ ds, v, r, q => by obtain ⟨a, kvs, h1, h2, h3, h4, h5⟩ := r; unfold hb at q; exact ⟨a, kvs, h1, h2, h3, Reps.cutA e ds _ h4 q, h5⟩
  | .dN _ ds _, v, r, q => by obtain ⟨a, bs, h1, h2, h3, h4⟩ := r; unfold hb at q; exact ⟨a, bs, h1, h2, Reps.cutA e ds _ h3 q, h4⟩
  | .cl _, _, r, _ => r
theorem Reps.cutA {n : Nat} (e : ∀ k : Nat, k < n → as[k]? = as'[k]?) : ∀ (ds : List D) (vs : List V), Reps K S as' ds vs → hbs n ds = true → Reps K S as ds vs
  | [], _, r, _ => r
  | d :: ds, vs, r, q => by
    obtain ⟨v, r', h0, h1, h2⟩ := r
    unfold hbs at q
    rw [Bool.and_eq_true] at q
    exact ⟨v, r', h0, Rep.cutA e d v h1 q.1, Reps.cutA e ds r' h2 q.2⟩
end
theorem ObjR.hbc {a : Addr} {c : D} {ho : HO} (r : ObjR K a (Reps K S as) c ho) : hb as.length c = true := by
  cases c <;> cases ho <;> first | exact r.elim | (obtain ⟨bs, h1, h2⟩ := r; unfold hb; exact Reps.hb_of _ _ h1) | (unfold hb; exact Reps.hb_of _ _ r.1) | (unfold hb; exact Reps.hb_of _ _ r.2.2) | (unfold hb; exact Reps.hb_of _ _ r.2.1)
theorem ObjR.cutA {n : Nat} (e : ∀ k : Nat, k < n → as[k]? = as'[k]?) {a : Addr} {c : D} {ho : HO} (r : ObjR K a (Reps K S as') c ho) (q : hb n c = true) : ObjR K a (Reps K S as) c ho := by
  cases c <;> cases ho <;> first | exact r.elim | (obtain ⟨bs, h1, h2⟩ := r; unfold hb at q; exact ⟨bs, Reps.cutA e _ _ h1 q, h2⟩) | (unfold hb at q; exact ⟨Reps.cutA e _ _ r.1 q, r.2⟩) | (unfold hb at q; exact ⟨r.1, r.2.1, Reps.cutA e _ _ r.2.2 q⟩) | (unfold hb at q; exact ⟨r.1, Reps.cutA e _ _ r.2.1 q, r.2.2⟩)
/-- the cells that stood ahead hold nothing new -/
def CellsOk (M M1 : Mem) : Prop := ∀ k : Nat, k < M.length → M1[k]? = M[k]? ∨ ∃ c, M1[k]? = some c ∧ hb M.length c = true
inductive Mode where
  | keep
  | own
  | frz
  | dfr
/-- data with the handles from n on resolved -/
def meltL (g : D → Option D) : List D → Option (List D)
  | [] => some []
  | d :: ds => match g d with
    | some e => match meltL g ds with
      | some es => some (e :: es)
      | none => none
    | none => none
def melt (n : Nat) (M1 : Mem) : Nat → D → Option D
  | 0, _ => none
  | f + 1, d => if hb n d = true then some d else match d with
    | .h k => match M1[k]? with
      | some c => melt n M1 f c
      | none => none
    | .tup ds => match meltL (melt n M1 f) ds with
      | some es => some (.tup es)
      | none => none
    | .lst ds => match meltL (melt n M1 f) ds with
      | some es => some (.lst es)
      | none => none
    | _ => none
open Classical in
noncomputable def finVal (M M1 : Mem) (d : D) : Out D := if CellsOk M M1 ∧ hb M.length d = true then .ok d (M1.take M.length) else .stuck
open Classical in
noncomputable def finish (md : Mode) (M M1 : Mem) (d : D) : Out D := match md with
  | .keep => .ok d M1
  | .dfr => match melt M.length M1 8 d with
    | some d' => if CellsOk M M1 then .ok d' (M1.take M.length) else .stuck
    | none => .stuck
  | .own => match d with
    | .h k => if k < M.length then finVal M M1 (.h k) else match M1[k]? with
      | some c => if CellsOk M M1 ∧ hb M.length c = true then .ok (.h M.length) (M1.take M.length ++ [c]) else .stuck
      | none => .stuck
    | d => finVal M M1 d
  | .frz => match d with
    | .h k => if k < M.length then finVal M M1 (.h k) else match M1[k]? with
      | some c => if CellsOk M M1 ∧ hb M.length c = true then .ok c (M1.take M.length) else .stuck
      | none => .stuck
    | d => finVal M M1 d
theorem Pre.eqA (p : Pre as as') : ∀ k : Nat, k < as.length → as[k]? = as'[k]? := fun k hk => by
  have h := List.getElem?_eq_getElem hk
  rw [h, p k _ h]
theorem St.cutM (st : St K S as M H) (x : Ext S as H S1 as' H1) (st1 : St K S1 as' M1 H1) (ok : CellsOk M M1) : St K S1 as (M1.take M.length) H1 ∧ Ext S as H S1 as H1 := by
  have hl : M.length ≤ M1.length := by
    have h1 := st.len
    have h2 := st1.len
    rw [← h1, ← h2]
    by_cases h : as.length ≤ as'.length
    · exact h
    · have h3 : as'.length < as.length := by omega
      have h4 := x.pre as'.length _ (List.getElem?_eq_getElem h3)
      rw [List.getElem?_eq_none (Nat.le_refl _)] at h4
      cases h4
  refine ⟨⟨st1.ex, by rw [List.length_take, st.len]; omega, st.nd, fun k c a h1 h2 => ?_⟩, x.same, Pre.refl _, fun a o h na => ?_⟩
  · have hk : k < M.length := by
      have := (List.getElem?_eq_some_iff.mp h1).1
      rw [List.length_take] at this
      omega
    rw [List.getElem?_take_of_lt hk] at h1
    obtain ⟨s0, ho, e, r⟩ := st1.cell k c a h1 (x.pre k a h2)
    refine ⟨s0, ho, e, ObjR.cutA (n := as.length) (fun j hj => x.pre.eqA j hj) r ?_⟩
    rw [st.len]
    rcases ok k hk with q | ⟨c', q, hq⟩
    · rw [h1] at q
      obtain ⟨_, ho', e', r'⟩ := st.cell k c a q.symm h2
      have := r'.hbc
      rw [st.len] at this
      exact this
    · rw [h1] at q
      cases q
      exact hq
  · obtain ⟨h1, h2, h3⟩ := x.fr a o h na
    exact ⟨h1, na, h3⟩
theorem finVal_ok {d d' : D} {v : V} {M2 : Mem} (st : St K S as M H) (x : Ext S as H S1 as' H1) (st1 : St K S1 as' M1 H1) (r : Rep K S1 as' d v) (h : finVal M M1 d = .ok d' M2) : ∃ S2 as2, Ext S as H S2 as2 H1 ∧ St K S2 as2 M2 H1 ∧ Rep K S2 as2 d' v := by
  unfold finVal at h
  split at h
  · rename_i hc
    cases h
    obtain ⟨s2, x2⟩ := st.cutM x st1 hc.1
    exact ⟨S1, as, x2, s2, Rep.cutA (n := as.length) (fun j hj => x.pre.eqA j hj) _ _ r (by rw [st.len]; exact hc.2)⟩
  · cases h
theorem ObjR.rep {c : D} {ho : HO} {a : Addr} (r : ObjR K a (Reps K S as) c ho) (h : S a = some ho) : Rep K S as c (.ref a) := by
  cases c <;> cases ho <;> first | exact r.elim | (obtain ⟨bs, h1, h2, h3⟩ := r; subst h2; exact ⟨a, bs, rfl, h, h1, h3⟩) | exact ⟨a, _, rfl, h, r.1, r.2⟩ | exact ⟨a, _, rfl, SqT.of h, r.1, r.2⟩ | (obtain ⟨r1, r2, r3⟩ := r; subst r1; exact ⟨a, _, _, rfl, h, r2, r3⟩) | exact ⟨a, _, rfl, h, r.1, r.2⟩
/-- the new cells become values -/
theorem St.all (st1 : St K S1 as' M1 H1) (x : Pre as as') (hl : as'.length = M1.length) : ∃ S', Same S1 S' ∧ Same S' H1 ∧ (∀ a ∈ as, S' a = none ∨ a ∉ as') ∧ (∀ a, a ∉ as' → S' a = S1 a) ∧ (∀ a ∈ as, a ∈ as' → S' a = S1 a) ∧ ∀ a, a ∈ as' → a ∉ as → S' a = H1 a := by
  classical
  have free : ∀ a ∈ as', S1 a = none := fun a ha => by
    obtain ⟨k, hk⟩ := List.getElem?_of_mem ha
    have hk' : k < M1.length := by rw [← hl]; exact (List.getElem?_eq_some_iff.mp hk).1
    exact (st1.cell k _ a (List.getElem?_eq_getElem hk') hk).1
  refine ⟨fun a => if a ∈ as' ∧ a ∉ as then H1 a else S1 a, fun a o h => ?_, fun a o h => ?_, fun a ha => ?_, fun a ha => ?_, fun a ha ha' => ?_, fun a ha hn => ?_⟩
  · show (if a ∈ as' ∧ a ∉ as then H1 a else S1 a) = some o
    rw [if_neg (fun z => by rw [free a z.1] at h; cases h)]; exact h
  · have h : (if a ∈ as' ∧ a ∉ as then H1 a else S1 a) = some o := h
    split at h
    · exact h
    · exact st1.ex a o h
  · by_cases h : a ∈ as'
    · left
      show (if a ∈ as' ∧ a ∉ as then H1 a else S1 a) = none
      rw [if_neg (fun z => z.2 ha)]; exact free a h
    · exact .inr h
  · show (if a ∈ as' ∧ a ∉ as then H1 a else S1 a) = S1 a
    rw [if_neg (fun z => ha z.1)]
  · show (if a ∈ as' ∧ a ∉ as then H1 a else S1 a) = S1 a
    rw [if_neg (fun z => z.2 ha)]
  · show (if a ∈ as' ∧ a ∉ as then H1 a else S1 a) = H1 a
    rw [if_pos ⟨ha, hn⟩]
theorem melt_ok {S' : Hp} (st1 : St K S1 as' M1 H1) (x : Pre as as') (hn : as.length = M.length) (e1 : Same S1 S') (e3 : ∀ a, a ∈ as' → a ∉ as → S' a = H1 a) : ∀ (f : Nat),
    (∀ d v d', Rep K S1 as' d v → melt M.length M1 f d = some d' → Rep K S' as d' v) ∧ ∀ c ho a c', ObjR K a (Reps K S1 as') c ho → S' a = some ho → melt M.length M1 f c = some c' → Rep K S' as c' (.ref a)
  | 0 => ⟨fun d v d' _ h => by simp [melt] at h, fun c ho a c' _ _ h => by simp [melt] at h⟩
  | f + 1 => by
    obtain ⟨ih1, ih2⟩ := melt_ok st1 x hn e1 e3 f
    have lists : ∀ (ds : List D) (vs : List V) (es : List D), Reps K S1 as' ds vs → meltL (melt M.length M1 f) ds = some es → Reps K S' as es vs ∧ es.length = ds.length := by
      intro ds
      induction ds with
      | nil =>
        intro vs es r h
        have r : vs = [] := r
        subst r
        simp [meltL] at h
        subst h
        exact ⟨Reps.nil, rfl⟩
      | cons d ds ih =>
        intro vs es r h
        obtain ⟨v, r', h1, h2, h3⟩ := r
        subst h1
        unfold meltL at h
        split at h
        · rename_i e he
          split at h
          · rename_i es' hes
            cases h
            obtain ⟨q1, q2⟩ := ih _ _ h3 hes
            exact ⟨Reps.cons (ih1 _ _ _ h2 he) q1, by simp [q2]⟩
          · cases h
        · cases h
    have cut : ∀ (d : D) (v : V), hb M.length d = true → Rep K S1 as' d v → Rep K S' as d v := fun d v hb r => by
      have := Rep.cutA (n := as.length) (fun j hj => x.eqA j hj) d v r (by rw [hn]; exact hb)
      exact Rep.mono e1 (Pre.refl _) d v this
    have cutC : ∀ (c : D) (ho : HO) (a : Addr), hb M.length c = true → ObjR K a (Reps K S1 as') c ho → S' a = some ho → Rep K S' as c (.ref a) := fun c ho a hb r h => by
      have := ObjR.cutA (n := as.length) (fun j hj => x.eqA j hj) r (by rw [hn]; exact hb)
      exact (this.mono fun ds vs q => Reps.mono e1 (Pre.refl _) ds vs q).rep h
    refine ⟨fun d v d' r h => ?_, fun c ho a c' r hS h => ?_⟩
    · unfold melt at h
      split at h
      · rename_i hb
        cases h
        exact cut _ _ hb r
      · rename_i hnb
        split at h
        · rename_i k
          obtain ⟨a, h1, h2⟩ := r
          have hk : ¬ k < M.length := fun z => hnb (by unfold hb; exact decide_eq_true z)
          split at h
          · rename_i c hc
            obtain ⟨s0, ho, eh, ro⟩ := st1.cell k c a hc h1
            have na : a ∉ as := fun hm => by
              obtain ⟨j, hj⟩ := List.getElem?_of_mem hm
              have hj2 := x j a hj
              have : j = k := nodup_ixA st1.nd hj2 h1
              subst this
              have := (List.getElem?_eq_some_iff.mp hj).1
              rw [hn] at this
              exact hk this
            subst h2
            exact ih2 c ho a d' ro (by rw [e3 a (List.mem_of_getElem? h1) na]; exact eh) h
          · cases h
        · split at h
          · rename_i es hes
            cases h
            obtain ⟨a, vs, h1, h2, h3, h4⟩ := r
            obtain ⟨q1, q2⟩ := lists _ _ _ h3 hes
            exact ⟨a, vs, h1, e1 _ _ h2, q1, by rw [q2]; exact h4⟩
          · cases h
        · split at h
          · rename_i es hes
            cases h
            obtain ⟨a, vs, h1, h2, h3, h4⟩ := r
            obtain ⟨q1, q2⟩ := lists _ _ _ h3 hes
            exact ⟨a, vs, h1, e1 _ _ h2, q1, by rw [q2]; exact h4⟩
          · cases h
        · cases h
    · unfold melt at h
      split at h
      · rename_i hb
        cases h
        exact cutC _ _ _ hb r hS
      · split at h
        · cases ho <;> exact r.elim
        · split at h
          · rename_i es hes
            cases h
            cases ho with
            | tup vs =>
              obtain ⟨q1, q2⟩ := lists _ _ _ r.1 hes
              exact ⟨a, vs, rfl, hS, q1, by rw [q2]; exact r.2⟩
            | _ => exact r.elim
          · cases h
        · split at h
          · rename_i es hes
            cases h
            cases ho with
            | lst vs =>
              obtain ⟨q1, q2⟩ := lists _ _ _ r.1 hes
              exact ⟨a, vs, rfl, hS, q1, by rw [q2]; exact r.2⟩
            | _ => exact r.elim
          · cases h
        · cases h
theorem finish_ok {md : Mode} {d d' : D} {v : V} {M2 : Mem} (st : St K S as M H) (x : Ext S as H S1 as' H1) (st1 : St K S1 as' M1 H1) (r : Rep K S1 as' d v) (h : finish md M M1 d = .ok d' M2) : ∃ S2 as2, Ext S as H S2 as2 H1 ∧ St K S2 as2 M2 H1 ∧ Rep K S2 as2 d' v := by
  have other : ∀ {k : Nat} {c : D}, ¬ k < M.length → M1[k]? = some c → CellsOk M M1 ∧ hb M.length c = true → Rep K S1 as' (.h k) v → ∃ a ho, v = .ref a ∧ a ∉ as ∧ S1 a = none ∧ H1 a = some ho ∧ H a = none ∧ ObjR K a (Reps K S1 as) c ho := fun {k c} hk hc hok r => by
    obtain ⟨a, h1, h2⟩ := r
    obtain ⟨s0, ho, e, ro⟩ := st1.cell k c a hc h1
    have na : a ∉ as := fun hm => by
      obtain ⟨j, hj⟩ := List.getElem?_of_mem hm
      have hj2 := x.pre j a hj
      have : j = k := nodup_ixA st1.nd hj2 h1
      subst this
      have := (List.getElem?_eq_some_iff.mp hj).1
      rw [st.len] at this
      exact hk this
    refine ⟨a, ho, h2, na, s0, e, ?_, ObjR.cutA (n := as.length) (fun j hj => x.pre.eqA j hj) ro (by rw [st.len]; exact hok.2)⟩
    cases hH : H a with
    | none => rfl
    | some o =>
      exact absurd (List.mem_of_getElem? h1) (x.fr a o hH na).2.1
  cases md with
  | keep => cases h; exact ⟨S1, as', x, st1, r⟩
  | dfr =>
    unfold finish at h
    simp only at h
    split at h
    · rename_i e he
      split at h
      · rename_i hok
        cases h
        obtain ⟨s2, x2⟩ := st.cutM x st1 hok
        obtain ⟨S', a1, a2, a3, a4, a5, a6⟩ := St.all (as := as) st1 x.pre st1.len
        have sub : ∀ a ∈ as, a ∈ as' := fun a ha => by
          obtain ⟨j, hj⟩ := List.getElem?_of_mem ha
          exact List.mem_of_getElem? (x.pre j a hj)
        refine ⟨S', as, ⟨x.same.trans a1, Pre.refl _, fun a o hh na => ?_⟩, ⟨a2, s2.len, s2.nd, fun k c a h1 h2 => ?_⟩, (melt_ok (M := M) st1 x.pre st.len a1 a6 8).1 _ _ _ r he⟩
        · obtain ⟨q1, q2, q3⟩ := x.fr a o hh na
          exact ⟨q1, na, fun z => by rw [a4 a q2]; exact q3 z⟩
        · obtain ⟨s0, ho, eh, ro⟩ := s2.cell k c a h1 h2
          have hm := List.mem_of_getElem? h2
          exact ⟨by rw [a5 a hm (sub a hm)]; exact s0, ho, eh, ro.mono fun ds vs q => Reps.mono a1 (Pre.refl _) ds vs q⟩
      · cases h
    · cases h
  | own =>
    unfold finish at h
    cases d with
    | h k =>
      simp only at h
      split at h
      · exact finVal_ok st x st1 r h
      · rename_i hk
        split at h
        · rename_i c hc
          split at h
          · rename_i hok
            cases h
            obtain ⟨a, ho, h1, h2, h3, h4, h5, h6⟩ := other hk hc hok r
            obtain ⟨s2, x2⟩ := st.cutM x st1 hok.1
            refine ⟨S1, as ++ [a], x2.adopt h5, s2.adopt h2 h3 h4 h6, a, ?_, h1⟩
            rw [← st.len]; simp
          · cases h
        · cases h
    | _ => exact finVal_ok st x st1 r h
  | frz =>
    unfold finish at h
    cases d with
    | h k =>
      simp only at h
      split at h
      · exact finVal_ok st x st1 r h
      · rename_i hk
        split at h
        · rename_i c hc
          split at h
          · rename_i hok
            cases h
            obtain ⟨a, ho, h1, h2, h3, h4, h5, h6⟩ := other hk hc hok r
            obtain ⟨s2, x2⟩ := st.cutM x st1 hok.1
            subst h1
            exact ⟨upd S1 a ho, as, x2.take h5 h3, s2.take h2 h3 h4, (h6.mono fun ds vs q => Reps.mono (Evl.Ex.new h3) (Pre.refl _) ds vs q).rep upd_same⟩
          · cases h
        · cases h
    | _ => exact finVal_ok st x st1 r h
end
/-! ### defs -/
def FinF (K : PySem.W.Frag) (S : Hp) (as : List Addr) (H : Hp) (o : Out D) (Q : VK) (E : XK) : Prop := match o with
  | .ok d M' => ∀ S' as' v H', Ext S as H S' as' H' → St K S' as' M' H' → Rep K S' as' d v → Q v H'
  | .er x M' => ∀ S' as' H' dd, Ext S as H S' as' H' → St K S' as' M' H' → ErOk K S' as' H' x dd → E x.cls dd H'
  | .stuck => False
/-- the def of n parameters, N names, body f, as a function of data -/
noncomputable def runF (md : Mode) (n N : Nat) (f : Cs) : List D → C D := fun ds M => if ds.length = n then (match f (ds.map some ++ List.replicate (N - n) none) M with
  | .nx _ M1 => finish md M M1 (.v .non)
  | .rt d M1 => finish md M M1 d
  | .er x _ M1 => .er x M1
  | _ => .stuck) else .stuck
def spOf (K : PySem.W.Frag) (n : Nat) (F : List D → C D) : Sp := fun vs H Q E => ∃ S as M ds, St K S as M H ∧ Reps K S as ds vs ∧ ds.length = n ∧ FinF K S as H (F ds M) Q E
theorem FinF.pre {K : PySem.W.Frag} {S S0 : Hp} {as as0 : List Addr} {H H0 : Hp} {o : Out D} {Q : VK} {E : XK} (e : Ext S0 as0 H0 S as H) (h : FinF K S0 as0 H0 o Q E) : FinF K S as H o Q E := by
  cases o with
  | ok d M' => exact fun S' as' v H' e' => h S' as' v H' (e.trans e')
  | er x M' => exact fun S' as' H' dd e' => h S' as' H' dd (e.trans e')
  | stuck => exact h
theorem reps_env {K : PySem.W.Frag} {S : Hp} {as : List Addr} {ds : List D} {vs : List V} (r : Reps K S as ds vs) (k : Nat) : EnvOk K S as (vs.map some ++ List.replicate k none) (ds.map some ++ List.replicate k none) := by
  have hl := r.length
  refine ⟨by simp [hl], fun i d h => ?_⟩
  by_cases hi : i < ds.length
  · rw [List.getElem?_append_left (by simpa using hi), List.getElem?_map] at h
    cases e : ds[i]? with
    | none => rw [e] at h; cases h
    | some d' =>
      rw [e] at h
      have h : some (some d') = some (some d) := h
      cases h
      obtain ⟨v, h1, h2⟩ := r.get e
      exact ⟨v, by rw [List.getElem?_append_left (by simp; omega), List.getElem?_map, h1]; rfl, h2⟩
  · rw [List.getElem?_append_right (by simpa using hi), List.getElem?_replicate] at h
    split at h <;> cases h
theorem fn_body {P : Program} {w : World} {K : PySem.W.Frag} {mg : Str → Option Value} {base : Heap} {x qual : Str} {st : Stmt} {f : Addr} {fd : FuncData} {N ps : List Str} {k : Nat} (md : Mode) {body : Cs} (F : Fun K x qual st f fd) (sc : FnScope N ps (defScope st))
    (h : ∀ (cdv : Value) (A : Around) (outer : List PySem.Env) (s : Shared) (H : Hp) (E : XK), Room k (A.deeper (envOfC qual (defScope st) s.heap.objs.size f cdv)) → SDs (cxOf (L2.CX P w) P w K mg base N qual (defScope st) f cdv A outer s H E) (fun cls d _ H => E cls d H) (defBody st) body) :
    FnOk P w K mg base (L2.CX P w) (k + 1) f fd ps (spOf K ps.length (runF md ps.length N.length body)) := by
  refine F.okX sc (fun vs H Q E q => ?_) fun cdv A outer s H vs Q E hr q => ⟨_, h cdv A outer s H E hr, ?_⟩
  · obtain ⟨S, as, M, ds, _, r, hl, _⟩ := q
    rw [← r.length, hl]
  · obtain ⟨S, as, M, ds, st0, r, hl, fin⟩ := q
    have hvl := r.length
    refine ⟨S, as, M, ds.map some ++ List.replicate (N.length - ps.length) none, st0, ?_, ?_⟩
    · unfold L2.start
      rw [← hvl, hl]
      exact reps_env r _
    · unfold runF at fin
      rw [if_pos hl] at fin
      cases eb : body (ds.map some ++ List.replicate (N.length - ps.length) none) M with
      | nx ρ1 M1 =>
        simp only [eb] at fin
        intro S1 as1 σ1 H1 x1 st1 env1
        cases ef : finish md M M1 (.v .non) with
        | ok d' M2 =>
          rw [ef] at fin
          obtain ⟨S2, as2, x2, st2, r2⟩ := finish_ok (d := .v .non) (v := .non) st0 x1 st1 ⟨rfl, rfl⟩ ef
          exact fin S2 as2 .non H1 x2 st2 r2
        | er y M2 =>
          exfalso
          cases md <;> simp [finish, finVal] at ef <;> (repeat' (split at ef)) <;> cases ef
        | stuck => rw [ef] at fin; exact fin.elim
      | rt d M1 =>
        simp only [eb] at fin
        intro S1 as1 v H1 x1 st1 rv
        cases ef : finish md M M1 d with
        | ok d' M2 =>
          rw [ef] at fin
          obtain ⟨S2, as2, x2, st2, r2⟩ := finish_ok st0 x1 st1 rv ef
          exact fin S2 as2 v H1 x2 st2 r2
        | er y M2 =>
          exfalso
          unfold finish finVal at ef
          cases md <;> cases d <;> simp only at ef <;> (repeat' (split at ef)) <;> cases ef
        | stuck => rw [ef] at fin; exact fin.elim
      | er y ρ1 M1 =>
        simp only [eb] at fin
        intro S1 as1 σ1 H1 dd x1 st1 env1 eo
        exact fin S1 as1 H1 dd x1 st1 eo
      | bk ρ1 M1 => simp only [eb] at fin; exact fin.elim
      | ct ρ1 M1 => simp only [eb] at fin; exact fin.elim
      | stuck => simp only [eb] at fin; exact fin.elim
section
variable {X : Cx} {W : WX} {pos : Pos} {e : Expr} {es : List Expr} {fs : Env → C (List D)} {p : Pos} {x : Str} {n : Nat} {md : Mode} {N : Nat} {body : Cs}
/-- a call of a def -/
theorem pd_call {k : Nat} {f : Addr} {fd : FuncData} {ps : List Str} (tk : Takes X W) (G : FnOk X.prog X.w X.K X.mg X.base (L2.CX X.prog X.w) k f fd ps (spOf X.K n (runF md n N body))) (hr : Room k X.A) (hm : X.mg x = some (.ref f)) (hk : PySem.W.keepIn X.K (.ref f) = true) (hb : Binds X.K fd ps []) (ha : PDs X W (e :: es) fs)
    (hg : Gl X x := by rfl) (hdb : (x == ("__debug__" : Str)) = false := by decide) (hs : starEach (e :: es) X.env = (false, eval e X.env) :: starEach es X.env := by rfl) (hpl : (backTo pos (starEach es X.env)).any (·.1) = false := by rfl) : PD X W (.Call (.Name x p) (e :: es) [] pos) (eN (runF md n N body) fs) :=
  (pe_callS G hr hg hm hk hb (fun σ => passAt tk σ) ha hdb hs hpl).up fun σ H Q h => by
    obtain ⟨S, as, M, ρ, st, env, fin⟩ := h
    refine ⟨S, as, M, ρ, st, env, Fin.bind (g := runF md n N body) fin env fun S1 as1 M1 xs vs H1 e1 st1 env1 rx fin1 => ?_⟩
    have hl : xs.length = n := by
      by_cases h : xs.length = n
      · exact h
      · unfold runF at fin1
        rw [if_neg h] at fin1
        exact fin1.elim
    refine ⟨S1, as1, M1, xs, st1, rx, hl, ?_⟩
    cases ef : runF md n N body xs M1 with
    | ok d M2 => rw [ef] at fin1; exact fin1
    | er y M2 =>
      rw [ef] at fin1
      exact fun S' as' H' dd x' s' eo => fin1 S' as' H' dd x' s' (env1.mono x'.same x'.pre) eo
    | stuck => rw [ef] at fin1; exact fin1.elim
end
/-! ### the law's own call -/
theorem sp_law {K : PySem.W.Frag} {H : Hp} {a : Addr} {ns : List Int} {F : List D → C D} (hl : ns.length ≤ 63) (hS : SqL K H a (ns.map V.int)) (h : ∃ M, F [.ro (ns.map fun i => .v (.int i))] [] = .ok (.v (.bl true)) M) : spOf K 1 F [.ref a] H (fun v _ => v = .bl true) (fun _ _ _ => False) := by
  obtain ⟨M, h⟩ := h
  have rs : ∀ ns : List Int, Reps K H [] (ns.map fun i => D.v (.int i)) (ns.map V.int) := by
    intro ns
    induction ns with
    | nil => rfl
    | cons i r ih => exact Reps.cons ⟨rfl, rfl⟩ ih
  refine ⟨H, [], [], [.ro (ns.map fun i => .v (.int i))], ⟨Same.refl _, rfl, List.nodup_nil, fun k c a h _ => by simp at h⟩, Reps.cons ⟨a, _, rfl, hS, rs ns, by rw [List.length_map, sizeLine_eq]; omega⟩ Reps.nil, rfl, ?_⟩
  rw [h]
  intro S' as' v H' _ _ r
  exact r.1
end DL
set_option Elab.async false
set_option maxRecDepth 100000
set_option maxHeartbeats 2000000
namespace DL
open PySem PySem.Spec PyProof.Rows L2
theorem hu65 {A : Around} {k : Nat} (hr : Room k A) : A.units + 65 < cLine := by
  have := hr.un
  omega
theorem tk_of {P : Program} {w : World} {K : PySem.W.Frag} {mg : Str → Option Value} {base : Heap} {N : List Str} {qual : Str} {sc : Scope} {f : Addr} {cdv : Value} {A : Around} {outer : List PySem.Env} {s : Shared} {H : Hp} {E : XK} :
    Takes (cxOf (L2.CX P w) P w K mg base N qual sc f cdv A outer s H E) (fun cls d _ H => E cls d H) := takes_of rfl rfl rfl rfl
theorem cx_false {P : Program} {w : World} {l : List PySem.Env} {H : Hp} {s : Shared} {e : Value} {s' : Shared} (h : L2.CX P w l H s (fun _ _ _ => False) e s') : False := by
  obtain ⟨_, _, _, _, _, _, _, _, _, _, _, _, z⟩ := h
  exact z.elim
end DL
set_option Elab.async false
set_option maxRecDepth 100000
set_option maxHeartbeats 4000000
namespace DL
open PySem PySem.Calls PySem.W PySem.Spec PyProof.Rows PyProof.V L2 RT
section
variable {prog : Program} {w : World} {A : Around} {E : Value → Shared → Prop} {s : Shared}
theorem rv_extend {R : Result → Shared → Prop} {it l S : Addr} {items : Array Value} {c₀ : Nat} (hh : A.handled = none) (hit : s.heap.IsRevIter it l ((items.size : Int) - 1)) (hl : s.heap.IsList l items) (hne : l ≠ it) (hn : items.size ≤ sizeLine)
    (hSi : S ≠ it) (hSl : S ≠ l) (hS : s.heap.get? S = some { cls := .type "list", data := .seq #[] c₀ })
    (hR : ∀ h' tk acc' c', (∀ b o, b ≠ S → b ≠ it → s.heap.get? b = some o → h'.get? b = some o) → h'.get? S = some { cls := .type "list", dict := none, data := .seq acc' c', slots := #[] } → ItemsOf (fun i v => items[items.size - 1 - i]? = some v) acc' items.size → R (.ok (.ret .none)) { s with heap := h', toks := tk }) :
    wpAny (model prog w) A.in1 (Builtin.List.listExtendWith (.ref S) (.ref it) .none)
      (fun fin s' => match fin with | .done f => R (.ok f) s' | .again c' => c'.quiet = true ∧ codeAny (model prog w) A c' R s') (fun e s' => R (.error e) s') s := by
  have W := (Walks.listRev (prog := prog) (w := w) (A := A.in1) hh it l hne items).toS
  have hSf : S ∉ [it, l] := by simp only [List.mem_cons, List.not_mem_nil, or_false, not_or]; exact ⟨hSi, hSl⟩
  have hT : s.TypeIs (.ref it) "list_reverseiterator" := Heap.IsRevIter.typeIs hit
  have h1 : Builtin.List.listSameRef (.ref S) (.ref it) = false := by simp [Builtin.List.listSameRef, hSi]
  unfold Builtin.List.listExtendWith
  refine wpAny_bind (wpAny_typeOf hT ?_)
  rw [if_neg (by rw [h1]; decide)]
  refine wpAny_bind (wpAny_pyIter_revIter hit ?_)
  refine wpAny_bind (wpAny_holding ?_)
  unfold Builtin.List.listLengthHint
  refine wpAny_bind (wpAny_specialOf hT nolen_lri ?_)
  show wpAny _ A.in1 (specialOf (Value.ref it) (Str.ofString "__length_hint__") >>= _) _ _ _
  refine wpAny_bind (wpAny_specialOf hT hint_lri ?_)
  generalize hid : ("list_reverseiterator.__length_hint__" : String) = id0
  wp_delta
  rw [show splitId id0 = some ("list_reverseiterator", "__length_hint__") from by subst hid; decide +kernel]
  subst hid
  refine wpAny_bind (wpAny_isInstance (b := true) hT (by rw [isSubtype_type]; kernel_rfl) ?_)
  refine wpAny_pure ?_
  rw [if_neg (by decide)]
  have e0 : ((items.size : Nat) : Int) - 1 - ((0 : Nat) : Int) = (items.size : Int) - 1 := by omega
  refine wpAny_pure ⟨plainId_quiet F.plain_extend_loop _, codeAny_extend_loopS W hn _ hSf _ items.size 0 _ _ _ rfl (Nat.zero_le _) ⟨Nat.zero_le _, by rw [e0]; exact hit, hl⟩ hS (ItemsOf.nil _) fun s' acc' c' hm hS' hacc => ?_⟩
  rw [Moved.eq_with hm]
  refine hR s'.heap s'.toks acc' c' (fun b o hb hbi e => hm.heap b o (fun hmem => ?_) e) hS' hacc
  rcases List.mem_cons.mp hmem with e' | hmem
  · exact hb e'
  · exact hbi (List.mem_singleton.mp hmem)
theorem call_list_rev {it l : Addr} {items : Array Value} {Q : Value → Shared → Prop} (hh : A.handled = none) (hit : s.heap.IsRevIter it l ((items.size : Int) - 1)) (hl : s.heap.IsList l items) (hne : l ≠ it) (hn : items.size ≤ sizeLine)
    (hQ : ∀ h' tk acc' c', (∀ b o, b ≠ it → s.heap.get? b = some o → h'.get? b = some o) → h'.get? s.heap.objs.size = some { cls := .type "list", dict := none, data := .seq acc' c', slots := #[] } → ItemsOf (fun i v => items[items.size - 1 - i]? = some v) acc' items.size → Q (.ref s.heap.objs.size) { s with heap := h', toks := tk }) :
    wpAny (model prog w) A (call (.type "list") [.ref it]) Q E s := by
  refine callType_codes (Q₁ := fun obj s₁ => obj = .ref s.heap.objs.size ∧ s₁ = { s with heap := s.heap.push { cls := .type "list", data := .seq #[] } }) PySem.F.called_list (PySem.F.typeCall_list_1 _) PySem.F.entry_list_init
    (code_list_new _ ⟨rfl, rfl⟩) fun obj s₁ h₁ => ?_
  obtain ⟨rfl, rfl⟩ := h₁
  obtain ⟨oi, hoi, _⟩ := id hit
  obtain ⟨ol, hol, _⟩ := id hl
  have hSi : s.heap.objs.size ≠ it := Nat.ne_of_gt (Heap.lt_size hoi)
  have hSl : s.heap.objs.size ≠ l := Nat.ne_of_gt (Heap.lt_size hol)
  have hS : (s.heap.push { cls := .type "list", data := .seq #[] }).get? s.heap.objs.size = some { cls := .type "list", data := .seq #[] } := Heap.get?_push_size _ rfl
  refine ⟨⟨_, hS, rfl⟩, PySem.F.args_list_init_2 _ _, ?_⟩
  show wpAny _ _ (do let old ← Builtin.List.listItems (.ref s.heap.objs.size); Builtin.List.listUpdate (.ref s.heap.objs.size) (fun _ => #[]); letGo old.toList.reverse; Builtin.List.listExtendWith (.ref s.heap.objs.size) (.ref it) .none) _ _ _
  refine wpAny_bind ?_
  unfold Builtin.List.listItems
  refine wpAny_bind (wpAny_seqItems hS rfl (wpAny_pure ?_))
  show wpAny _ _ (updateSeq s.heap.objs.size (fun _ => #[]) >>= fun _ => letGo (#[] : Array Value).toList.reverse >>= fun _ => Builtin.List.listExtendWith (.ref s.heap.objs.size) (.ref it) .none) _ _ _
  refine wpAny_bind (wpAny_updateSeq hS rfl ?_)
  have hS₂ := Heap.get?_update_self (Obj.mapSeq (fun _ => (#[] : Array Value))) hS rfl
  have oth : ∀ b o, b ≠ s.heap.objs.size → s.heap.get? b = some o → ((s.heap.push { cls := .type "list", data := .seq #[] }).update s.heap.objs.size (Obj.mapSeq (fun _ => (#[] : Array Value)))).get? b = some o :=
    fun b o hb e => (Heap.get?_update_other _ _ (Ne.symm hb)).trans (Heap.get?_push_of_some _ e)
  refine wpAny_bind (wpAny_letGo ?_)
  refine rv_extend (A := A.in1) hh (hit.at fun o e => oth it o hSi.symm e) ?_ hne hn hSi hSl hS₂ fun h' tk acc' c' hk hS' hacc => ?_
  · obtain ⟨o, ho, r⟩ := hl
    exact ⟨o, oth l o hSl.symm ho, r⟩
  · exact ⟨rfl, hQ h' tk acc' c' (fun b o hb e => hk b o (Nat.ne_of_lt (Heap.lt_size e)) hb (oth b o (Nat.ne_of_lt (Heap.lt_size e)) e)) hS' hacc⟩
end
def tLstRev (K : PySem.W.Frag) (te : TE) : TE := fun σ H Q => te σ H fun v H1 => ∃ (a : Addr) (xs : List V), v = .ref a ∧ SqL K H1 a xs ∧ ∀ q, H1 q = none → Q (.ref q) (upd H1 q (.lst xs.reverse))
theorem pe_lstRev {X : Cx} {e : Expr} {te : TE} {p p2 pos pos2 : Pos} (hc : X.calm = true) (hg : Gl X "list") (hm : X.mg "list" = none) (hg2 : Gl X "reversed") (hm2 : X.mg "reversed" = none) (he : PE X e te)
    (hs : starEach [e] X.env = (false, eval e X.env) :: starEach [] X.env := by rfl)
    (hs2 : starEach [.Call (.Name "reversed" p2) [e] [] pos2] X.env = (false, eval (.Call (.Name "reversed" p2) [e] [] pos2) X.env) :: starEach [] X.env := by rfl) :
    PE X (.Call (.Name "list" p) [.Call (.Name "reversed" p2) [e] [] pos2] [] pos) (tLstRev X.K te) := by
  refine ⟨fun pins s σ H Q I h => ?_⟩
  refine Call_ (ld_blt I hg hm boot_list (PyProof.Rows.callWith_type1 (args_cons (Call_ (ld_blt I hg2 hm2 PyProof.Rows.boot_reversed (PyProof.Rows.callWith_type1 (args_cons (thn (he.run pins s σ H _ I h) fun u s1 ⟨v, H1, I1, r1, q1⟩ => args_nil ?_) hs) hs rfl))) hs2) hs2 rfl))
  obtain ⟨a, xs, ev, hq, q⟩ := q1
  subst ev
  obtain rfl : u = Value.ref a := r1
  obtain ⟨its, rv, p', hz⟩ := I1.list hq
  refine call_reversed_list p'.isList (args_nil ?_)
  have k0 : ∀ b o, s1.heap.get? b = some o → (s1.heap.push (revObj a ((its.toArray.size : Int) - 1))).get? b = some o := fun b o e => Heap.get?_push_of_some _ e
  have I2 : Inv X pins σ H1 { s1 with heap := s1.heap.push (revObj a ((its.toArray.size : Int) - 1)) } := I1.kept (t' := s1.toks) k0
  obtain ⟨f0, f1, f2, f3, f4, f5⟩ := I1.fpOk (H' := H1) (b := s1.heap.objs.size) (Nat.le_refl _) (I1.hok.fresh (Nat.le_refl _))
  have hl := p'.isList
  obtain ⟨ol, hol, _⟩ := id hl
  have hne : a ≠ s1.heap.objs.size := Nat.ne_of_lt (Heap.lt_size hol)
  have hn : its.toArray.size ≤ sizeLine := by rw [List.size_toArray, ← rv.length]; exact hz
  refine call_list_rev (s := { s1 with heap := s1.heap.push (revObj a ((its.toArray.size : Int) - 1)) }) (I1.ok.hd hc) ⟨_, Heap.get?_push_size _ rfl, rfl, rfl⟩ (hl.push _) hne hn fun h' tk acc c' hk hS hi => ?_
  have I3 : Inv X pins σ H1 { s1 with heap := h', toks := tk } := I2.turned (t' := tk) (fun b o hb e => hk b o hb e) f0 f1 f3 f4 f5
  have hfresh : H1 (s1.heap.push (revObj a ((its.toArray.size : Int) - 1))).objs.size = none := I2.hok.fresh (Nat.le_refl _)
  have un : Un (frs X.stack) [s1.heap.objs.size] H1 H1 (s1.heap.push (revObj a ((its.toArray.size : Int) - 1))) h' := by
    refine ⟨fun b o e n _ hx => hk b o (by simpa using hx) e, fun b o e n _ hx => ⟨o.slots, hk b o (by simpa using hx) e⟩, fun b o e n hx => n, fun b o e hx => ⟨o, hk b o (by simpa using hx) e⟩, fun _ _ e => e, fun _ _ _ e => e, fun b ps e => ⟨#[], by rw [e]; simp⟩⟩
  have hvals : Vals xs.reverse acc.toList := vals_rev rv hi
  refine ⟨.ref (s1.heap.push (revObj a ((its.toArray.size : Int) - 1))).objs.size, upd H1 _ (.lst xs.reverse), Inv.drained (s' := { s1 with heap := h', toks := tk }) I2 (Nat.le_refl _) (by rw [List.length_reverse]; exact hz) hS hvals ?_ rfl I3.bare un I3.hok hfresh, rfl, q _ hfresh⟩
  intro b hb
  have e : b = s1.heap.objs.size := by simpa using hb
  subst e
  exact ⟨f3, f1, f4, f5⟩
section
variable {X : Cx} {W : WX} {pos pos2 : Pos} {a : Expr} {fa : Env → C D} {p p2 : Pos}
/-- list(reversed(x)) -/
def gRevL (mk : List D → Mem → Out D) : D → C D := fun x M => match lstOf M x with
  | some ds => mk ds.reverse M
  | none => .stuck
theorem pd_revL {mk : List D → Mem → Out D} (hc : X.calm = true) (hmk : MkN X.K mk) (hm : X.mg "list" = none) (hm2 : X.mg "reversed" = none) (ha : PD X W a fa) (hg : Gl X "list" := by rfl) (hg2 : Gl X "reversed" := by rfl)
    (hs : starEach [a] X.env = (false, eval a X.env) :: starEach [] X.env := by rfl)
    (hs2 : starEach [.Call (.Name "reversed" p2) [a] [] pos2] X.env = (false, eval (.Call (.Name "reversed" p2) [a] [] pos2) X.env) :: starEach [] X.env := by rfl) : PD X W (.Call (.Name "list" p) [.Call (.Name "reversed" p2) [a] [] pos2] [] pos) (e1 (gRevL mk) fa) := (pe_lstRev hc hg hm hg2 hm2 ha hs hs2).up fun σ H Q h => by
  obtain ⟨S, as, M, ρ, st, env, fin⟩ := h
  refine ⟨S, as, M, ρ, st, env, Fin.bind (g := gRevL mk) fin env fun S1 as1 M1 x v H1 e1 st1 env1 rx fin1 => ?_⟩
  unfold gRevL at fin1
  split at fin1
  · rename_i ds hd
    obtain ⟨b, us, h1, h2, h3, h4⟩ := lst_of st1 rx hd
    exact ⟨b, us, h1, h2, fun q n => hmk S1 as1 H1 W σ ρ M1 ds.reverse us.reverse q Q st1 n h3.rev (by rw [List.length_reverse]; exact h4) fin1⟩
  · exact fin1.elim
end
end DL

set_option Elab.async false
set_option maxRecDepth 100000
set_option maxHeartbeats 2000000
namespace DL
open PySem PySem.Spec PyProof.Rows L2
/-! ### instances of own classes -/
theorem clsA_of {K : PySem.W.Frag} {n : Str} {a : Addr} (h : PySem.W.nsIn K mainGlobals n = some (some (.ref a))) : clsA K n = a := by
  unfold clsA; rw [h]
def lookF : List Str → List D → Str → Option D
  | n :: ns, d :: ds, f => if (f == n) = true then some d else lookF ns ds f
  | _, _, _ => none
def putN : List Str → Str → List Str
  | [], f => [f]
  | n :: ns, f => if n = f then n :: ns else n :: putN ns f
def putD : List Str → List D → Str → D → List D
  | n :: ns, x :: ds, f, d => if n = f then d :: ds else x :: putD ns ds f d
  | _, _, _, d => [d]
def insOf (M : Mem) : D → Option (Str × List Str × List D)
  | .ins C ns ds => some (C, ns, ds)
  | .h k => match M[k]? with
    | some (.ins C ns ds) => some (C, ns, ds)
    | _ => none
  | _ => none
section
variable {K : PySem.W.Frag} {S : Hp} {as : List Addr} {M : Mem} {H : Hp}
theorem ins_of {d : D} {v : V} {C : Str} {ns : List Str} {ds : List D} (st : St K S as M H) (r : Rep K S as d v) (h : insOf M d = some (C, ns, ds)) :
    ∃ a dx fs, v = .ref a ∧ H a = some (.ins (clsA K C) dx fs) ∧ fs.map (·.1) = ns ∧ Reps K S as ds (fs.map (·.2)) := by
  cases d with
  | ins C' ns' ds' =>
    cases h
    obtain ⟨a, dx, fs, h1, h2, h3, h4⟩ := r
    exact ⟨a, dx, fs, h1, st.ex _ _ h2, h3, h4⟩
  | h k =>
    unfold insOf at h
    cases e : M[k]? with
    | none => simp only [e] at h; cases h
    | some c =>
      simp only [e] at h
      cases c with
      | ins C' ns' ds' =>
        cases h
        obtain ⟨a, h1, h2⟩ := r
        obtain ⟨_, ho, h3, h4⟩ := st.cell k _ a e h1
        cases ho with
        | ins C2 dx fs =>
          obtain ⟨q1, q2, q3⟩ := h4
          subst q1
          exact ⟨a, dx, fs, h2, h3, q2, q3⟩
        | _ => exact h4.elim
      | _ => cases h
  | _ => cases h
theorem look_some : ∀ {fs : List (Str × V)} {ns : List Str} {ds : List D} {f : Str} {d : D}, fs.map (·.1) = ns → Reps K S as ds (fs.map (·.2)) → lookF ns ds f = some d → ∃ v, fs.lookup f = some v ∧ Rep K S as d v
  | [], ns, ds, f, d, h, r, e => by
    subst h; simp [lookF] at e
  | (n, x) :: fs, ns, ds, f, d, h, r, e => by
    subst h
    cases ds with
    | nil => exact absurd r (by simp [Reps])
    | cons y ds =>
      obtain ⟨v, vs, h1, h2, h3⟩ := r
      rw [List.map_cons] at h1
      cases h1
      rw [List.map_cons] at e
      unfold lookF at e
      by_cases hb : (f == n) = true
      · rw [if_pos hb] at e
        cases e
        exact ⟨x, by simp only [List.lookup, hb], h2⟩
      · rw [if_neg hb] at e
        obtain ⟨v, h4, h5⟩ := look_some rfl h3 e
        exact ⟨v, by
          have hb : (f == n) = false := by simpa using hb
          simp only [List.lookup, hb]; exact h4, h5⟩
theorem look_none : ∀ {fs : List (Str × V)} {ns : List Str} {f : Str}, fs.map (·.1) = ns → ns.contains f = false → fs.lookup f = none
  | [], ns, f, h, e => rfl
  | (n, x) :: fs, ns, f, h, e => by
    subst h
    rw [List.map_cons, List.contains_cons, Bool.or_eq_false_iff] at e
    simp only [List.lookup, e.1]
    exact look_none rfl e.2
theorem put_names : ∀ {fs : List (Str × V)} {ns : List Str} {f : Str} {v : V}, fs.map (·.1) = ns → (putF f v fs).map (·.1) = putN ns f
  | [], ns, f, v, h => by subst h; rfl
  | (n, x) :: fs, ns, f, v, h => by
    subst h
    unfold putF
    rw [List.map_cons]
    unfold putN
    by_cases hn : n = f
    · rw [if_pos hn, if_pos hn]; rfl
    · rw [if_neg hn, if_neg hn, List.map_cons, put_names rfl]
theorem put_vals : ∀ {fs : List (Str × V)} {ns : List Str} {ds : List D} {f : Str} {d : D} {v : V}, fs.map (·.1) = ns → Reps K S as ds (fs.map (·.2)) → Rep K S as d v → Reps K S as (putD ns ds f d) ((putF f v fs).map (·.2))
  | [], ns, ds, f, d, v, h, r, q => by
    subst h
    have : ds = [] := by
      cases ds with
      | nil => rfl
      | cons y ds => obtain ⟨_, _, h, _⟩ := r; cases h
    subst this
    exact Reps.cons q Reps.nil
  | (n, x) :: fs, ns, ds, f, d, v, h, r, q => by
    subst h
    cases ds with
    | nil => exact absurd r (by simp [Reps])
    | cons y ds =>
      obtain ⟨v', vs, h1, h2, h3⟩ := r
      rw [List.map_cons] at h1
      cases h1
      unfold putF
      rw [List.map_cons]
      unfold putD
      by_cases hn : n = f
      · rw [if_pos hn, if_pos hn]; exact Reps.cons q h3
      · rw [if_neg hn, if_neg hn]; exact Reps.cons h2 (put_vals rfl h3 q)
theorem put_len : ∀ {ns : List Str} {f : Str}, (putN ns f).length ≤ ns.length + 1
  | [], f => by simp [putN]
  | n :: ns, f => by
    unfold putN
    split
    · simp
    · have := @put_len ns f
      simp; omega
theorem St.beside {p : Addr} {o : HO} (st : St K S as M H) (n : H p = none) : St K S as M (upd H p o) :=
  ⟨fun b ob e => by rw [upd_ne (ne_of_none (st.ex b ob e) n)]; exact st.ex b ob e, st.len, st.nd, fun k c a h1 h2 => by
    obtain ⟨s0, ho, e, r⟩ := st.cell k c a h1 h2
    exact ⟨s0, ho, by rw [upd_ne (ne_of_none e n)]; exact e, r⟩⟩
theorem Ext.beside {p : Addr} {o : HO} (n : H p = none) : Ext S as H S as (upd H p o) :=
  ⟨Same.refl _, Pre.refl _, fun a ob h na => ⟨by rw [upd_ne (ne_of_none h n)]; exact h, na, fun z => z⟩⟩
end
/-- the classes cs with the attribute f of their instances -/
structure FldOk (K : PySem.W.Frag) (cs : List Str) (f : Str) : Prop where
  ok : ∀ C ∈ cs, Cls K (clsA K C) ∧ NoAttr K (clsA K C) f
theorem FldOk.nil {K : PySem.W.Frag} {f : Str} : FldOk K [] f := ⟨fun _ h => by simp at h⟩
theorem FldOk.cons {K : PySem.W.Frag} {C : Str} {cs : List Str} {f : Str} (c : Cls K (clsA K C)) (n : NoAttr K (clsA K C) f) (h : FldOk K cs f) : FldOk K (C :: cs) f := ⟨fun D hD => by
  rcases List.mem_cons.mp hD with e | e
  · subst e; exact ⟨c, n⟩
  · exact h.ok D e⟩
/-- o.f -/
def gFld (cs : List Str) (f : Str) : D → C D := fun x M => match insOf M x with
  | some (C, ns, ds) => if cs.contains C = true then (match lookF ns ds f with
    | some d => .ok d M
    | none => .stuck) else .stuck
  | none => .stuck
section
variable {X : Cx} {W : WX} {pos : Pos} {e o : Expr} {es : List Expr} {fe fo : Env → C D} {fs : Env → C (List D)}
theorem pd_fld {cs : List Str} {f : Str} (hc : FldOk X.K cs f) (ho : PD X W o fo) (hb : attributeBase o f X.env (eval o X.env) = eval o X.env := by rfl) : PD X W (.Attribute o f pos) (e1 (gFld cs f) fo) :=
  (pe_fld ho hb).up fun σ H Q h => by
    obtain ⟨S, as, M, ρ, st, env, fin⟩ := h
    refine ⟨S, as, M, ρ, st, env, Fin.bind (g := gFld cs f) fin env fun S1 as1 M1 x v H1 e1 st1 env1 rx fin1 => ?_⟩
    unfold gFld at fin1
    split at fin1
    · rename_i C ns ds hi
      split at fin1
      · rename_i hC
        obtain ⟨a, dx, fs, h1, h2, h3, h4⟩ := ins_of st1 rx hi
        obtain ⟨c, n⟩ := hc.ok C (by simpa using hC)
        cases el : lookF ns ds f with
        | none => simp only [el] at fin1; exact fin1.elim
        | some d =>
          simp only [el] at fin1
          obtain ⟨u, h5, h6⟩ := look_some h3 h4 el
          exact ⟨a, _, dx, fs, u, h1, h2, c, n, h5, fin_ok st1 h6 fin1⟩
      · exact fin1.elim
    · exact fin1.elim
/-- o.f = e -/
def putM (cs : List Str) (f : Str) (M : Mem) (o d : D) : Option Mem := match o with
  | .h k => match M[k]? with
    | some (.ins C ns ds) => if (cs.contains C && decide (ns.length < 1000)) = true then some (M.set k (.ins C (putN ns f) (putD ns ds f d))) else none
    | _ => none
  | _ => none
def sPut (cs : List Str) (f : Str) (fo fe : Env → C D) : Cs := fun ρ => sE (fe ρ) ρ fun d => sE (fo ρ) ρ fun o M => match putM cs f M o d with
  | some M' => .nx ρ M'
  | none => .stuck
theorem sd_put {cs : List Str} {f : Str} {tp : Pos} (hc : FldOk X.K cs f) (ho : PD X W o fo) (he : PD X W e fe) (hs : swapsWith e (some (.Attribute o f tp)) pos.line X.env = pure false := by rfl) : SD X W (.Assign [.Attribute o f tp] e pos) (sPut cs f fo fe) :=
  (ps_fld ho he hs).up fun De σ H h => by
    obtain ⟨S, as, M, ρ, st, env, fin⟩ := h
    refine ⟨S, as, M, ρ, st, env, FinS.bindE (g := fun d => sE (fo ρ) ρ fun o M => match putM cs f M o d with
      | some M' => .nx ρ M'
      | none => .stuck) fin env fun S1 as1 M1 d v H1 e1 st1 env1 rd fin1 => ?_⟩
    refine ⟨S1, as1, M1, ρ, st1, env1, FinS.bindE (g := fun o M => match putM cs f M o d with
      | some M' => .nx ρ M'
      | none => .stuck) fin1 env1 fun S2 as2 M2 o' ov H2 e2 st2 env2 ro fin2 => ?_⟩
    have rd2 := Rep.mono e2.same e2.pre _ _ rd
    split at fin2
    · rename_i M' hM
      unfold putM at hM
      split at hM
      · rename_i k
        split at hM
        · rename_i C ns ds hk
          split at hM
          · rename_i hcl
            cases hM
            rw [Bool.and_eq_true, decide_eq_true_iff] at hcl
            obtain ⟨a, h1, h2⟩ := id ro
            obtain ⟨a', dx, fs, h3, h4, h5, h6⟩ := ins_of (C := C) (ns := ns) (ds := ds) st2 ro (by unfold insOf; simp only [hk])
            subst h2
            cases h3
            obtain ⟨c, n⟩ := hc.ok C (by simpa using hcl.1)
            have hlen : ns.length = fs.length := by rw [← h5, List.length_map]
            refine ⟨a, _, dx, fs, rfl, h4, c, n, by omega, ?_⟩
            have stw := st2.write (c := .ins C (putN ns f) (putD ns ds f d)) (ho := .ins (clsA X.K C) dx (putF f v fs)) hk h1 ⟨rfl, put_names h5, put_vals h5 h6 rd2⟩
            exact fin2 S2 as2 σ _ (Ext.write h1) stw env2
          · cases hM
        · cases hM
      · cases hM
    · exact fin2.elim
/-! ### methods -/
/-- one of two denotations -/
theorem pd_orC {f f1 f2 : Env → C D} (h1 : PD X W e f1) (h2 : PD X W e f2) (hc : ∀ ρ M, f ρ M = .stuck ∨ f ρ M = f1 ρ M ∨ f ρ M = f2 ρ M) : PD X W e f :=
  (PE.or h1 h2).up fun σ H Q h => by
    obtain ⟨S, as, M, ρ, st, env, fin⟩ := h
    rcases hc ρ M with e0 | e0 | e0
    · rw [e0] at fin; exact fin.elim
    · rw [e0] at fin; exact .inl ⟨S, as, M, ρ, st, env, fin⟩
    · rw [e0] at fin; exact .inr ⟨S, as, M, ρ, st, env, fin⟩
abbrev MTab := List (Str × (List D → C D))
def mget : MTab → Str → Option (List D → C D)
  | [], _ => none
  | (n, F) :: r, c => if (n == c) = true then some F else mget r c
def eMc (m : Str) (tb : MTab) (fo : Env → C D) (fs : Env → C (List D)) : Env → C D := fun ρ => (fo ρ).bind fun x M => match insOf M x with
  | some (c, ns, _) => if ns.contains m = true then .stuck else (match mget tb c with
    | some F => (fs ρ).bind (fun xs => F (x :: xs)) M
    | none => .stuck)
  | none => .stuck
theorem pd_methCons {m : Str} {c : Str} {F : List D → C D} {tb : MTab} (h1 : PD X W e (eMc m [(c, F)] fo fs)) (h2 : PD X W e (eMc m tb fo fs)) : PD X W e (eMc m ((c, F) :: tb) fo fs) :=
  pd_orC h1 h2 fun ρ M => by
    unfold eMc C.bind
    cases fo ρ M with
    | ok x M1 =>
      simp only
      cases insOf M1 x with
      | none => exact .inl rfl
      | some q =>
        obtain ⟨c', ns, ds⟩ := q
        simp only
        by_cases hn : ns.contains m = true
        · rw [if_pos hn]; exact .inl rfl
        · rw [if_neg hn, if_neg hn, if_neg hn]
          simp only [mget]
          by_cases hc : (c == c') = true
          · rw [if_pos hc]; exact .inr (.inl (by rw [if_pos hc]))
          · rw [if_neg hc]; exact .inr (.inr rfl)
    | er x M1 => exact .inr (.inl rfl)
    | stuck => exact .inl rfl
end
def tMethD (K : PySem.W.Frag) (Ca : Addr) (m : Str) (sp : Sp) (E : L2.St → XK) (ta : TE) (t : TA) : TE := fun σ H Q => ta σ H fun x H1 => ∃ a dx fs, x = .ref a ∧ H1 a = some (.ins Ca dx fs) ∧ fs.lookup m = none ∧
  t σ H1 fun vs H2 => sp (x :: vs) H2 Q (E σ)
section
variable {X : Cx} {CX : CXT} {k : Nat} {f Ca : Addr} {fd : FuncData} {ps : List Str} {sp : Sp} {E : L2.St → XK} {m : Str} {pos apos : Pos} {e o : Expr} {es : List Expr} {ta : TE} {t : TA}
theorem pe_methD {pl : Sem Bool} (ho : PE X o ta) (c : Cls X.K Ca) (hm : Meth X.K Ca m f) (F : FnOk X.prog X.w X.K X.mg X.base CX k f fd ps sp) (room : Room k X.A) (bi : Binds X.K fd ps []) (pass : ∀ σ, PassesAt CX X σ (E σ)) (has : PA X (e :: es) t)
    (hst : starEach (e :: es) X.env = (false, eval e X.env) :: starEach es X.env := by rfl) (hpl : (backTo pos (starEach es X.env)).any (·.1) = false := by rfl)
    (ht : eval (.Call (.Attribute o m apos) (e :: es) [] pos) X.env = (do
      let rv ← eval o X.env
      standAt apos.atName
      let (g, fst) ← holding [rv] (getMethod rv m pl)
      callWith pos g fst (backTo pos (starEach (e :: es) X.env)) (backToKw pos (keywordEach [] X.env))) := by rfl) :
    PE X (.Call (.Attribute o m apos) (e :: es) [] pos) (tMethD X.K Ca m sp E ta t) := ⟨fun pins s σ H Q I h => by
  refine PySem.W.methodCall_KW (pl := pl) (thn (ho.run pins s σ H _ I h) ?_) ht
  rintro u s1 ⟨x, H1, I1, rx, a, dx, fs, hx, ha, hl, q⟩
  subst hx
  obtain rfl : u = Value.ref a := rx
  refine getmeth_ok I1 ha c hm hl (PySem.W.callWith_K (h₀ := X.base) (first := [.ref a]) I.ok.mod.kin hm.kp (thn (has.run pos pins s1 σ H1 _ I1 q) ?_) hst hpl)
  rintro us s2 ⟨vs, H2, I2, r, q2⟩
  exact ⟨I2.kIn, run_fnSD (dvs := []) (ds := []) (vs := .ref a :: vs) (us := .ref a :: us) F room bi .nil (pass σ) I2 (.cons rfl r) (by rw [List.append_nil]; exact q2)⟩⟩
theorem pe_methD0 {pl : Sem Bool} (ho : PE X o ta) (c : Cls X.K Ca) (hm : Meth X.K Ca m f) (F : FnOk X.prog X.w X.K X.mg X.base CX k f fd ps sp) (room : Room k X.A) (bi : Binds X.K fd ps []) (pass : ∀ σ, PassesAt CX X σ (E σ))
    (ht : eval (.Call (.Attribute o m apos) [] [] pos) X.env = (do
      let rv ← eval o X.env
      standAt apos.atName
      let (g, fst) ← holding [rv] (getMethod rv m pl)
      callWith pos g fst (backTo pos (starEach [] X.env)) (backToKw pos (keywordEach [] X.env))) := by rfl) :
    PE X (.Call (.Attribute o m apos) [] [] pos) (tMethD X.K Ca m sp E ta tNil) := ⟨fun pins s σ H Q I h => by
  refine PySem.W.methodCall_KW (pl := pl) (thn (ho.run pins s σ H _ I h) ?_) ht
  rintro u s1 ⟨x, H1, I1, rx, a, dx, fs, hx, ha, hl, q⟩
  subst hx
  obtain rfl : u = Value.ref a := rx
  exact getmeth_ok I1 ha c hm hl (PySem.W.callWith_K0 (first := [.ref a]) I1.kIn hm.kp (run_fnSD (dvs := []) (ds := []) (vs := [.ref a]) (us := [.ref a]) F room bi .nil (pass σ) I1 (.cons rfl .nil) q))⟩
end
section
variable {X : Cx} {W : WX} {pos apos p : Pos} {e o : Expr} {es : List Expr} {fo : Env → C D} {fs : Env → C (List D)} {m c x : Str} {n : Nat} {md : Mode} {N : Nat} {body : Cs} {k : Nat} {f : Addr} {fd : FuncData} {ps : List Str}
/-- what a callee's outcome is for the caller -/
theorem fin_callee {S1 : Hp} {as1 : List Addr} {M1 : Mem} {xs : List D} {H1 : Hp} {σ : L2.St} {ρ : Env} {Q : VK} {vs : List V} (st1 : St X.K S1 as1 M1 H1) (env1 : EnvOk X.K S1 as1 σ ρ) (rx : Reps X.K S1 as1 xs vs) (fin1 : Fin (RepR X.K) X.K S1 as1 H1 W σ ρ (runF md n N body xs M1) Q) :
    spOf X.K n (runF md n N body) vs H1 Q (WE W σ) := by
  have hl : xs.length = n := by
    by_cases h : xs.length = n
    · exact h
    · unfold runF at fin1
      rw [if_neg h] at fin1
      exact fin1.elim
  refine ⟨S1, as1, M1, xs, st1, rx, hl, ?_⟩
  cases ef : runF md n N body xs M1 with
  | ok d M2 => rw [ef] at fin1; exact fin1
  | er y M2 =>
    rw [ef] at fin1
    exact fun S' as' H' dd x' s' eo => fin1 S' as' H' dd x' s' (env1.mono x'.same x'.pre) eo
  | stuck => rw [ef] at fin1; exact fin1.elim
theorem meth_up {t0 : TA} (hd : ∀ σ H Q, tDs X.K W fs σ H Q → t0 σ H Q) {σ : L2.St} {H : Hp} {Q : VK} (h : tD X.K W (eMc m [(c, runF md n N body)] fo fs) σ H Q) :
    tMethD X.K (clsA X.K c) m (spOf X.K n (runF md n N body)) (WE W) (tD X.K W fo) t0 σ H Q := by
  obtain ⟨S, as, M, ρ, st, env, fin⟩ := h
  refine ⟨S, as, M, ρ, st, env, Fin.bind (g := fun x M => match insOf M x with
    | some (c', ns, _) => if ns.contains m = true then .stuck else (match mget [(c, runF md n N body)] c' with
      | some F => (fs ρ).bind (fun xs => F (x :: xs)) M
      | none => .stuck)
    | none => .stuck) fin env fun S1 as1 M1 x v H1 e1 st1 env1 rx fin1 => ?_⟩
  split at fin1
  · rename_i c' ns ds hi
    split at fin1
    · exact fin1.elim
    · rename_i hn
      unfold mget at fin1
      by_cases hc : (c == c') = true
      · rw [if_pos hc] at fin1
        have hc := beq_iff_eq.mp hc
        subst hc
        obtain ⟨a, dx, fl, h1, h2, h3, h4⟩ := ins_of st1 rx hi
        refine ⟨a, dx, fl, h1, h2, look_none h3 (by simpa using hn), hd _ _ _ ?_⟩
        refine ⟨S1, as1, M1, ρ, st1, env1, Fin.bind (g := fun xs => runF md n N body (x :: xs)) fin1 env1 fun S2 as2 M2 xs vs H2 e2 st2 env2 rxs fin2 => ?_⟩
        exact fin_callee st2 env2 (Reps.cons (Rep.mono e2.same e2.pre _ _ rx) rxs) fin2
      · rw [if_neg hc] at fin1
        exact fin1.elim
  · exact fin1.elim
theorem pd_meth {pl : Sem Bool} (tk : Takes X W) (cl : Cls X.K (clsA X.K c)) (hm : Meth X.K (clsA X.K c) m f) (G : FnOk X.prog X.w X.K X.mg X.base (L2.CX X.prog X.w) k f fd ps (spOf X.K n (runF md n N body))) (room : Room k X.A) (bi : Binds X.K fd ps []) (ho : PD X W o fo) (ha : PDs X W (e :: es) fs)
    (hst : starEach (e :: es) X.env = (false, eval e X.env) :: starEach es X.env := by rfl) (hpl : (backTo pos (starEach es X.env)).any (·.1) = false := by rfl)
    (ht : eval (.Call (.Attribute o m apos) (e :: es) [] pos) X.env = (do
      let rv ← eval o X.env
      standAt apos.atName
      let (g, fst) ← holding [rv] (getMethod rv m pl)
      callWith pos g fst (backTo pos (starEach (e :: es) X.env)) (backToKw pos (keywordEach [] X.env))) := by rfl) : PD X W (.Call (.Attribute o m apos) (e :: es) [] pos) (eMc m [(c, runF md n N body)] fo fs) :=
  (pe_methD ho cl hm G room bi (fun σ => passAt tk σ) ha hst hpl ht).up fun _ _ _ h => meth_up (fun _ _ _ z => z) h
theorem pd_meth0 {pl : Sem Bool} (tk : Takes X W) (cl : Cls X.K (clsA X.K c)) (hm : Meth X.K (clsA X.K c) m f) (G : FnOk X.prog X.w X.K X.mg X.base (L2.CX X.prog X.w) k f fd ps (spOf X.K n (runF md n N body))) (room : Room k X.A) (bi : Binds X.K fd ps []) (ho : PD X W o fo)
    (ht : eval (.Call (.Attribute o m apos) [] [] pos) X.env = (do
      let rv ← eval o X.env
      standAt apos.atName
      let (g, fst) ← holding [rv] (getMethod rv m pl)
      callWith pos g fst (backTo pos (starEach [] X.env)) (backToKw pos (keywordEach [] X.env))) := by rfl) : PD X W (.Call (.Attribute o m apos) [] [] pos) (eMc m [(c, runF md n N body)] fo eNil) :=
  (pe_methD0 ho cl hm G room bi (fun σ => passAt tk σ) ht).up fun _ _ _ h => meth_up (fun σ H Q z => by
    obtain ⟨S, as, M, ρ, st, env, fin⟩ := z
    exact fin S as [] H (Ext.refl _ _ _) st rfl) h
end
/-! ### a new instance -/
def tMakeD (Ca : Addr) (sp : Sp) (E : L2.St → XK) (t : TA) : TE := fun σ H Q => t σ H fun vs H1 => ∀ x dx, H1 x = none → H1 dx = none → dx ≠ x →
  sp (.ref x :: vs) (upd (upd H1 dx (.own x)) x (.ins Ca dx [])) (fun v H2 => v = .non ∧ Q (.ref x) H2) (E σ)
section
variable {X : Cx} {CX : CXT} {k : Nat} {f Ca : Addr} {fd : FuncData} {ps : List Str} {sp : Sp} {E : L2.St → XK} {x : Str} {p pos : Pos} {e : Expr} {es : List Expr} {t : TA}
theorem run_mkD {pins : List (Addr × Obj)} {σ : L2.St} {H : Hp} {s : Shared} {Q : VK} {us : List Value} {vs : List V} (mk : Mk X.K Ca f) (F : FnOk X.prog X.w X.K X.mg X.base CX k f fd ps sp) (room : Room (k + 1) X.A) (bi : Binds X.K fd ps []) (pass : ∀ σ, PassesAt CX X σ (E σ)) (I : Inv X pins σ H s) (r : Vals vs us)
    (h : ∀ x dx, H x = none → H dx = none → dx ≠ x → sp (.ref x :: vs) (upd (upd H dx (.own x)) x (.ins Ca dx [])) (fun v H2 => v = .non ∧ Q (.ref x) H2) (E σ)) : wpAny (model X.prog X.w) X.A (call (.ref Ca) us) (EP X pins σ Q) X.xe s := by
  have hq := h (s.heap.objs.size + 1) s.heap.objs.size (I.hok.fresh (Nat.le_succ _)) (I.hok.fresh (Nat.le_refl _)) (fun z => absurd z (Nat.ne_of_lt (Nat.lt_succ_self _)))
  have I2 := Inv.made (C := Ca) I
  have r2 : Vals (V.ref (s.heap.objs.size + 1) :: vs) (Value.ref (s.heap.objs.size + 1) :: us) := .cons rfl r
  have hlen : (Value.ref (s.heap.objs.size + 1) :: us ++ []).length = ps.length := by
    rw [List.append_nil, ← r2.length]
    exact F.len _ _ _ _ hq
  have bd := bi _ (Value.ref (s.heap.objs.size + 1) :: us) I2.kIn hlen
  rw [List.append_nil] at bd
  refine wpAny_call (make_map (f := f) I.kIn mk.makes mk.init (beq_iff_eq.mp mk.fn) (codeAny_mono (F.run _ X.stack _ _ _ _ _ _ _ (room.make Ca us []) (I2.env0.make Ca us []) bd r2 hq) ?_))
  intro res s' hr
  cases res with
  | error er => exact pass σ _ _ _ er s' I2 hr
  | ok fl =>
    cases fl with
    | ret u =>
      obtain ⟨v, H', I3, rv, ev, q3⟩ := I2.after hr
      subst ev
      exact ⟨rv, V.ref (s.heap.objs.size + 1), H', I3, rfl, q3⟩
    | next => exact hr.elim
    | brk => exact hr.elim
    | cont => exact hr.elim
theorem pe_makeD (mk : Mk X.K Ca f) (F : FnOk X.prog X.w X.K X.mg X.base CX k f fd ps sp) (room : Room (k + 1) X.A) (hm : X.mg x = some (.ref Ca)) (bi : Binds X.K fd ps []) (pass : ∀ σ, PassesAt CX X σ (E σ)) (ha : PA X (e :: es) t)
    (hg : Gl X x := by rfl) (hdb : (x == ("__debug__" : Str)) = false := by decide) (hst : starEach (e :: es) X.env = (false, eval e X.env) :: starEach es X.env := by rfl) (hpl : (backTo pos (starEach es X.env)).any (·.1) = false := by rfl) :
    PE X (.Call (.Name x p) (e :: es) [] pos) (tMakeD Ca sp E t) := ⟨fun pins s σ H Q I h =>
  wpAny_Call_Name_kw (ld_glob I hg hm (PySem.W.callWith_K (h₀ := X.base) I.ok.mod.kin mk.kp (thn (ha.run pos pins s σ H _ I h) fun us s1 ⟨vs, H1, I1, r, q⟩ => ⟨I1.kIn, run_mkD mk F room bi pass I1 r q⟩) hst hpl) hdb)⟩
theorem pe_makeD0 (mk : Mk X.K Ca f) (F : FnOk X.prog X.w X.K X.mg X.base CX k f fd ps sp) (room : Room (k + 1) X.A) (hm : X.mg x = some (.ref Ca)) (bi : Binds X.K fd ps []) (pass : ∀ σ, PassesAt CX X σ (E σ))
    (hg : Gl X x := by rfl) (hdb : (x == ("__debug__" : Str)) = false := by decide) : PE X (.Call (.Name x p) [] [] pos) (tMakeD Ca sp E tNil) := ⟨fun pins s σ H Q I h =>
  wpAny_Call_Name_kw (ld_glob I hg hm (PySem.W.callWith_K0 I.kIn mk.kp (run_mkD (us := []) mk F room bi pass I .nil h)) hdb)⟩
end
/-- C(..): a new cell, then __init__ -/
def gMake (c : Str) (F : List D → C D) : List D → C D := fun xs M => match F (.h M.length :: xs) (M ++ [.ins c [] []]) with
  | .ok (.v .non) M1 => .ok (.h M.length) M1
  | .er x M1 => .er x M1
  | _ => .stuck
section
variable {X : Cx} {W : WX} {pos p : Pos} {e : Expr} {es : List Expr} {fs : Env → C (List D)} {c x : Str} {n : Nat} {md : Mode} {N : Nat} {body : Cs} {k : Nat} {f : Addr} {fd : FuncData} {ps : List Str}
theorem make_up {t0 : TA} (hd : ∀ σ H Q, tDs X.K W fs σ H Q → t0 σ H Q) {σ : L2.St} {H : Hp} {Q : VK} (h : tD X.K W (eN (gMake c (runF md n N body)) fs) σ H Q) : tMakeD (clsA X.K c) (spOf X.K n (runF md n N body)) (WE W) t0 σ H Q := by
  obtain ⟨S, as, M, ρ, st, env, fin⟩ := h
  refine hd _ _ _ ⟨S, as, M, ρ, st, env, Fin.bind (g := gMake c (runF md n N body)) fin env fun S1 as1 M1 xs vs H1 e1 st1 env1 rx fin1 => ?_⟩
  intro px dx hx hdx hne
  have nx : upd H1 dx (.own px) px = none := by rw [upd_ne (Ne.symm hne)]; exact hx
  have st2 := st1.beside (o := .own px) hdx
  have st3 := st2.fresh (p := px) (ho := .ins (clsA X.K c) dx []) (c := .ins c [] []) nx ⟨rfl, rfl, Reps.nil⟩
  have e3 := (Ext.beside (S := S1) (as := as1) (o := .own px) hdx).trans (Ext.fresh (ho := .ins (clsA X.K c) dx []) st2 nx)
  have hat : (as1 ++ [px])[M1.length]? = some px := by rw [← st1.len]; simp
  have r3 : Reps X.K S1 (as1 ++ [px]) (.h M1.length :: xs) (.ref px :: vs) := Reps.cons ⟨px, hat, rfl⟩ (Reps.mono e3.same e3.pre _ _ rx)
  unfold gMake at fin1
  cases ef : runF md n N body (.h M1.length :: xs) (M1 ++ [.ins c [] []]) with
  | ok d M2 =>
    rw [ef] at fin1
    have hl : (D.h M1.length :: xs).length = n := by
      by_cases h : (D.h M1.length :: xs).length = n
      · exact h
      · unfold runF at ef
        rw [if_neg h] at ef
        cases ef
    refine ⟨S1, as1 ++ [px], M1 ++ [.ins c [] []], .h M1.length :: xs, st3, r3, hl, ?_⟩
    rw [ef]
    intro S' as' v H' x' s' rv
    cases d with
    | v z =>
      cases z with
      | non => exact ⟨rv.1, fin1 S' as' (.ref px) H' (e3.trans x') s' ⟨px, x'.pre _ _ hat, rfl⟩⟩
      | _ => exact fin1.elim
    | _ => exact fin1.elim
  | er y M2 =>
    rw [ef] at fin1
    have hl : (D.h M1.length :: xs).length = n := by
      by_cases h : (D.h M1.length :: xs).length = n
      · exact h
      · unfold runF at ef
        rw [if_neg h] at ef
        cases ef
    refine ⟨S1, as1 ++ [px], M1 ++ [.ins c [] []], .h M1.length :: xs, st3, r3, hl, ?_⟩
    rw [ef]
    exact fun S' as' H' dd x' s' eo => fin1 S' as' H' dd (e3.trans x') s' (env1.mono (e3.trans x').same (e3.trans x').pre) eo
  | stuck =>
    rw [ef] at fin1
    exact fin1.elim
theorem pd_make (tk : Takes X W) (mk : Mk X.K (clsA X.K c) f) (G : FnOk X.prog X.w X.K X.mg X.base (L2.CX X.prog X.w) k f fd ps (spOf X.K n (runF md n N body))) (room : Room (k + 1) X.A) (hm : X.mg x = some (.ref (clsA X.K c))) (bi : Binds X.K fd ps []) (ha : PDs X W (e :: es) fs)
    (hg : Gl X x := by rfl) (hdb : (x == ("__debug__" : Str)) = false := by decide) (hst : starEach (e :: es) X.env = (false, eval e X.env) :: starEach es X.env := by rfl) (hpl : (backTo pos (starEach es X.env)).any (·.1) = false := by rfl) : PD X W (.Call (.Name x p) (e :: es) [] pos) (eN (gMake c (runF md n N body)) fs) :=
  (pe_makeD mk G room hm bi (fun σ => passAt tk σ) ha hg hdb hst hpl).up fun _ _ _ h => make_up (fun _ _ _ z => z) h
theorem pd_make0 (tk : Takes X W) (mk : Mk X.K (clsA X.K c) f) (G : FnOk X.prog X.w X.K X.mg X.base (L2.CX X.prog X.w) k f fd ps (spOf X.K n (runF md n N body))) (room : Room (k + 1) X.A) (hm : X.mg x = some (.ref (clsA X.K c))) (bi : Binds X.K fd ps [])
    (hg : Gl X x := by rfl) (hdb : (x == ("__debug__" : Str)) = false := by decide) : PD X W (.Call (.Name x p) [] [] pos) (eN (gMake c (runF md n N body)) eNil) :=
  (pe_makeD0 mk G room hm bi (fun σ => passAt tk σ) hg hdb).up fun _ _ _ h => make_up (fun σ H Q z => by
    obtain ⟨S, as, M, ρ, st, env, fin⟩ := z
    exact fin S as [] H (Ext.refl _ _ _) st rfl) h
end
/-! ### classes as values, isinstance of own classes -/
inductive Ty where
  | b (n : String)
  | o (C : Str)
  deriving DecidableEq
def tyV (K : PySem.W.Frag) : Ty → Value
  | .b n => .type n
  | .o C => .ref (clsA K C)
structure InsTy (K : PySem.W.Frag) (C : Str) : Prop where
  cl : Cls K (clsA K C)
  ha : PySem.W.findIn K (.ref (clsA K C)) "__class__" = some (some (.builtin "object.__class__"))
  hn : PySem.W.specialIn K (.builtin "object.__class__") "__get__" = some (some (.builtin "getset_descriptor.__get__"))
  ht : PySem.W.takesIn K (.builtin "object.__class__") = some true
  hm : PySem.W.mroIn K (clsA K C) (.type "object") = some true
abbrev IsTab := List (Ty × Ty × Bool)
structure IsTabOk (K : PySem.W.Frag) (cs : List Str) (tab : IsTab) : Prop where
  ty : ∀ C ∈ cs, InsTy K C
  is : ∀ e ∈ tab, PySem.W.kitOne K (tyV K e.1) (tyV K e.2.1) = some e.2.2
def tyO (cs : List Str) (M : Mem) (x : D) : Option Ty := match insOf M x with
  | some (C, _, _) => if cs.contains C = true then some (.o C) else none
  | none => (tyN M x).map .b
def isGet : IsTab → Ty → Ty → Option Bool
  | [], _, _ => none
  | (a, b, r) :: tab, t, c => if a = t ∧ b = c then some r else isGet tab t c
def isO (tab : IsTab) : Ty → Ty → Option Bool
  | .b a, .b b => kitB a b
  | t, c => isGet tab t c
def tyArg : D → Option Ty
  | .v (.ty n) => some (.b n)
  | .cl C => some (.o C)
  | _ => none
def gIsO (cs : List Str) (tab : IsTab) : List D → C D := fun xs M => match xs with
  | [x, c] => match tyO cs M x, tyArg c with
    | some t, some u => match isO tab t u with
      | some b => .ok (.v (.bl b)) M
      | none => .stuck
    | _, _ => .stuck
  | _ => .stuck
theorem isGet_ok {K : PySem.W.Frag} {cs : List Str} {tab : IsTab} (h : IsTabOk K cs tab) {t c : Ty} {r : Bool} (e : isGet tab t c = some r) : PySem.W.kitOne K (tyV K t) (tyV K c) = some r := by
  have go : ∀ tb : IsTab, (∀ e ∈ tb, PySem.W.kitOne K (tyV K e.1) (tyV K e.2.1) = some e.2.2) → isGet tb t c = some r → PySem.W.kitOne K (tyV K t) (tyV K c) = some r := by
    intro tb
    induction tb with
    | nil => intro _ e; cases e
    | cons p tb ih =>
      intro hp e
      obtain ⟨a, b, r'⟩ := p
      unfold isGet at e
      split at e
      · rename_i hab
        cases e
        obtain ⟨h1, h2⟩ := hab
        subst h1 h2
        exact hp (a, b, r) (List.mem_cons_self ..)
      · exact ih (fun q hq => hp q (by simp [hq])) e
  exact go tab h.is e
theorem isO_ok {K : PySem.W.Frag} {cs : List Str} {tab : IsTab} (h : IsTabOk K cs tab) {t c : Ty} {r : Bool} (e : isO tab t c = some r) : PySem.W.kitOne K (tyV K t) (tyV K c) = some r := by
  cases t with
  | b a =>
    cases c with
    | b b => exact kit_ty e
    | o C => exact isGet_ok h e
  | o C =>
    cases c <;> exact isGet_ok h e
theorem tyO_ok {K : PySem.W.Frag} {S : Hp} {as : List Addr} {M : Mem} {H : Hp} {cs : List Str} {tab : IsTab} (h : IsTabOk K cs tab) {d : D} {v : V} {t : Ty} (st : St K S as M H) (r : Rep K S as d v) (e : tyO cs M d = some t) : TyX K H v (tyV K t) := by
  unfold tyO at e
  split at e
  · rename_i C ns ds hi
    split at e
    · rename_i hC
      cases e
      obtain ⟨a, dx, fs, h1, h2, _⟩ := ins_of st r hi
      subst h1
      have q := h.ty C (by simpa using hC)
      exact .base (.ins h2 q.cl q.ha q.hn q.ht q.hm)
    · cases e
  · cases en : tyN M d with
    | none => rw [en] at e; cases e
    | some n =>
      rw [en] at e
      cases e
      exact ty_of st r en
section
variable {X : Cx} {W : WX} {pos p : Pos} {a b : Expr} {fs : Env → C (List D)} {x : Str}
theorem pd_cls {c : Str} (hm : X.mg x = some (.ref (clsA X.K c))) (hg : Gl X x := by rfl) (hdb : (x == ("__debug__" : Str)) = false := by decide) : PD X W (.Name x pos) (eC (.cl c)) :=
  (pe_glob (v := .ref (clsA X.K c)) hg hm rfl hdb).up fun σ H Q h => by
    obtain ⟨S, as, M, ρ, st, env, fin⟩ := h
    exact fin_ok (d := .cl c) st rfl fin
theorem pd_isO {cs : List Str} {tab : IsTab} (ht : IsTabOk X.K cs tab) (hm : X.mg "isinstance" = none) (ha : PDs X W [a, b] fs) (hg : Gl X "isinstance" := by rfl) (hs : starEach [a, b] X.env = (false, eval a X.env) :: starEach [b] X.env := by rfl) (hpl : (backTo pos (starEach [b] X.env)).any (·.1) = false := by rfl) : PD X W (.Call (.Name "isinstance" p) [a, b] [] pos) (eN (gIsO cs tab) fs) :=
  pd_callB call_isi (fun S as M H σ ρ W xs vs Q st rx fin => by
    unfold gIsO at fin
    split at fin
    · rename_i x c
      obtain ⟨v, v', e2, r1, r2⟩ := reps2 rx
      split at fin
      · rename_i t u et eu
        split at fin
        · rename_i bb hb
          have k : ClsV v' (tyV X.K u) := by
            cases c with
            | v z =>
              cases z with
              | ty n =>
                cases eu
                obtain ⟨r2, _⟩ := r2
                subst r2
                exact .ty n
              | _ => cases eu
            | cl C =>
              cases eu
              have r2 : v' = V.ref _ := r2
              subst r2
              exact .own _
            | _ => cases eu
          exact ⟨v, v', tyV X.K t, tyV X.K u, bb, e2, k, tyO_ok ht st r1 et, isO_ok ht hb, fin_ok (d := .v (.bl _)) st ⟨rfl, rfl⟩ fin⟩
        · exact fin.elim
      · exact fin.elim
    · exact fin.elim) hm (by decide +kernel) ha hg (by decide) (by decide) hs hpl
end
theorem all_cons {α : Type} {p : α → Prop} {a : α} {l : List α} (h : p a) (t : ∀ b ∈ l, p b) : ∀ b ∈ a :: l, p b := fun b hb => by
  rcases List.mem_cons.mp hb with e | e
  · subst e; exact h
  · exact t b e
end DL
set_option Elab.async false
set_option maxRecDepth 100000
set_option maxHeartbeats 2000000
namespace DL
open PySem PySem.Spec PyProof.Rows L2
/-! ### texts -/
def strOf : D → Option Str
  | .v (.str s) => some s
  | _ => none
def strsOf (ds : List D) : Option (List Str) := ds.mapM strOf
section
variable {K : PySem.W.Frag} {S : Hp} {as : List Addr} {M : Mem} {H : Hp}
theorem Reps.strs : ∀ {ds : List D} {vs : List V} {ss : List Str}, Reps K S as ds vs → strsOf ds = some ss → vs = ss.map V.str ∧ ∀ s ∈ ss, okV (.str s) = true
  | [], vs, ss, h, e => by
    have h : vs = [] := h
    subst h
    simp [strsOf] at e; subst e
    exact ⟨rfl, fun _ h => by simp at h⟩
  | d :: ds, vs, ss, h, e => by
    obtain ⟨v, r, h1, h2, h3⟩ := h
    subst h1
    unfold strsOf at e
    rw [List.mapM_cons] at e
    cases e1 : strOf d with
    | none => rw [e1] at e; cases e
    | some s =>
      rw [e1] at e
      cases e2 : ds.mapM strOf with
      | none => rw [e2] at e; cases e
      | some rest =>
        rw [e2] at e
        cases e
        obtain ⟨q1, q2⟩ := Reps.strs h3 e2
        subst q1
        cases d with
        | v z =>
          cases z with
          | str z =>
            cases e1
            obtain ⟨r1, r2⟩ := h2
            subst r1
            exact ⟨rfl, fun x hx => by
              rcases List.mem_cons.mp hx with e | e
              · subst e; exact r2
              · exact q2 x e⟩
          | _ => cases e1
        | _ => cases e1
theorem strOk_join (y : Str) (hy : PyData.strOk y = true) : ∀ parts : List Str, (∀ s ∈ parts, PyData.strOk s = true) → PyData.strOk (Str.join y parts) = true
  | [], _ => by show PyData.strOk Str.empty = true; decide +kernel
  | [x], h => h x (by simp)
  | x :: z :: r, h => by
    show PyData.strOk (x ++ y ++ Str.join y (z :: r)) = true
    exact strOk_app (strOk_app (h x (by simp)) hy) (strOk_join y hy (z :: r) fun s hs => h s (List.mem_cons_of_mem _ hs))
theorem len_join (y : Str) : ∀ parts : List Str, (Str.join y parts).length ≤ (parts.map (·.length)).sum + parts.length * y.length
  | [] => Nat.zero_le _
  | [x] => by
    show x.length ≤ _
    simp
  | x :: z :: r => by
    show (x ++ y ++ Str.join y (z :: r)).length ≤ _
    have := len_join y (z :: r)
    rw [len_app, len_app, List.map_cons, List.sum_cons, List.length_cons, Nat.add_mul]
    omega
end
/-- sep.join(list or tuple of texts) -/
def gJoin : D → List D → C D := fun x xs M => match x, xs with
  | .v (.str a), [y] => match seqOf M y with
    | some ds => match strsOf ds with
      | some ss => if (ss.map (·.length)).sum + ss.length * a.length ≤ 16777216 then .ok (.v (.str (Str.join a ss))) M else .stuck
      | none => .stuck
    | none => .stuck
  | _, _ => .stuck
theorem dr_join {X : Cx} : DrM X.K (fun x xs H Q => ∃ a p, ∃ ys : List Str, x = .str a ∧ xs = [.ref p] ∧ (SqL X.K H p (ys.map V.str) ∨ SqT X.K H p (ys.map V.str)) ∧
      (ys.map (·.length)).sum + ys.length * a.length ≤ 16777216 ∧ Q (.str (Txt.join a ys)) H) gJoin := by
  intro S as M H σ ρ W x v xs vs Q st rx rs fin
  unfold gJoin at fin
  split at fin
  · rename_i a y
    split at fin
    · rename_i ds hds
      split at fin
      · rename_i ss hss
        split at fin
        · rename_i hl
          obtain ⟨u, e2, r1⟩ := reps1 rs
          obtain ⟨p, us, h1, h2, h3, h4⟩ := seq_of st r1 hds
          obtain ⟨q1, q2⟩ := Reps.strs h3 hss
          subst h1 q1
          refine ⟨a, p, ss, rx.1, e2, h2, hl, ?_⟩
          rw [TL.join_eq]
          exact fin_ok (d := .v (.str _)) st ⟨rfl, okV_mk (strOk_join a (okV_str rx.2).1 ss fun s hs => (okV_str (q2 s hs)).1) (Nat.le_trans (len_join a ss) hl)⟩ fin
        · exact fin.elim
      · exact fin.elim
    · exact fin.elim
  · exact fin.elim
/-- answers of texts about texts -/
def gS1 (f : Str → Str → V) : D → List D → C D := fun x xs M => match x, xs with
  | .v (.str a), [.v (.str b)] => .ok (.v (f a b)) M
  | _, _ => .stuck
theorem dr_S1 {K : PySem.W.Frag} {f : Str → Str → V} (hf : ∀ a b, okV (f a b) = true) : DrM K (fun x xs H Q => ∃ a b, x = .str a ∧ xs = [.str b] ∧ Q (f a b) H) (gS1 f) := by
  intro S as M H σ ρ W x v xs vs Q st rx rs fin
  unfold gS1 at fin
  split at fin
  · rename_i a b
    obtain ⟨u, e2, r1⟩ := reps1 rs
    obtain ⟨r1, _⟩ := r1
    subst r1
    exact ⟨a, b, rx.1, e2, fin_ok (d := .v _) st ⟨rfl, hf a b⟩ fin⟩
  · exact fin.elim
def gFind : D → List D → C D := gS1 fun a b => .int (Txt.find a b)
def gStarts : D → List D → C D := gS1 fun a b => .bl (Txt.startswith a b)
/-- a list's method that changes its own cell -/
def gCellM (f : List D → List D → Option (D × List D)) : D → List D → C D := fun x xs M => match x with
  | .h k => match M[k]? with
    | some (.lst ds) => match f ds xs with
      | some (d, es) => .ok d (M.set k (.lst es))
      | none => .stuck
    | _ => .stuck
  | _ => .stuck
theorem gCellM_ok {K : PySem.W.Frag} {S : Hp} {as : List Addr} {M : Mem} {H : Hp} {σ : L2.St} {ρ : Env} {W : WX} {f : List D → List D → Option (D × List D)} {x : D} {v : V} {xs : List D} {Q : VK} {G : Prop} (st : St K S as M H) (rx : Rep K S as x v) (fin : Fin (RepR K) K S as H W σ ρ (gCellM f x xs M) Q)
    (k : ∀ (a : Addr) (ds es : List D) (us : List V) (d : D), v = .ref a → H a = some (.lst us) → Reps K S as ds us → ds.length ≤ sizeLine → f ds xs = some (d, es) → (∀ (z : V) (ws : List V), Rep K S as d z → Reps K S as es ws → es.length ≤ sizeLine → Q z (upd H a (.lst ws))) → G) : G := by
  unfold gCellM at fin
  split at fin
  · rename_i j
    split at fin
    · rename_i ds hk
      split at fin
      · rename_i d es hf
        obtain ⟨a, h1, h2⟩ := rx
        obtain ⟨us, h3, h4, h5⟩ := cell_lst st hk h1
        exact k a ds es us d h2 h3 h4 h5 hf fun z ws rz rw hl => fin S as z _ (Ext.write h1) (st.write (c := .lst es) hk h1 ⟨rw, hl⟩) rz
      · exact fin.elim
    · exact fin.elim
  · exact fin.elim
def gPop0 : D → List D → C D := gCellM fun ds xs => match xs with
  | [] => match ds[ds.length - 1]? with
    | some d => some (d, ds.dropLast)
    | none => none
  | _ => none
def gReverse : D → List D → C D := gCellM fun ds xs => match xs with
  | [] => some (.v .non, ds.reverse)
  | _ => none
def gClearL : D → List D → C D := gCellM fun ds xs => match xs with
  | [] => some (.v .non, [])
  | _ => none
theorem Reps.dropLast {K : PySem.W.Frag} {S : Hp} {as : List Addr} {ds : List D} {vs : List V} (h : Reps K S as ds vs) : Reps K S as ds.dropLast vs.dropLast := by
  rw [List.dropLast_eq_take, List.dropLast_eq_take, h.length]
  exact h.take _
theorem dr_pop0 {K : PySem.W.Frag} : DrM K rPop gPop0 := by
  intro S as M H σ ρ W x v xs vs Q st rx rs fin
  refine gCellM_ok st rx fin fun a ds es us d h1 h2 h3 h4 hf k => ?_
  split at hf
  · split at hf
    · rename_i d' hd
      cases hf
      obtain ⟨u, e1, e2⟩ := h3.get hd
      have rs : vs = [] := rs
      subst rs
      refine ⟨a, us, u, h1, rfl, h2, by rw [← h3.length]; exact e1, k u _ e2 h3.dropLast (by simp; omega)⟩
    · cases hf
  · cases hf
theorem dr_reverse {K : PySem.W.Frag} : DrM K rReverse gReverse := by
  intro S as M H σ ρ W x v xs vs Q st rx rs fin
  refine gCellM_ok st rx fin fun a ds es us d h1 h2 h3 h4 hf k => ?_
  split at hf
  · cases hf
    have rs : vs = [] := rs
    subst rs
    exact ⟨a, us, h1, rfl, h2, k .non _ ⟨rfl, rfl⟩ h3.rev (by simpa using h4)⟩
  · cases hf
theorem dr_clearL {K : PySem.W.Frag} : DrM K rClear gClearL := by
  intro S as M H σ ρ W x v xs vs Q st rx rs fin
  refine gCellM_ok st rx fin fun a ds es us d h1 h2 h3 h4 hf k => ?_
  split at hf
  · cases hf
    have rs : vs = [] := rs
    subst rs
    exact ⟨a, us, h1, rfl, h2, k .non _ ⟨rfl, rfl⟩ Reps.nil (Nat.zero_le _)⟩
  · cases hf
def gPopAt : D → List D → C D := gCellM fun ds xs => match xs with
  | [.v (.int i)] => if -(2 ^ 63) ≤ i ∧ i < 2 ^ 63 then (match seqIndex? i ds.length with
    | some k => match ds[k]? with
      | some d => some (d, ds.eraseIdx k)
      | none => none
    | none => none) else none
  | _ => none
theorem Reps.erase {K : PySem.W.Frag} {S : Hp} {as : List Addr} : ∀ {ds : List D} {vs : List V} (k : Nat), Reps K S as ds vs → Reps K S as (ds.eraseIdx k) (vs.eraseIdx k)
  | [], vs, k, h => by have h : vs = [] := h; subst h; rfl
  | d :: ds, vs, 0, h => by
    obtain ⟨v, r, h1, h2, h3⟩ := h
    subst h1
    exact h3
  | d :: ds, vs, k + 1, h => by
    obtain ⟨v, r, h1, h2, h3⟩ := h
    subst h1
    exact ⟨v, r.eraseIdx k, rfl, h2, Reps.erase k h3⟩
theorem dr_popAt {K : PySem.W.Frag} : DrM K rPopAt gPopAt := by
  intro S as M H σ ρ W x v xs vs Q st rx rs fin
  refine gCellM_ok st rx fin fun a ds es us d h1 h2 h3 h4 hf k => ?_
  split at hf
  · rename_i i
    split at hf
    · rename_i hb
      split at hf
      · rename_i j hj
        split at hf
        · rename_i d' hd
          cases hf
          obtain ⟨u, e1, e2⟩ := h3.get hd
          obtain ⟨w, e3, r3⟩ := reps1 rs
          obtain ⟨r3, _⟩ := r3
          subst r3
          exact ⟨a, us, i, j, u, h1, e3, h2, hb.1, hb.2, by rw [← h3.length]; exact hj, e1, k u _ e2 (h3.erase j) (Nat.le_trans (List.length_eraseIdx_le ..) h4)⟩
        · cases hf
      · cases hf
    · cases hf
  · cases hf
def gInsert : D → List D → C D := gCellM fun ds xs => match xs with
  | [.v (.int i), d] => if 0 ≤ i ∧ i < 2 ^ 63 ∧ ds.length < 16777216 then some (.v .non, ds.take i.toNat ++ [d] ++ ds.drop i.toNat) else none
  | _ => none
theorem dr_insert {K : PySem.W.Frag} : DrM K (fun x vs H Q => ∃ (l : Addr) (xs : List V) (i : Int) (y : V), x = .ref l ∧ vs = [.int i, y] ∧ H l = some (.lst xs) ∧ xs.length < sizeLine ∧ 0 ≤ i ∧ i < 2 ^ 63 ∧
    Q .non (upd H l (.lst (xs.take i.toNat ++ [y] ++ xs.drop i.toNat)))) gInsert := by
  intro S as M H σ ρ W x v xs vs Q st rx rs fin
  have lq := line_eq
  refine gCellM_ok st rx fin fun a ds es us d h1 h2 h3 h4 hf k => ?_
  split at hf
  · rename_i i y
    split at hf
    · rename_i hb
      cases hf
      obtain ⟨w, w', e3, r3, r4⟩ := reps2 rs
      obtain ⟨r3, _⟩ := r3
      subst r3
      refine ⟨a, us, i, w', h1, e3, h2, by rw [← h3.length]; omega, hb.1, hb.2.1, k .non _ ⟨rfl, rfl⟩ (((h3.take _).append (Reps.cons r4 Reps.nil)).append (h3.drop _)) ?_⟩
      simp; omega
    · cases hf
  · cases hf
/-- xs.extend(list) -/
def gExtend : D → List D → C D := fun x xs M => match x with
  | .h k => match xs with
    | [y] => match M[k]?, mlOf M y with
      | some (.lst ds), some es => if ds.length + es.length ≤ 16777216 then .ok (.v .non) (M.set k (.lst (ds ++ es))) else .stuck
      | _, _ => .stuck
    | _ => .stuck
  | _ => .stuck
theorem dr_extend {K : PySem.W.Frag} : DrM K rExtend gExtend := by
  intro S as M H σ ρ W x v xs vs Q st rx rs fin
  have lq := line_eq
  unfold gExtend at fin
  split at fin
  · rename_i k
    split at fin
    · rename_i y
      split at fin
      · rename_i ds es hk he
        split at fin
        · rename_i hl
          obtain ⟨a, h1, h2⟩ := rx
          subst h2
          obtain ⟨u, e2, r1⟩ := reps1 rs
          obtain ⟨us, h3, h4, h5⟩ := cell_lst st hk h1
          obtain ⟨b, ws, q1, q2, q3, q4⟩ := ml_of st r1 he
          subst q1
          refine ⟨a, b, us, ws, rfl, e2, h3, q2, by rw [← h4.length, ← q3.length]; omega, ?_⟩
          exact fin S as .non _ (Ext.write h1) (st.write (c := .lst (ds ++ es)) hk h1 ⟨h4.append q3, by simp; omega⟩) ⟨rfl, rfl⟩
        · exact fin.elim
      · exact fin.elim
    · exact fin.elim
  · exact fin.elim
/-- tuple(x) -/
def gTupOf : List D → C D := fun xs M => match xs with
  | [.tup ds] => .ok (.tup ds) M
  | [x] => match lstOf M x with
    | some ds => .ok (.tup ds) M
    | none => .stuck
  | _ => .stuck
section
variable {X : Cx} {W : WX} {pos p : Pos} {a b : Expr} {fs : Env → C (List D)}
theorem pd_tupOf (hm : X.mg "tuple" = none) (ha : PDs X W [a] fs) (hg : Gl X "tuple" := by rfl) (hs : starEach [a] X.env = (false, eval a X.env) :: starEach [] X.env := by rfl) (hpl : (backTo pos (starEach [] X.env)).any (·.1) = false := by rfl) : PD X W (.Call (.Name "tuple" p) [a] [] pos) (eN gTupOf fs) :=
  pd_callTy call_tuple_of (fun S as M H σ ρ W xs vs Q st rx fin => by
    unfold gTupOf at fin
    split at fin
    · rename_i ds
      obtain ⟨v, e2, r1⟩ := reps1 rx
      subst e2
      obtain ⟨c, us, h1, h2, h3, h4⟩ := tup_of st r1
      subst h1
      exact ⟨c, us, rfl, .inr ⟨h2, fin_ok st r1 fin⟩⟩
    · obtain ⟨v, e2, r1⟩ := reps1 rx
      subst e2
      split at fin
      · rename_i ds hd
        obtain ⟨c, us, h1, h2, h3, h4⟩ := lst_of st r1 hd
        subst h1
        exact ⟨c, us, rfl, .inl ⟨h2, fun l n => fin_tup st fin h3 h4 n⟩⟩
      · exact fin.elim
    · exact fin.elim) hm ha (by decide +kernel) hg (by decide) (by decide) hs hpl
end
theorem strOk_of (z : String) : PyData.strOk (Str.ofString z) = true := by
  unfold PyData.strOk
  rw [← Array.all_toList, show (Str.ofString z).cps.toList = z.toList.map Char.toNat from TL.tl_ofString z, List.all_map, List.all_eq_true]
  intro c _
  have h := c.valid
  show decide (c.toNat < 0x110000) = true
  rw [decide_eq_true_iff]
  rcases h with h | h
  · have : c.toNat < 0xd800 := h
    omega
  · exact h.2
/-- str(x) of an int or a text -/
def gStr : List D → C D := fun xs M => match xs with
  | [.v (.int i)] => if i.natAbs.log2 < 1920 then .ok (.v (.str (toString i))) M else .stuck
  | [.v (.str s)] => .ok (.v (.str s)) M
  | _ => .stuck
section
variable {X : Cx} {W : WX} {pos p : Pos} {a b : Expr} {fs : Env → C (List D)}
theorem pd_strOf (hm : X.mg "str" = none) (ha : PDs X W [a] fs) (hg : Gl X "str" := by rfl) (hs : starEach [a] X.env = (false, eval a X.env) :: starEach [] X.env := by rfl) (hpl : (backTo pos (starEach [] X.env)).any (·.1) = false := by rfl) : PD X W (.Call (.Name "str" p) [a] [] pos) (eN gStr fs) :=
  pd_callTy (call_str_int.orr SkE.call_str_str) (fun S as M H σ ρ W xs vs Q st rx fin => by
    unfold gStr at fin
    split at fin
    · rename_i i
      obtain ⟨v, e2, r1⟩ := reps1 rx
      obtain ⟨r1, _⟩ := r1
      subst r1
      split at fin
      · rename_i hz
        have hl := int_text_fits hz
        rw [sizeLine_eq] at hl
        exact .inl ⟨i, e2, hz, fin_ok (d := .v (.str _)) st ⟨rfl, okV_mk (strOk_of _) hl⟩ fin⟩
      · exact fin.elim
    · rename_i s
      obtain ⟨v, e2, r1⟩ := reps1 rx
      have r2 := r1
      obtain ⟨r1, _⟩ := r1
      subst r1
      exact .inr ⟨s, e2, fin_ok (d := .v (.str s)) st r2 fin⟩
    · exact fin.elim) hm ha (by decide +kernel) hg (by decide) (by decide) hs hpl
end
/-! ### list.index, any, all -/
def gIndex : D → List D → C D := fun x xs M => match xs with
  | [y] => match lstOf M x with
    | some ds => if (okEq (.lst ds) && okEq (resM M y)) = true then (match ds.findIdx? (fun z => deq z (resM M y)) with
      | some j => .ok (.v (.int (j : Int))) M
      | none => .stuck) else .stuck
    | none => .stuck
  | _ => .stuck
theorem toPys_map : ∀ ds : List D, toPys ds = ds.map toPy
  | [] => rfl
  | d :: ds => by
    unfold toPys
    rw [toPys_map ds]; rfl
theorem dr_index {K : PySem.W.Frag} : DrM K (rIndexD K) gIndex := by
  intro S as M H σ ρ W x v xs vs Q st rx rs fin
  unfold gIndex at fin
  split at fin
  · rename_i y
    split at fin
    · rename_i ds hds
      split at fin
      · rename_i hok
        rw [Bool.and_eq_true] at hok
        split at fin
        · rename_i j hj
          obtain ⟨u, e2, r1⟩ := reps1 rs
          obtain ⟨q1, q2⟩ := okEq_lst st rx hds hok.1
          obtain ⟨q3, q4⟩ := okEq_of st r1 hok.2
          obtain ⟨a, us, h1, _⟩ := lst_of st rx hds
          subst h1
          rw [List.findIdx?_eq_some_iff_getElem] at hj
          obtain ⟨hlt, hp, hmin⟩ := hj
          refine ⟨a, u, toPy (resM M y), toPys ds, j, toPy ds[j], rfl, e2, q1, q3, q2, q4, ?_, hp, fun m z' hm hz => ?_, fin_ok (d := .v (.int _)) st ⟨rfl, rfl⟩ fin⟩
          · rw [toPys_map, List.getElem?_map, List.getElem?_eq_getElem hlt]; rfl
          · rw [toPys_map, List.getElem?_map, List.getElem?_eq_getElem (by omega)] at hz
            cases hz
            have h9 : deq ds[m] (resM M y) = false := by simpa using hmin m hm
            exact h9
        · exact fin.elim
      · exact fin.elim
    · exact fin.elim
  · exact fin.elim
def blOf : D → Option Bool
  | .v (.bl b) => some b
  | _ => none
def blsOf (ds : List D) : Option (List Bool) := ds.mapM blOf
theorem Reps.bls {K : PySem.W.Frag} {S : Hp} {as : List Addr} : ∀ {ds : List D} {vs : List V} {bs : List Bool}, Reps K S as ds vs → blsOf ds = some bs → vs = bs.map V.bl
  | [], vs, bs, h, e => by
    have h : vs = [] := h
    subst h
    simp [blsOf] at e; subst e; rfl
  | d :: ds, vs, bs, h, e => by
    obtain ⟨v, r, h1, h2, h3⟩ := h
    subst h1
    unfold blsOf at e
    rw [List.mapM_cons] at e
    cases e1 : blOf d with
    | none => rw [e1] at e; cases e
    | some b =>
      rw [e1] at e
      cases e2 : ds.mapM blOf with
      | none => rw [e2] at e; cases e
      | some rest =>
        rw [e2] at e
        cases e
        have q1 := Reps.bls h3 e2
        subst q1
        cases d with
        | v z =>
          cases z with
          | bl z =>
            cases e1
            obtain ⟨r1, _⟩ := h2
            subst r1
            rfl
          | _ => cases e1
        | _ => cases e1
def gAll : List D → C D := fun xs M => match xs with
  | [x] => match lstOf M x with
    | some ds => match blsOf ds with
      | some bs => .ok (.v (.bl (bs.all id))) M
      | none => .stuck
    | none => .stuck
  | _ => .stuck
def gAny : List D → C D := fun xs M => match xs with
  | [x] => match lstOf M x with
    | some ds => match blsOf ds with
      | some bs => .ok (.v (.bl (bs.any id))) M
      | none => .stuck
    | none => .stuck
  | _ => .stuck
theorem dr_all {K : PySem.W.Frag} : DrN K (rAll K) gAll := fun S as M H σ ρ W xs vs Q st rx fin => by
  unfold gAll at fin
  split at fin
  · obtain ⟨v, e2, r1⟩ := reps1 rx
    split at fin
    · rename_i ds hds
      split at fin
      · rename_i bs hb
        obtain ⟨a, us, h1, h2, h3, _⟩ := lst_of st r1 hds
        have q := Reps.bls h3 hb
        subst h1 q
        exact ⟨a, bs, e2, h2, fin_ok (d := .v (.bl _)) st ⟨rfl, rfl⟩ fin⟩
      · exact fin.elim
    · exact fin.elim
  · exact fin.elim
theorem dr_any {K : PySem.W.Frag} : DrN K (rAny K) gAny := fun S as M H σ ρ W xs vs Q st rx fin => by
  unfold gAny at fin
  split at fin
  · obtain ⟨v, e2, r1⟩ := reps1 rx
    split at fin
    · rename_i ds hds
      split at fin
      · rename_i bs hb
        obtain ⟨a, us, h1, h2, h3, _⟩ := lst_of st r1 hds
        have q := Reps.bls h3 hb
        subst h1 q
        exact ⟨a, bs, e2, h2, fin_ok (d := .v (.bl _)) st ⟨rfl, rfl⟩ fin⟩
      · exact fin.elim
    · exact fin.elim
  · exact fin.elim
/-! ### sorted -/
def leS (a b : Str) : Bool := !decide (b.cps.toList < a.cps.toList)
theorem leS_iff {a b : Str} : leS a b = true ↔ a.cps.toList ≤ b.cps.toList := by
  unfold leS
  rw [Bool.not_eq_true', decide_eq_false_iff_not, List.not_lt]
theorem leS_trans (a b c : Str) (h : leS a b = true) (h' : leS b c = true) : leS a c = true := leS_iff.mpr (List.le_trans (leS_iff.mp h) (leS_iff.mp h'))
theorem leS_total (a b : Str) : (leS a b || leS b a) = true := by
  rcases List.le_total a.cps.toList b.cps.toList with h | h
  · rw [leS_iff.mpr h]; rfl
  · rw [leS_iff.mpr h, Bool.or_true]
theorem leS_anti {a b : Str} (h : leS a b = true) (h' : leS b a = true) : a = b := Str.ext' (Array.toList_inj.mp (List.le_antisymm (leS_iff.mp h) (leS_iff.mp h')))
def sortS (ss : List Str) : List Str := ss.mergeSort leS
theorem rising_pairwise : ∀ (p : Str) (ys : List Str), risingS p ys = true → (∀ y ∈ ys, leS p y = true) ∧ ys.Pairwise (fun a b => leS a b = true)
  | p, [], _ => ⟨fun _ h => by simp at h, .nil⟩
  | p, x :: r, h => by
    unfold risingS at h
    rw [Bool.and_eq_true] at h
    obtain ⟨h1, h2⟩ := h
    have hp : leS p x = true := by
      unfold leS
      rw [← ltCps_eq]; exact h1
    obtain ⟨q1, q2⟩ := rising_pairwise x r h2
    refine ⟨fun y hy => ?_, List.pairwise_cons.mpr ⟨q1, q2⟩⟩
    rcases List.mem_cons.mp hy with e | e
    · subst e; exact hp
    · exact leS_trans p x y hp (q1 y e)
theorem sortS_eq {ss ys : List Str} (hp : ys.Perm ss) (hs : sortedS ys = true) : ys = sortS ss := by
  have h1 : ys.Pairwise (fun a b => leS a b = true) := by
    cases ys with
    | nil => exact .nil
    | cons x r =>
      obtain ⟨q1, q2⟩ := rising_pairwise x r hs
      exact List.pairwise_cons.mpr ⟨q1, q2⟩
  exact List.Perm.eq_of_pairwise (le := fun a b => leS a b = true) (fun a b _ _ h h' => leS_anti h h') h1 (List.pairwise_mergeSort leS_trans leS_total ss) (hp.trans (List.mergeSort_perm ss leS).symm)
def gSorted (mk : List D → Mem → Out D) : List D → C D := fun xs M => match xs with
  | [x] => match lstOf M x with
    | some ds => match intsOf ds with
      | some ns => mk ((PySem.W.sortI ns).map fun i => .v (.int i)) M
      | none => match strsOf ds with
        | some ss => if ss.length < 64 then mk ((sortS ss).map fun s => .v (.str s)) M else .stuck
        | none => .stuck
    | none => .stuck
  | _ => .stuck
theorem reps_ints {K : PySem.W.Frag} {S : Hp} {as : List Addr} : ∀ ns : List Int, Reps K S as (ns.map fun i => D.v (.int i)) (ns.map V.int)
  | [] => rfl
  | i :: r => Reps.cons ⟨rfl, rfl⟩ (reps_ints r)
theorem reps_strs {K : PySem.W.Frag} {S : Hp} {as : List Addr} : ∀ ss : List Str, (∀ s ∈ ss, okV (.str s) = true) → Reps K S as (ss.map fun s => D.v (.str s)) (ss.map V.str)
  | [], _ => rfl
  | i :: r, h => Reps.cons ⟨rfl, h i (by simp)⟩ (reps_strs r fun s hs => h s (by simp [hs]))
section
variable {X : Cx} {W : WX} {pos p : Pos} {a b : Expr} {fs : Env → C (List D)}
theorem pd_sorted {mk : List D → Mem → Out D} (hmk : MkN X.K mk) (hm : X.mg "sorted" = none) (ha : PDs X W [a] fs) (hg : Gl X "sorted" := by rfl) (hs : starEach [a] X.env = (false, eval a X.env) :: starEach [] X.env := by rfl) (hpl : (backTo pos (starEach [] X.env)).any (·.1) = false := by rfl) : PD X W (.Call (.Name "sorted" p) [a] [] pos) (eN (gSorted mk) fs) :=
  pd_callB (cr_sortedI.orr cr_sortedS) (fun S as M H σ ρ W xs vs Q st rx fin => by
    unfold gSorted at fin
    split at fin
    · obtain ⟨v, e2, r1⟩ := reps1 rx
      split at fin
      · rename_i ds hds
        obtain ⟨c, us, h1, h2, h3, h4⟩ := lst_of st r1 hds
        subst h1
        split at fin
        · rename_i ns hn
          have q := Reps.ints h3 hn
          subst q
          refine .inl ⟨c, ns, e2, h2, fun ns' l hp hr n => ?_⟩
          have e := PySem.W.eq_sortI hp hr
          subst e
          exact hmk S as H W σ ρ M _ _ l Q st n (reps_ints _) (by rw [List.length_map, (PySem.W.sortI_perm ns).length_eq, ← List.length_map (f := V.int), ← h3.length]; exact h4) fin
        · split at fin
          · rename_i ss hss
            obtain ⟨q1, q2⟩ := Reps.strs h3 hss
            subst q1
            split at fin
            · rename_i hl
              refine .inr ⟨c, ss, e2, h2, hl, fun ys l hp hr n => ?_⟩
              have e := sortS_eq hp hr
              subst e
              exact hmk S as H W σ ρ M _ _ l Q st n (reps_strs _ fun s hs => q2 s ((List.mergeSort_perm ss leS).mem_iff.mp hs)) (by rw [List.length_map, hp.length_eq, ← List.length_map (f := V.str), ← h3.length]; exact h4) fin
            · exact fin.elim
          · exact fin.elim
      · exact fin.elim
    · exact fin.elim) hm (by decide +kernel) ha hg (by decide) (by decide) hs hpl
end
/-! ### f-strings -/
def gFmt : D → C D := fun x M => match x with
  | .v (.str s) => .ok (.v (.str s)) M
  | .v (.int i) => if i.natAbs.log2 < 1920 then .ok (.v (.str (toString i))) M else .stuck
  | _ => .stuck
def eFs : List (Env → C D) → Str → Env → C D
  | [], acc, _ => C.ret (.v (.str acc))
  | f :: fs, acc, ρ => (f ρ).bind fun x M => match x with
    | .v (.str y) => if acc.length + y.length ≤ 16777216 then eFs fs (acc ++ y) ρ M else .stuck
    | _ => .stuck
/-- the parts -/
inductive PFs (X : Cx) (W : WX) : List Expr → List (Env → C D) → Prop where
  | nil : PFs X W [] []
  | cons {e : Expr} {f : Env → C D} {es : List Expr} {fs : List (Env → C D)} (h : PD X W e f) (r : PFs X W es fs) : PFs X W (e :: es) (f :: fs)
section
variable {X : Cx} {W : WX} {pos : Pos} {e v1 v2 : Expr} {rest : List Expr} {fa : Env → C D}
theorem pd_fmt (he : PD X W e fa) : PD X W (.FormattedValue e (-1) none pos) (e1 gFmt fa) := (pe_fmt he).up fun σ H Q h => by
  obtain ⟨S, as, M, ρ, st, env, fin⟩ := h
  refine ⟨S, as, M, ρ, st, env, Fin.bind (g := gFmt) fin env fun S1 as1 M1 x v H1 e1 st1 env1 rx fin1 => ?_⟩
  unfold gFmt at fin1
  split at fin1
  · rename_i s
    have r2 := rx
    obtain ⟨r1, r3⟩ := rx
    subst r1
    exact .inl ⟨s, rfl, by rw [sizeLine_eq]; exact (okV_str r3).2, fin_ok (d := .v (.str s)) st1 r2 fin1⟩
  · rename_i i
    obtain ⟨r1, _⟩ := rx
    subst r1
    split at fin1
    · rename_i hz
      have hl := int_text_fits hz
      rw [sizeLine_eq] at hl
      exact .inr ⟨i, rfl, hz, fin_ok (d := .v (.str _)) st1 ⟨rfl, okV_mk (strOk_of _) hl⟩ fin1⟩
    · exact fin1.elim
  · exact fin1.elim
theorem PFs.pj {es : List Expr} {fs : List (Env → C D)} (h : PFs X W es fs) : PJ X es (fs.map (tD X.K W)) := by
  induction h with
  | nil => exact .nil
  | cons h r ih => exact .cons h ih
theorem fs_js : ∀ (fs : List (Env → C D)) (acc : Str) (σ : L2.St) (H : Hp) (Q : VK), okV (.str acc) = true → tD X.K W (eFs fs acc) σ H Q → tJs (fs.map (tD X.K W)) acc σ H fun out H1 => Q (.str out) H1
  | [], acc, σ, H, Q, ha, h => by
    obtain ⟨S, as, M, ρ, st, env, fin⟩ := h
    exact fin_ok (d := .v (.str acc)) st ⟨rfl, ha⟩ fin
  | f :: fs, acc, σ, H, Q, ha, h => by
    obtain ⟨S, as, M, ρ, st, env, fin⟩ := h
    refine ⟨S, as, M, ρ, st, env, Fin.bind (g := fun x M => match x with
      | .v (.str y) => if acc.length + y.length ≤ 16777216 then eFs fs (acc ++ y) ρ M else .stuck
      | _ => .stuck) fin env fun S1 as1 M1 x v H1 e1 st1 env1 rx fin1 => ?_⟩
    split at fin1
    · rename_i y
      obtain ⟨r1, r3⟩ := rx
      split at fin1
      · rename_i hl
        have hlen : (acc ++ y).length ≤ 16777216 := by rw [len_app]; exact hl
        exact ⟨y, r1, by rw [sizeLine_eq]; exact hlen, fs_js fs (acc ++ y) σ H1 Q (okV_mk (strOk_app (okV_str ha).1 (okV_str r3).1) hlen) ⟨S1, as1, M1, ρ, st1, env1, fin1⟩⟩
      · exact fin1.elim
    · exact fin1.elim
theorem pd_fstr {fs : List (Env → C D)} (h : PFs X W (v1 :: v2 :: rest) fs) : PD X W (.JoinedStr (v1 :: v2 :: rest) pos) (eFs fs Str.empty) :=
  (pe_joined h.pj).up fun σ H Q q => fs_js fs Str.empty σ H Q (by decide +kernel) q
theorem pd_fstr1 (he : PD X W e fa) : PD X W (.JoinedStr [e] pos) fa := pe_joined1 he
end
end DL
set_option Elab.async false
set_option maxRecDepth 100000
set_option maxHeartbeats 2000000
namespace DL
open PySem PySem.Spec PyProof.Rows L2
/-! ### dicts with keys that are ints or texts -/
def keyD : D → Option Key
  | .v (.int i) => some (.inl i)
  | .v (.str s) => some (.inr s)
  | _ => none
section
variable {κ : Type} [DecidableEq κ]
def findK : List κ → List D → κ → Option D
  | j :: ks, d :: ds, k => if j = k then some d else findK ks ds k
  | _, _, _ => none
def putKs : List κ → κ → List κ
  | [], k => [k]
  | j :: ks, k => if j = k then j :: ks else j :: putKs ks k
def putKd : List κ → List D → κ → D → List D
  | j :: ks, x :: ds, k, d => if j = k then d :: ds else x :: putKd ks ds k d
  | _, _, _, d => [d]
end
def keyT : D → Option (List Key)
  | .tup ds => ds.mapM keyD
  | _ => none
def dictT (M : Mem) : D → Option (List (List Key) × List D)
  | .dT ks ds => some (ks, ds)
  | .h k => match M[k]? with
    | some (.dT ks ds) => some (ks, ds)
    | _ => none
  | _ => none
def dictOf (M : Mem) : D → Option (List Key × List D)
  | .dK ks ds => some (ks, ds)
  | .h k => match M[k]? with
    | some (.dK ks ds) => some (ks, ds)
    | _ => none
  | _ => none
section
variable {K : PySem.W.Frag} {S : Hp} {as : List Addr} {M : Mem} {H : Hp} {κ : Type} [DecidableEq κ]
theorem keyD_ok {d : D} {v : V} {k : Key} (r : Rep K S as d v) (h : keyD d = some k) : v = kV k := by
  cases d with
  | v z =>
    obtain ⟨r1, _⟩ := r
    subst r1
    cases v <;> cases h <;> rfl
  | _ => cases h
theorem dict_of {d : D} {v : V} {ks : List Key} {ds : List D} (st : St K S as M H) (r : Rep K S as d v) (h : dictOf M d = some (ks, ds)) :
    ∃ a kvs, v = .ref a ∧ H a = some (.dK kvs) ∧ kvs.map (·.1) = ks ∧ Reps K S as ds (kvs.map (·.2)) ∧ ks.Nodup ∧ ks.length ≤ sizeLine := by
  cases d with
  | dK ks' ds' =>
    cases h
    obtain ⟨a, kvs, h1, h2, h3, h4, h5⟩ := r
    exact ⟨a, kvs, h1, st.ex _ _ h2, h3, h4, h5⟩
  | h k =>
    unfold dictOf at h
    cases e : M[k]? with
    | none => simp only [e] at h; cases h
    | some c =>
      simp only [e] at h
      cases c with
      | dK ks' ds' =>
        cases h
        obtain ⟨a, h1, h2⟩ := r
        obtain ⟨_, ho, h3, h4⟩ := st.cell k _ a e h1
        cases ho with
        | dK kvs =>
          obtain ⟨q1, q2, q3⟩ := h4
          exact ⟨a, kvs, h2, h3, q1, q2, q3⟩
        | _ => exact h4.elim
      | _ => cases h
  | _ => cases h
theorem keys_ok : ∀ {ds : List D} {vs : List V} {k : List Key}, Reps K S as ds vs → ds.mapM keyD = some k → vs = k.map kV
  | [], vs, k, r, h => by
    have r : vs = [] := r
    subst r
    simp at h
    subst h; rfl
  | d :: ds, vs, k, r, h => by
    obtain ⟨v, vs', h1, h2, h3⟩ := r
    subst h1
    rw [List.mapM_cons] at h
    cases e1 : keyD d with
    | none => rw [e1] at h; cases h
    | some j =>
      cases e2 : ds.mapM keyD with
      | none => rw [e1, e2] at h; cases h
      | some js =>
        rw [e1, e2] at h
        have h : some (j :: js) = some k := h
        cases h
        rw [List.map_cons, keyD_ok h2 e1, keys_ok h3 e2]
theorem keyT_ok {d : D} {v : V} {k : List Key} (st : St K S as M H) (r : Rep K S as d v) (h : keyT d = some k) : ∃ b, v = .ref b ∧ H b = some (.tup (k.map kV)) := by
  cases d with
  | tup ds =>
    obtain ⟨a, vs, h1, h2, h3, _⟩ := tup_at st r
    have e := keys_ok h3 (by exact h)
    subst e
    exact ⟨a, h1, h2⟩
  | _ => cases h
theorem dict_ofT {d : D} {v : V} {ks : List (List Key)} {ds : List D} (st : St K S as M H) (r : Rep K S as d v) (h : dictT M d = some (ks, ds)) :
    ∃ a kvs, v = .ref a ∧ H a = some (.dT kvs) ∧ kvs.map (·.1) = ks ∧ Reps K S as ds (kvs.map (·.2)) ∧ ks.Nodup ∧ ks.length ≤ sizeLine := by
  cases d with
  | dT ks' ds' =>
    cases h
    obtain ⟨a, kvs, h1, h2, h3, h4, h5⟩ := r
    exact ⟨a, kvs, h1, st.ex _ _ h2, h3, h4, h5⟩
  | h k =>
    unfold dictT at h
    cases e : M[k]? with
    | none => simp only [e] at h; cases h
    | some c =>
      simp only [e] at h
      cases c with
      | dT ks' ds' =>
        cases h
        obtain ⟨a, h1, h2⟩ := r
        obtain ⟨_, ho, h3, h4⟩ := st.cell k _ a e h1
        cases ho with
        | dT kvs =>
          obtain ⟨q1, q2, q3⟩ := h4
          exact ⟨a, kvs, h2, h3, q1, q2, q3⟩
        | _ => exact h4.elim
      | _ => cases h
  | _ => cases h
theorem find_val : ∀ {kvs : List (κ × V)} {ks : List κ} {ds : List D} {k : κ}, kvs.map (·.1) = ks → Reps K S as ds (kvs.map (·.2)) →
    (findK ks ds k = none ∧ valV kvs k = none) ∨ ∃ d v, findK ks ds k = some d ∧ valV kvs k = some v ∧ Rep K S as d v
  | [], ks, ds, k, h, r => by
    subst h
    exact .inl ⟨by simp [findK], valV_nil⟩
  | (j, x) :: kvs, ks, ds, k, h, r => by
    subst h
    cases ds with
    | nil => exact absurd r (by simp [Reps])
    | cons y ds =>
      obtain ⟨v, vs, h1, h2, h3⟩ := r
      rw [List.map_cons] at h1
      cases h1
      rw [List.map_cons]
      unfold findK
      by_cases hj : j = k
      · rw [if_pos hj]
        exact .inr ⟨y, x, rfl, valV_pos (p := (j, x)) hj, h2⟩
      · rw [if_neg hj, valV_neg (p := (j, x)) hj]
        exact find_val rfl h3
theorem putK_cons {j k : κ} {x v : V} {kvs : List (κ × V)} (hn : j ∉ kvs.map (·.1)) : putK ((j, x) :: kvs) k v = if j = k then (j, v) :: kvs else (j, x) :: putK kvs k v := by
  by_cases hj : j = k
  · subst hj
    have h0 : ∀ p ∈ kvs, (if p.1 = j then (p.1, v) else p) = p := fun p hp => if_neg (fun (e : p.1 = j) => hn (by rw [← e]; exact List.mem_map_of_mem hp))
    rw [if_pos rfl]
    unfold putK
    rw [if_pos (by simp), List.map_cons, if_pos rfl, List.map_congr_left h0]
    simp
  · rw [if_neg hj]
    unfold putK
    have ha : ((j, x) :: kvs).any (fun kv => decide (kv.1 = k)) = kvs.any fun kv => decide (kv.1 = k) := by simp [hj]
    rw [ha]
    by_cases hk : (kvs.any fun kv => decide (kv.1 = k)) = true
    · rw [if_pos hk, if_pos hk, List.map_cons, if_neg hj]
    · rw [if_neg hk, if_neg hk]; rfl
theorem putK_keys : ∀ {kvs : List (κ × V)} {ks : List κ} {k : κ} {v : V}, kvs.map (·.1) = ks → ks.Nodup → (putK kvs k v).map (·.1) = putKs ks k
  | [], ks, k, v, h, _ => by subst h; rfl
  | (j, x) :: kvs, ks, k, v, h, nd => by
    subst h
    rw [List.map_cons, List.nodup_cons] at nd
    rw [putK_cons nd.1, List.map_cons]
    unfold putKs
    by_cases hj : j = k
    · rw [if_pos hj, if_pos hj]; rfl
    · rw [if_neg hj, if_neg hj, List.map_cons, putK_keys rfl nd.2]
theorem putK_vals : ∀ {kvs : List (κ × V)} {ks : List κ} {ds : List D} {k : κ} {d : D} {v : V}, kvs.map (·.1) = ks → ks.Nodup → Reps K S as ds (kvs.map (·.2)) → Rep K S as d v → Reps K S as (putKd ks ds k d) ((putK kvs k v).map (·.2))
  | [], ks, ds, k, d, v, h, _, r, q => by
    subst h
    have : ds = [] := by
      cases ds with
      | nil => rfl
      | cons y ds => obtain ⟨_, _, h, _⟩ := r; cases h
    subst this
    exact Reps.cons q Reps.nil
  | (j, x) :: kvs, ks, ds, k, d, v, h, nd, r, q => by
    subst h
    rw [List.map_cons, List.nodup_cons] at nd
    cases ds with
    | nil => exact absurd r (by simp [Reps])
    | cons y ds =>
      obtain ⟨v', vs, h1, h2, h3⟩ := r
      rw [List.map_cons] at h1
      cases h1
      rw [putK_cons nd.1, List.map_cons]
      unfold putKd
      by_cases hj : j = k
      · rw [if_pos hj, if_pos hj]; exact Reps.cons q h3
      · rw [if_neg hj, if_neg hj, List.map_cons]; exact Reps.cons h2 (putK_vals rfl nd.2 h3 q)
theorem putKs_mem {ks : List κ} {k j : κ} : j ∈ putKs ks k → j = k ∨ j ∈ ks := by
  induction ks with
  | nil => intro h; exact .inl (List.mem_singleton.mp h)
  | cons i ks ih =>
    intro h
    unfold putKs at h
    by_cases hi : i = k
    · rw [if_pos hi] at h; exact .inr h
    · rw [if_neg hi] at h
      rcases List.mem_cons.mp h with e | e
      · subst e; exact .inr (List.mem_cons_self ..)
      · rcases ih e with e | e
        · exact .inl e
        · exact .inr (List.mem_cons_of_mem _ e)
theorem putKs_nodup {ks : List κ} {k : κ} (nd : ks.Nodup) : (putKs ks k).Nodup := by
  induction ks with
  | nil => simp [putKs]
  | cons i ks ih =>
    rw [List.nodup_cons] at nd
    unfold putKs
    by_cases hi : i = k
    · rw [if_pos hi]; exact List.nodup_cons.mpr nd
    · rw [if_neg hi]
      refine List.nodup_cons.mpr ⟨fun h => ?_, ih nd.2⟩
      rcases putKs_mem h with e | e
      · exact hi e
      · exact nd.1 e
theorem putKs_len {ks : List κ} {k : κ} : (putKs ks k).length ≤ ks.length + 1 := by
  induction ks with
  | nil => simp [putKs]
  | cons i ks ih =>
    unfold putKs
    split
    · simp
    · simp; omega
end
/-- what a dict says at a key: none if it is no such dict -/
def dlook (M : Mem) (x y : D) : Option (Option D) := match dictOf M x with
  | some (ks, ds) => (keyD y).map (findK ks ds)
  | none => match dictT M x with
    | some (ks, ds) => (keyT y).map (findK ks ds)
    | none => none
def isDict (M : Mem) (x : D) : Bool := (dictOf M x).isSome || (dictT M x).isSome
/-- d[k] where d is a dict -/
def gDGet : D → D → C D := fun x y M => match dlook M x y with
  | some (some d) => .ok d M
  | _ => .stuck
/-- d.get(k), d.get(k, z) -/
def gGet1 : D → D → C D := fun x y M => match dlook M x y with
  | some (some d) => .ok d M
  | some none => .ok (.v .non) M
  | none => .stuck
def gDIn : D → D → C D := fun y x M => match dlook M x y with
  | some r => .ok (.v (.bl r.isSome)) M
  | none => .stuck
def gDNotIn : D → D → C D := fun y x M => match dlook M x y with
  | some r => .ok (.v (.bl (!r.isSome))) M
  | none => .stuck
section
variable {X : Cx} {W : WX} {pos : Pos} {o i e : Expr} {fo fi fe : Env → C D}
theorem dlook_at {S1 : Hp} {as1 : List Addr} {M1 : Mem} {H1 : Hp} {x y : D} {v u : V} {r : Option D} (st : St X.K S1 as1 M1 H1) (rx : Rep X.K S1 as1 x v) (ry : Rep X.K S1 as1 y u) (h : dlook M1 x y = some r) :
    ∃ a, v = .ref a ∧ ((r = none ∧ DGet H1 a u none) ∨ ∃ d w, r = some d ∧ DGet H1 a u (some w) ∧ Rep X.K S1 as1 d w) := by
  unfold dlook at h
  split at h
  · rename_i ks ds hx
    cases hy : keyD y with
    | none => rw [hy] at h; cases h
    | some k =>
      rw [hy] at h
      cases h
      obtain ⟨a, kvs, h1, h2, h3, h4, _⟩ := dict_of st rx hx
      have hk := keyD_ok ry hy
      subst h1 hk
      have g := DGet.k (k := k) h2
      refine ⟨a, rfl, ?_⟩
      rcases find_val (k := k) h3 h4 with ⟨q1, q2⟩ | ⟨d, w, q1, q2, q3⟩
      · exact .inl ⟨q1, q2 ▸ g⟩
      · exact .inr ⟨d, w, q1, q2 ▸ g, q3⟩
  · split at h
    · rename_i ks ds hx
      cases hy : keyT y with
      | none => rw [hy] at h; cases h
      | some k =>
        rw [hy] at h
        cases h
        obtain ⟨a, kvs, h1, h2, h3, h4, _⟩ := dict_ofT st rx hx
        obtain ⟨b, hb, hH⟩ := keyT_ok st ry hy
        subst h1 hb
        have g := DGet.t (k := k) h2 hH
        refine ⟨a, rfl, ?_⟩
        rcases find_val (k := k) h3 h4 with ⟨q1, q2⟩ | ⟨d, w, q1, q2, q3⟩
        · exact .inl ⟨q1, q2 ▸ g⟩
        · exact .inr ⟨d, w, q1, q2 ▸ g, q3⟩
    · cases h
theorem hu1 (hu : X.A.units + 65 < cLine) : X.A.units + 1 < cLine := by omega
theorem pd_dget (hu : X.A.units + 65 < cLine) (ho : PD X W o fo) (hi : PD X W i fi) (hs : NoSl i := by exact fun _ _ => rfl) : PD X W (.Subscript o i pos) (e2 gDGet fo fi) :=
  (pe_dget (hu1 hu) ho hi hs).up fun σ H Q h => by
    obtain ⟨S, as, M, ρ, st, env, fin⟩ := h
    refine ⟨S, as, M, ρ, st, env, Fin.bind (g := fun x => (fi ρ).bind fun y => gDGet x y) fin env fun S1 as1 M1 x v H1 e1 st1 env1 rx fin1 => ?_⟩
    refine ⟨S1, as1, M1, ρ, st1, env1, Fin.bind (g := fun y => gDGet x y) fin1 env1 fun S2 as2 M2 y u H2 e2 st2 env2 ry fin2 => ?_⟩
    unfold gDGet at fin2
    split at fin2
    · rename_i d0 hx
      obtain ⟨a, h1, h2⟩ := dlook_at st2 (Rep.mono e2.same e2.pre _ _ rx) ry hx
      rcases h2 with ⟨q1, _⟩ | ⟨d, w, q1, q2, q3⟩
      · cases q1
      · cases q1
        exact ⟨a, w, h1, q2, fin_ok st2 q3 fin2⟩
    · exact fin2.elim
theorem pd_din (hu : X.A.units + 65 < cLine) (hi : PD X W i fi) (ho : PD X W o fo) (hm : behindInMarks .In o = false := by first | exact nomark _ | rfl) : PD X W (.Compare i [.In] [o] pos) (e2 gDIn fi fo) :=
  (pe_cmp (pc_din (hu1 hu) hi ho) hm).up fun σ H Q h => by
    obtain ⟨S, as, M, ρ, st, env, fin⟩ := h
    refine ⟨S, as, M, ρ, st, env, Fin.bind (g := fun y => (fo ρ).bind fun x => gDIn y x) fin env fun S1 as1 M1 y u H1 e1 st1 env1 ry fin1 => ?_⟩
    refine ⟨S1, as1, M1, ρ, st1, env1, Fin.bind (g := fun x => gDIn y x) fin1 env1 fun S2 as2 M2 x v H2 e2 st2 env2 rx fin2 => ?_⟩
    unfold gDIn at fin2
    split at fin2
    · rename_i r hx
      obtain ⟨a, h1, h2⟩ := dlook_at st2 rx (Rep.mono e2.same e2.pre _ _ ry) hx
      rcases h2 with ⟨q1, q2⟩ | ⟨d, w, q1, q2, q3⟩
      · rw [q1] at fin2
        exact ⟨a, none, h1, q2, fin_ok (d := .v (.bl _)) st2 ⟨rfl, rfl⟩ fin2⟩
      · rw [q1] at fin2
        exact ⟨a, some w, h1, q2, fin_ok (d := .v (.bl _)) st2 ⟨rfl, rfl⟩ fin2⟩
    · exact fin2.elim
theorem pd_dnotin (hu : X.A.units + 65 < cLine) (hi : PD X W i fi) (ho : PD X W o fo) (hm : behindInMarks .NotIn o = false := by first | exact nomark _ | rfl) : PD X W (.Compare i [.NotIn] [o] pos) (e2 gDNotIn fi fo) :=
  (pe_cmp (pc_dnotin (hu1 hu) hi ho) hm).up fun σ H Q h => by
    obtain ⟨S, as, M, ρ, st, env, fin⟩ := h
    refine ⟨S, as, M, ρ, st, env, Fin.bind (g := fun y => (fo ρ).bind fun x => gDNotIn y x) fin env fun S1 as1 M1 y u H1 e1 st1 env1 ry fin1 => ?_⟩
    refine ⟨S1, as1, M1, ρ, st1, env1, Fin.bind (g := fun x => gDNotIn y x) fin1 env1 fun S2 as2 M2 x v H2 e2 st2 env2 rx fin2 => ?_⟩
    unfold gDNotIn at fin2
    split at fin2
    · rename_i r hx
      obtain ⟨a, h1, h2⟩ := dlook_at st2 rx (Rep.mono e2.same e2.pre _ _ ry) hx
      rcases h2 with ⟨q1, q2⟩ | ⟨d, w, q1, q2, q3⟩
      · rw [q1] at fin2
        exact ⟨a, none, h1, q2, fin_ok (d := .v (.bl _)) st2 ⟨rfl, rfl⟩ fin2⟩
      · rw [q1] at fin2
        exact ⟨a, some w, h1, q2, fin_ok (d := .v (.bl _)) st2 ⟨rfl, rfl⟩ fin2⟩
    · exact fin2.elim
/-- d[k] = e -/
def dputM (M : Mem) (x y d : D) : Option Mem := match x with
  | .h j => match M[j]? with
    | some (.dK ks ds) => match keyD y with
      | some k => if ks.length < 16777216 then some (M.set j (.dK (putKs ks k) (putKd ks ds k d))) else none
      | none => none
    | some (.dT ks ds) => match keyT y with
      | some k => if ks.length < 16777216 then some (M.set j (.dT (putKs ks k) (putKd ks ds k d))) else none
      | none => none
    | _ => none
  | _ => none
theorem dput_at {S1 : Hp} {as1 : List Addr} {M1 M2 : Mem} {H1 : Hp} {x y d : D} {v u w : V} (st : St X.K S1 as1 M1 H1) (rx : Rep X.K S1 as1 x v) (ry : Rep X.K S1 as1 y u) (rd : Rep X.K S1 as1 d w) (h : dputM M1 x y d = some M2) :
    ∃ a H2, v = .ref a ∧ DPut H1 a u w H2 ∧ Ext S1 as1 H1 S1 as1 H2 ∧ St X.K S1 as1 M2 H2 := by
  have lq := line_eq
  unfold dputM at h
  split at h
  · rename_i j
    split at h
    · rename_i ks ds hk
      split at h
      · rename_i k hy
        split at h
        · rename_i hl
          cases h
          obtain ⟨a, h1, h2⟩ := id rx
          obtain ⟨a', kvs, q1, q2, q3, q4, q5, q6⟩ := dict_of (ks := ks) (ds := ds) st rx (by unfold dictOf; simp only [hk])
          subst h2
          cases q1
          have e := keyD_ok ry hy
          subst e
          have hlen : ks.length = kvs.length := by rw [← q3, List.length_map]
          have hp := @putKs_len _ _ ks k
          exact ⟨a, _, rfl, DPut.k q2 (by omega), Ext.write h1, st.write (c := .dK (putKs ks k) (putKd ks ds k d)) (ho := .dK (putK kvs k w)) hk h1 ⟨putK_keys q3 q5, putK_vals q3 q5 q4 rd, putKs_nodup q5, by omega⟩⟩
        · cases h
      · cases h
    · rename_i ks ds hk
      split at h
      · rename_i k hy
        split at h
        · rename_i hl
          cases h
          obtain ⟨a, h1, h2⟩ := id rx
          obtain ⟨a', kvs, q1, q2, q3, q4, q5, q6⟩ := dict_ofT (ks := ks) (ds := ds) st rx (by unfold dictT; simp only [hk])
          obtain ⟨b, hb, hH⟩ := keyT_ok st ry hy
          subst h2 hb
          cases q1
          have hlen : ks.length = kvs.length := by rw [← q3, List.length_map]
          have hp := @putKs_len _ _ ks k
          exact ⟨a, _, rfl, DPut.t q2 hH (by omega), Ext.write h1, st.write (c := .dT (putKs ks k) (putKd ks ds k d)) (ho := .dT (putK kvs k w)) hk h1 ⟨putK_keys q3 q5, putK_vals q3 q5 q4 rd, putKs_nodup q5, by omega⟩⟩
        · cases h
      · cases h
    · cases h
  · cases h
def sDPut (fo fi fe : Env → C D) : Cs := fun ρ => sE (fe ρ) ρ fun d => sE (fo ρ) ρ fun x => sE (fi ρ) ρ fun y M => match dputM M x y d with
  | some M' => .nx ρ M'
  | none => .stuck
theorem sd_dput {tp : Pos} (hu : X.A.units + 65 < cLine) (ho : PD X W o fo) (hi : PD X W i fi) (he : PD X W e fe) (hs : swapsWith e (some (.Subscript o i tp)) pos.line X.env = pure false := by rfl) : SD X W (.Assign [.Subscript o i tp] e pos) (sDPut fo fi fe) :=
  (ps_dput (hu1 hu) ho hi he hs).up fun De σ H h => by
    obtain ⟨S, as, M, ρ, st, env, fin⟩ := h
    refine ⟨S, as, M, ρ, st, env, FinS.bindE (g := fun d => sE (fo ρ) ρ fun x => sE (fi ρ) ρ fun y M => match dputM M x y d with
      | some M' => .nx ρ M'
      | none => .stuck) fin env fun S1 as1 M1 d v H1 e1 st1 env1 rd fin1 => ?_⟩
    refine ⟨S1, as1, M1, ρ, st1, env1, FinS.bindE (g := fun x => sE (fi ρ) ρ fun y M => match dputM M x y d with
      | some M' => .nx ρ M'
      | none => .stuck) fin1 env1 fun S2 as2 M2 x ov H2 e2 st2 env2 ro fin2 => ?_⟩
    refine ⟨S2, as2, M2, ρ, st2, env2, FinS.bindE (g := fun y M => match dputM M x y d with
      | some M' => .nx ρ M'
      | none => .stuck) fin2 env2 fun S3 as3 M3 y iv H3 e3 st3 env3 ri fin3 => ?_⟩
    have ro3 := Rep.mono e3.same e3.pre _ _ ro
    have rd3 := Rep.mono (e2.trans e3).same (e2.trans e3).pre _ _ rd
    split at fin3
    · rename_i M' hM
      obtain ⟨a, H4, q1, q2, q3, q4⟩ := dput_at st3 ro3 ri rd3 hM
      exact ⟨a, H4, q1, q2, fin3 S3 as3 σ H4 q3 q4 env3⟩
    · exact fin3.elim
/-- {} as a cell -/
def eDNew : Env → C D := fun _ M => .ok (.h M.length) (M ++ [.dK [] []])
theorem pd_dnew : PD X W (.Dict [] [] pos) eDNew := pe_dnewK.up fun σ H Q h => by
  obtain ⟨S, as, M, ρ, st, env, fin⟩ := h
  exact fun p n => fin_cell (c := .dK [] []) (ho := .dK []) st fin ⟨rfl, Reps.nil, List.nodup_nil, Nat.zero_le _⟩ n
def eDNewT : Env → C D := fun _ M => .ok (.h M.length) (M ++ [.dT [] []])
theorem pd_dnewT : PD X W (.Dict [] [] pos) eDNewT := pe_dnewT.up fun σ H Q h => by
  obtain ⟨S, as, M, ρ, st, env, fin⟩ := h
  exact fun p n => fin_cell (c := .dT [] []) (ho := .dT []) st fin ⟨rfl, Reps.nil, List.nodup_nil, Nat.zero_le _⟩ n
/-! methods of dicts -/
def eGet1 (fo fi : Env → C D) : Env → C D := fun ρ => (fo ρ).bind fun x M => match isDict M x with
  | true => (fi ρ).bind (gGet1 x) M
  | false => .stuck
def gGet2 (x y z : D) : C D := fun M => match dlook M x y with
  | some (some d) => .ok d M
  | some none => .ok z M
  | none => .stuck
def eGet2 (fo fi fe : Env → C D) : Env → C D := fun ρ => (fo ρ).bind fun x M => match isDict M x with
  | true => (fi ρ).bind (fun y => (fe ρ).bind fun z => gGet2 x y z) M
  | false => .stuck
theorem isD_of {S1 : Hp} {as1 : List Addr} {M1 : Mem} {H1 : Hp} {x : D} {v : V} (st : St X.K S1 as1 M1 H1) (rx : Rep X.K S1 as1 x v) (h : isDict M1 x = true) : ∃ a, v = .ref a ∧ IsD H1 a := by
  unfold isDict at h
  rw [Bool.or_eq_true] at h
  rcases h with h | h
  · obtain ⟨⟨ks, ds⟩, e⟩ := Option.isSome_iff_exists.mp h
    obtain ⟨a, kvs, h1, h2, _⟩ := dict_of st rx e
    exact ⟨a, h1, .inl ⟨kvs, .inl h2⟩⟩
  · obtain ⟨⟨ks, ds⟩, e⟩ := Option.isSome_iff_exists.mp h
    obtain ⟨a, kvs, h1, h2, _⟩ := dict_ofT st rx e
    exact ⟨a, h1, .inr ⟨kvs, .inl h2⟩⟩
theorem pd_get1 {apos cpos : Pos} (hu : X.A.units + 65 < cLine) (ho : PD X W o fo) (hi : PD X W i fi) (m : M1 X o "get" apos i cpos := by exact ⟨rfl, rfl, rfl, rfl⟩) : PD X W (.Call (.Attribute o "get" apos) [i] [] cpos) (eGet1 fo fi) :=
  (pe_dget1 (hu1 hu) ho hi m).up fun σ H Q h => by
    obtain ⟨S, as, M, ρ, st, env, fin⟩ := h
    refine ⟨S, as, M, ρ, st, env, Fin.bind (g := fun x M => match isDict M x with
      | true => (fi ρ).bind (gGet1 x) M
      | false => .stuck) fin env fun S1 as1 M1 x v H1 e1 st1 env1 rx fin1 => ?_⟩
    split at fin1
    · rename_i hp
      obtain ⟨a, h1, h2⟩ := isD_of st1 rx hp
      refine ⟨a, h1, h2, S1, as1, M1, ρ, st1, env1, Fin.bind (g := gGet1 x) fin1 env1 fun S2 as2 M2 y u H2 e2 st2 env2 ry fin2 => ?_⟩
      unfold gGet1 at fin2
      split at fin2
      · rename_i d0 hx
        obtain ⟨a', q0, h2⟩ := dlook_at st2 (Rep.mono e2.same e2.pre _ _ rx) ry hx
        rw [h1] at q0
        cases q0
        rcases h2 with ⟨q1, q2⟩ | ⟨d, w, q1, q2, q3⟩
        · cases q1
        · cases q1
          exact ⟨some w, q2, fin_ok st2 q3 fin2⟩
      · rename_i hx
        obtain ⟨a', q0, h2⟩ := dlook_at st2 (Rep.mono e2.same e2.pre _ _ rx) ry hx
        rw [h1] at q0
        cases q0
        rcases h2 with ⟨q1, q2⟩ | ⟨d, w, q1, q2, q3⟩
        · exact ⟨none, q2, fin_ok (d := .v .non) st2 ⟨rfl, rfl⟩ fin2⟩
        · cases q1
      · exact fin2.elim
    · exact fin1.elim
theorem pd_get2 {apos cpos : Pos} (hu : X.A.units + 65 < cLine) (ho : PD X W o fo) (hi : PD X W i fi) (he : PD X W e fe) (m : M2 X o "get" apos i e cpos := by exact ⟨rfl, rfl, rfl, rfl⟩) : PD X W (.Call (.Attribute o "get" apos) [i, e] [] cpos) (eGet2 fo fi fe) :=
  (pe_dget2 (hu1 hu) ho hi he m).up fun σ H Q h => by
    obtain ⟨S, as, M, ρ, st, env, fin⟩ := h
    refine ⟨S, as, M, ρ, st, env, Fin.bind (g := fun x M => match isDict M x with
      | true => (fi ρ).bind (fun y => (fe ρ).bind fun z => gGet2 x y z) M
      | false => .stuck) fin env fun S1 as1 M1 x v H1 e1 st1 env1 rx fin1 => ?_⟩
    split at fin1
    · rename_i hp
      obtain ⟨a, h1, h2⟩ := isD_of st1 rx hp
      refine ⟨a, h1, h2, S1, as1, M1, ρ, st1, env1, Fin.bind (g := fun y => (fe ρ).bind fun z => gGet2 x y z) fin1 env1 fun S2 as2 M2 y u H2 e2 st2 env2 ry fin2 => ?_⟩
      refine ⟨S2, as2, M2, ρ, st2, env2, Fin.bind (g := fun z => gGet2 x y z) fin2 env2 fun S3 as3 M3 z w3 H3 e3 st3 env3 rz fin3 => ?_⟩
      unfold gGet2 at fin3
      split at fin3
      · rename_i d0 hx
        obtain ⟨a', q0, h2⟩ := dlook_at st3 (Rep.mono (e2.trans e3).same (e2.trans e3).pre _ _ rx) (Rep.mono e3.same e3.pre _ _ ry) hx
        rw [h1] at q0
        cases q0
        rcases h2 with ⟨q1, q2⟩ | ⟨d, w, q1, q2, q3⟩
        · cases q1
        · cases q1
          exact ⟨some w, q2, fin_ok st3 q3 fin3⟩
      · rename_i hx
        obtain ⟨a', q0, h2⟩ := dlook_at st3 (Rep.mono (e2.trans e3).same (e2.trans e3).pre _ _ rx) (Rep.mono e3.same e3.pre _ _ ry) hx
        rw [h1] at q0
        cases q0
        rcases h2 with ⟨q1, q2⟩ | ⟨d, w, q1, q2, q3⟩
        · exact ⟨none, q2, fin_ok st3 rz fin3⟩
        · cases q1
      · exact fin3.elim
    · exact fin1.elim
def gSetd (x y z : D) : C D := fun M => match x, keyD y with
  | .h j, some k => match M[j]? with
    | some (.dK ks ds) => if ks.length < 16777216 then (match findK ks ds k with
      | some d => .ok d M
      | none => .ok z (M.set j (.dK (putKs ks k) (putKd ks ds k z)))) else .stuck
    | _ => .stuck
  | _, _ => .stuck
def eSetd (fo fi fe : Env → C D) : Env → C D := fun ρ => (fo ρ).bind fun x M => match isDict M x with
  | true => (fi ρ).bind (fun y => (fe ρ).bind fun z => gSetd x y z) M
  | false => .stuck
theorem pd_setd {apos cpos : Pos} (ho : PD X W o fo) (hi : PD X W i fi) (he : PD X W e fe) (m : M2 X o "setdefault" apos i e cpos := by exact ⟨rfl, rfl, rfl, rfl⟩) : PD X W (.Call (.Attribute o "setdefault" apos) [i, e] [] cpos) (eSetd fo fi fe) :=
  (pe_dsetd ho hi he m).up fun σ H Q h => by
    have lq := line_eq
    obtain ⟨S, as, M, ρ, st, env, fin⟩ := h
    refine ⟨S, as, M, ρ, st, env, Fin.bind (g := fun x M => match isDict M x with
      | true => (fi ρ).bind (fun y => (fe ρ).bind fun z => gSetd x y z) M
      | false => .stuck) fin env fun S1 as1 M1 x v H1 e1 st1 env1 rx fin1 => ?_⟩
    split at fin1
    · rename_i hp
      obtain ⟨a, h1, h2⟩ := isD_of st1 rx hp
      refine ⟨a, h1, h2, S1, as1, M1, ρ, st1, env1, Fin.bind (g := fun y => (fe ρ).bind fun z => gSetd x y z) fin1 env1 fun S2 as2 M2 y u H2 e2 st2 env2 ry fin2 => ?_⟩
      refine ⟨S2, as2, M2, ρ, st2, env2, Fin.bind (g := fun z => gSetd x y z) fin2 env2 fun S3 as3 M3 z w3 H3 e3 st3 env3 rz fin3 => ?_⟩
      have rx3 := Rep.mono (e2.trans e3).same (e2.trans e3).pre _ _ rx
      have ry3 := Rep.mono e3.same e3.pre _ _ ry
      unfold gSetd at fin3
      split at fin3
      · rename_i j k hy
        split at fin3
        · rename_i ks ds hk
          split at fin3
          · rename_i hl
            obtain ⟨a2, g1, g2⟩ := id rx3
            obtain ⟨a', kvs, q1, q2, q3, q4, q5, q6⟩ := dict_of (ks := ks) (ds := ds) st3 rx3 (by unfold dictOf; simp only [hk])
            rw [h1] at g2 q1
            cases g2
            cases q1
            have ek := keyD_ok ry3 hy
            subst ek
            have hlen : ks.length = kvs.length := by rw [← q3, List.length_map]
            have hpl := @putKs_len _ _ ks k
            refine ⟨kvs, k, q2, rfl, by omega, fun v' hv' => ?_, fun hn => ?_⟩
            · rcases find_val (k := k) q3 q4 with ⟨z1, z2⟩ | ⟨d, w, z1, z2, z3⟩
              · rw [z2] at hv'; cases hv'
              · rw [z2] at hv'; cases hv'
                rw [z1] at fin3
                exact fin_ok st3 z3 fin3
            · rcases find_val (k := k) q3 q4 with ⟨z1, z2⟩ | ⟨d, w, z1, z2, z3⟩
              · rw [z1] at fin3
                exact fin3 S3 as3 w3 _ (Ext.write g1) (st3.write (c := .dK (putKs ks k) (putKd ks ds k z)) (ho := .dK (putK kvs k w3)) hk g1 ⟨putK_keys q3 q5, putK_vals q3 q5 q4 rz, putKs_nodup q5, by omega⟩) rz
              · rw [z2] at hn; cases hn
          · exact fin3.elim
        · exact fin3.elim
      · exact fin3.elim
    · exact fin1.elim
end
/-! ### displays of dicts -/
abbrev F2 := List ((Env → C D) × (Env → C D))
def eTwo : F2 → Env → C (List (D × D))
  | [], _ => C.ret []
  | (f, g) :: r, ρ => (f ρ).bind fun x => (g ρ).bind fun y => (eTwo r ρ).bind fun ps => C.ret ((x, y) :: ps)
def RPs (K : PySem.W.Frag) : Hp → List Addr → List (D × D) → List (V × V) → Prop := fun S as ps vs => Reps K S as (ps.map (·.1)) (vs.map (·.1)) ∧ Reps K S as (ps.map (·.2)) (vs.map (·.2))
theorem two_ok {K : PySem.W.Frag} {W : WX} {ρ : Env} {σ : L2.St} : ∀ (fs : F2) (S : Hp) (as : List Addr) (M : Mem) (H : Hp) (Q : List (V × V) → Hp → Prop), St K S as M H → EnvOk K S as σ ρ → Fin (RPs K) K S as H W σ ρ (eTwo fs ρ M) Q →
    tPairs (fs.map fun p => (tD K W p.1, tD K W p.2)) σ H Q
  | [], S, as, M, H, Q, st, env, fin => fin S as [] H (Ext.refl _ _ _) st ⟨Reps.nil, Reps.nil⟩
  | (f, g) :: r, S, as, M, H, Q, st, env, fin => by
    refine ⟨S, as, M, ρ, st, env, Fin.bind (g := fun x => (g ρ).bind fun y => (eTwo r ρ).bind fun ps => C.ret ((x, y) :: ps)) fin env fun S1 as1 M1 x v H1 e1 st1 env1 rx fin1 => ?_⟩
    refine ⟨S1, as1, M1, ρ, st1, env1, Fin.bind (g := fun y => (eTwo r ρ).bind fun ps => C.ret ((x, y) :: ps)) fin1 env1 fun S2 as2 M2 y u H2 e2 st2 env2 ry fin2 => ?_⟩
    refine two_ok r S2 as2 M2 H2 _ st2 env2 (Fin.bind (R := RPs K) (g := fun ps => C.ret ((x, y) :: ps)) fin2 env2 fun S3 as3 M3 ps vs H3 e3 st3 env3 rp fin3 => ?_)
    exact fin3 S3 as3 ((v, u) :: vs) H3 (Ext.refl _ _ _) st3 ⟨Reps.cons (Rep.mono (e2.trans e3).same (e2.trans e3).pre _ _ rx) rp.1, Reps.cons (Rep.mono e3.same e3.pre _ _ ry) rp.2⟩
def keysP : List (D × D) → Option (List (Key × D))
  | [] => some []
  | (x, y) :: r => match keyD x, keysP r with
    | some k, some kds => some ((k, y) :: kds)
    | _, _ => none
def mergeN : List Key → List D → List (Key × D) → List Key × List D
  | ks, ds, [] => (ks, ds)
  | ks, ds, (k, d) :: r => mergeN (putKs ks k) (putKd ks ds k d) r
def eDisp (fs : F2) : Env → C D := fun ρ M => match eTwo fs ρ (M ++ [.dK [] []]) with
  | .ok qs M2 => match M2[M.length]?, keysP qs with
    | some (.dK [] []), some kds => if kds.length ≤ 15 then .ok (.h M.length) (M2.set M.length (.dK (mergeN [] [] kds).1 (mergeN [] [] kds).2)) else .stuck
    | _, _ => .stuck
  | .er x M2 => .er x M2
  | .stuck => .stuck
theorem keysP_ok {K : PySem.W.Frag} {S : Hp} {as : List Addr} : ∀ {ps : List (D × D)} {vs : List (V × V)} {kds : List (Key × D)}, RPs K S as ps vs → keysP ps = some kds →
    ∃ kvs : List (Key × V), vs = kvs.map (fun kv => (kV kv.1, kv.2)) ∧ kvs.map (·.1) = kds.map (·.1) ∧ Reps K S as (kds.map (·.2)) (kvs.map (·.2))
  | [], vs, kds, r, h => by
    cases h
    have h0 : vs.map (·.1) = [] := r.1
    have : vs = [] := List.map_eq_nil_iff.mp h0
    subst this
    exact ⟨[], rfl, rfl, Reps.nil⟩
  | (x, y) :: ps, vs, kds, r, h => by
    unfold keysP at h
    split at h
    · rename_i k kds' hk hr
      cases h
      cases vs with
      | nil =>
        obtain ⟨_, _, e, _⟩ := r.1
        cases e
      | cons p vs =>
        obtain ⟨v, w⟩ := p
        obtain ⟨⟨v1, r1, e1, e2, e3⟩, ⟨v2, r2, e4, e5, e6⟩⟩ := r
        cases e1
        cases e4
        obtain ⟨kvs, q1, q2, q3⟩ := keysP_ok (vs := vs) ⟨e3, e6⟩ hr
        have ek := keyD_ok e2 hk
        have ek : v = kV k := ek
        subst ek
        subst q1
        exact ⟨(k, w) :: kvs, rfl, by rw [List.map_cons, List.map_cons, q2], Reps.cons e5 q3⟩
    · cases h
theorem mergeN_ok {K : PySem.W.Frag} {S : Hp} {as : List Addr} : ∀ (kds : List (Key × D)) (kvs acc : List (Key × V)) (ks : List Key) (ds : List D), kvs.map (·.1) = kds.map (·.1) → Reps K S as (kds.map (·.2)) (kvs.map (·.2)) → acc.map (·.1) = ks → ks.Nodup → Reps K S as ds (acc.map (·.2)) →
    (mergeK acc kvs).map (·.1) = (mergeN ks ds kds).1 ∧ Reps K S as (mergeN ks ds kds).2 ((mergeK acc kvs).map (·.2)) ∧ (mergeN ks ds kds).1.Nodup ∧ (mergeN ks ds kds).1.length ≤ ks.length + kds.length
  | [], kvs, acc, ks, ds, h, _, h1, h2, h3 => by
    have : kvs = [] := List.map_eq_nil_iff.mp h
    subst this
    exact ⟨h1, h3, h2, by simp [mergeN]⟩
  | (k, d) :: kds, [], acc, ks, ds, h, _, h1, h2, h3 => by cases h
  | (k, d) :: kds, (j, v) :: kvs, acc, ks, ds, h, r, h1, h2, h3 => by
    rw [List.map_cons, List.map_cons] at h
    injection h with e1 e2
    have e1 : j = k := e1
    subst e1
    obtain ⟨v', vs, q1, q2, q3⟩ := r
    rw [List.map_cons] at q1
    cases q1
    obtain ⟨z1, z2, z3, z4⟩ := mergeN_ok kds kvs (putK acc j v) (putKs ks j) (putKd ks ds j d) e2 q3 (putK_keys h1 h2) (putKs_nodup h2) (putK_vals h1 h2 h3 q2)
    have hp := @putKs_len _ _ ks j
    exact ⟨z1, z2, z3, by unfold mergeN; rw [List.length_cons]; omega⟩
/-- the pairs' judgements -/
inductive PF2 (X : Cx) (W : WX) : List (Option Expr) → List Expr → F2 → Prop where
  | nil : PF2 X W [] [] []
  | cons {k v : Expr} {f g : Env → C D} {ks : List (Option Expr)} {vs : List Expr} {fs : F2} (hk : PD X W k f) (hv : PD X W v g) (r : PF2 X W ks vs fs) : PF2 X W (some k :: ks) (v :: vs) ((f, g) :: fs)
section
variable {X : Cx} {W : WX} {pos : Pos} {ks : List (Option Expr)} {vs : List Expr} {fs : F2}
theorem PF2.pps (h : PF2 X W ks vs fs) : PPs X pos ks vs (fs.map fun p => (tD X.K W p.1, tD X.K W p.2)) := by
  induction h with
  | nil => exact pps_nil
  | cons hk hv r ih => exact pps_cons hk hv ih
theorem pd_disp (h : PF2 X W ks vs fs) (hall : ks.all (·.isSome) = true := by rfl) (hl : ks.length = vs.length := by rfl) (h0 : ks ≠ [] := by exact fun z => nomatch z) (h15 : ks.length ≤ 15 := by decide) : PD X W (.Dict ks vs pos) (eDisp fs) :=
  (pe_disp h.pps hall hl h0 h15).up fun σ H Q q => by
    have lq := line_eq
    obtain ⟨S, as, M, ρ, st, env, fin⟩ := q
    intro p hp
    have st1 := st.fresh (p := p) (ho := .dK []) (c := .dK [] []) hp ⟨rfl, Reps.nil, List.nodup_nil, Nat.zero_le _⟩
    have e1 := Ext.fresh (ho := .dK []) st hp
    have hat : (as ++ [p])[M.length]? = some p := by rw [← st.len]; simp
    refine two_ok fs S (as ++ [p]) (M ++ [.dK [] []]) _ _ st1 (env.mono e1.same e1.pre) ?_
    unfold eDisp at fin
    cases et : eTwo fs ρ (M ++ [.dK [] []]) with
    | ok qs M2 =>
      simp only [et] at fin
      intro S2 as2 vs2 H2 x2 st2 rp
      split at fin
      · rename_i kds hc hk
        split at fin
        · rename_i h15
          have ha2 := x2.pre _ _ hat
          obtain ⟨_, ho, g1, g2⟩ := st2.cell _ _ _ hc ha2
          cases ho with
          | dK kvs0 =>
            obtain ⟨g3, _⟩ := g2
            have : kvs0 = [] := List.map_eq_nil_iff.mp g3
            subst this
            obtain ⟨kvs, q1, q2, q3⟩ := keysP_ok rp hk
            obtain ⟨z1, z2, z3, z4⟩ := mergeN_ok kds kvs [] [] [] q2 q3 rfl List.nodup_nil Reps.nil
            have hlen : kvs.length = kds.length := by rw [← List.length_map (f := (·.1)), q2, List.length_map]
            refine ⟨g1, kvs, q1, by omega, ?_⟩
            have stw := st2.write (c := .dK (mergeN [] [] kds).1 (mergeN [] [] kds).2) (ho := .dK (mergeK [] kvs)) hc ha2 ⟨z1, z2, z3, by rw [List.length_nil] at z4; omega⟩
            exact fin S2 as2 (.ref p) _ ((e1.trans x2).trans (Ext.write ha2)) stw ⟨p, ha2, rfl⟩
          | _ => exact g2.elim
        · exact fin.elim
      · exact fin.elim
    | er y M2 =>
      simp only [et] at fin
      exact fun S2 as2 H2 dd x2 st2 env2 eo => fin S2 as2 H2 dd (e1.trans x2) st2 env2 eo
    | stuck =>
      simp only [et] at fin
      exact fin.elim
end
end DL
set_option Elab.async false
set_option maxRecDepth 100000
set_option maxHeartbeats 2000000
namespace DL
open PySem PySem.Spec PyProof.Rows L2 NKD
/-! ### dicts with nested keys -/
/-- the world that the walk is in -/
class HW where
  w : World
section
variable {K : PySem.W.Frag} {S : Hp} {as : List Addr} {M : Mem} {H : Hp} {P : Program} {w : World}
mutual
theorem nk_at {h : Heap} (ok : HOk P w H h) (e : Same S H) : ∀ (d : D) (v : V) (k : NestedKey) (u : Value), Rep K S as d v → nkey d = some k → RelV v u → NestedIs h k u
  | .v x, v, k, u, r, hk, ru => by
    obtain ⟨r1, _⟩ := r
    subst r1
    cases v with
    | non => cases hk; cases (show u = Value.none from ru); exact .none
    | bl b => cases hk; cases (show u = Value.bool b from ru); exact .bool rfl
    | int i => cases hk; obtain ⟨t, q⟩ := (show ∃ t, u = Value.int i t from ru); subst q; exact .int i t
    | str s => cases hk; obtain ⟨t, q⟩ := (show ∃ t, u = Value.str s t from ru); subst q; exact .text s t
    | _ => cases hk
  | .tup ds, v, k, u, r, hk, ru => by
    obtain ⟨a, vs, h1, h2, h3, h4⟩ := r
    subst h1
    unfold nkey at hk
    split at hk
    · rename_i ks hks
      cases hk
      cases (show u = Value.ref a from ru)
      obtain ⟨_, its, r, o, g1, g2, n, g3⟩ := (show ObjOk P w H h a (.tup vs) from ok a _ (e _ _ h2))
      exact .tup g1 g2 g3 (by simpa using nks_at ok e ds vs ks its h3 hks r)
    · cases hk
  | .h _, _, _, _, _, hk, _ => by simp [nkey] at hk
  | .lst _, _, _, _, _, hk, _ => by simp [nkey] at hk
  | .ro _, _, _, _, _, hk, _ => by simp [nkey] at hk
  | .kt _, _, _, _, _, hk, _ => by simp [nkey] at hk
  | .ins _ _ _, _, _, _, _, hk, _ => by simp [nkey] at hk
  | .dK _ _, _, _, _, _, hk, _ => by simp [nkey] at hk
  | .dT _ _, _, _, _, _, hk, _ => by simp [nkey] at hk
  | .dN _ _ _, _, _, _, _, hk, _ => by simp [nkey] at hk
  | .cl _, _, _, _, _, hk, _ => by simp [nkey] at hk
theorem nks_at {h : Heap} (ok : HOk P w H h) (e : Same S H) : ∀ (ds : List D) (vs : List V) (ks : List NestedKey) (us : List Value), Reps K S as ds vs → nkeys ds = some ks → Vals vs us → NestedAll h ks us
  | [], vs, ks, us, r, hk, ru => by
    have r : vs = [] := r
    subst r
    cases ru
    cases hk
    exact .nil
  | d :: ds, vs, ks, us, r, hk, ru => by
    obtain ⟨v, r', h1, h2, h3⟩ := r
    subst h1
    cases ru with
    | cons q t =>
      unfold nkeys at hk
      split at hk
      · rename_i k hd
        split at hk
        · rename_i ks' hds
          cases hk
          exact .cons (nk_at ok e d v k _ h2 hd q) (nks_at ok e ds r' ks' _ h3 hds t)
        · cases hk
      · cases hk
end
theorem isNK_at {d : D} {v : V} (e : Same S H) (r : Rep K S as d v) (h : isNK d = true) : ∃ b, v = .ref b ∧ KeyAt P w H (keyN d) b := by
  cases d with
  | tup ds =>
    obtain ⟨a, vs, h1, _⟩ := id r
    refine ⟨a, h1, fun g ok => ?_⟩
    simp only [isNK] at h
    split at h
    · rename_i ks hks
      have hk : nkey (.tup ds) = some (.tup ks) := by unfold nkey; rw [hks]
      have : keyN (.tup ds) = .tup ks := by unfold keyN; rw [hk]; rfl
      rw [this]
      subst h1
      exact ⟨nk_at ok e _ _ _ (.ref a) r hk rfl, by simpa [NestedKey.depth] using h⟩
    · cases h
  | _ => cases h
theorem nat_of {a : Addr} {ks : List D} {bs : List Addr} {ns : List Int} (e : Same S H) (h1 : H a = some (dnO w a (ks.map keyN) bs ns)) (h2 : Reps K S as ks (bs.map V.ref)) (h3 : ks.all isNK = true) (h4 : (ks.map keyN).Nodup) (h5 : ks.length ≤ sizeLine) : NAt P w H a (ks.map keyN) bs ns :=
  ⟨h1, fun i k b q1 q2 => by
    rw [List.getElem?_map] at q1
    cases hd : ks[i]? with
    | none => rw [hd] at q1; cases q1
    | some d =>
      rw [hd] at q1
      cases q1
      obtain ⟨v, g1, g2⟩ := h2.get hd
      rw [List.getElem?_map, q2] at g1
      cases g1
      obtain ⟨b', g3, g4⟩ := isNK_at (P := P) (w := w) e g2 (List.all_eq_true.mp h3 d (List.mem_of_getElem? hd))
      cases g3
      exact g4, h4, by rw [List.length_map]; exact h5⟩
open Classical in
noncomputable def dnOf [HW] (M : Mem) : D → Option (List D × List Int)
  | .dN w ks ns => if w = HW.w then some (ks, ns) else none
  | .h k => match M[k]? with
    | some (.dN w ks ns) => if w = HW.w then some (ks, ns) else none
    | _ => none
  | _ => none
theorem dnOf_at [HW] {x : D} {v : V} {ks : List D} {ns : List Int} (st : St K S as M H) (r : Rep K S as x v) (h : dnOf M x = some (ks, ns)) :
    ∃ a bs, v = .ref a ∧ NAt P HW.w H a (ks.map keyN) bs ns ∧ Reps K S as ks (bs.map V.ref) ∧ ks.all isNK = true ∧ (ks.map keyN).Nodup ∧ ks.length ≤ sizeLine := by
  cases x with
  | dN w ks' ns' =>
    simp only [dnOf] at h
    split at h
    · rename_i hw
      cases h
      obtain ⟨a, bs, h1, h2, h3, h4, h5, h6⟩ := r
      subst hw
      exact ⟨a, bs, h1, nat_of st.ex (st.ex _ _ h2) h3 h4 h5 h6, h3, h4, h5, h6⟩
    · cases h
  | h k =>
    simp only [dnOf] at h
    split at h
    · rename_i w ks' ns' hk
      split at h
      · rename_i hw
        cases h
        obtain ⟨a, h1, h2⟩ := r
        obtain ⟨_, ho, h3, h4⟩ := st.cell k _ a hk h1
        cases ho with
        | ext φ =>
          obtain ⟨bs, q1, q2, q3, q4, q5⟩ := h4
          subst q2 hw
          exact ⟨a, bs, h2, nat_of st.ex h3 q1 q3 q4 q5, q1, q3, q4, q5⟩
        | _ => exact h4.elim
      · cases h
    · cases h
  | _ => cases h
end
/-- {} as such a cell -/
def eDNewN [HW] : Env → C D := fun _ M => .ok (.h M.length) (M ++ [.dN HW.w [] []])
noncomputable def gNGet2 [HW] (x y z : D) : C D := fun M => match dnOf M x with
  | some (ks, ns) => if isNK y = true then (match look (ks.map keyN) ns (keyN y) with
    | some n => .ok (.v (.int n)) M
    | none => .ok z M) else .stuck
  | none => .stuck
noncomputable def eNGet2 [HW] (fo fi fe : Env → C D) : Env → C D := fun ρ => (fo ρ).bind fun x M => match (dnOf M x).isSome with
  | true => (fi ρ).bind (fun y => (fe ρ).bind fun z => gNGet2 x y z) M
  | false => .stuck
def addKD (ks : List D) (d : D) : List D := addN (ks.map keyN) (keyN d) ks d
open Classical in
noncomputable def nputM [HW] (M : Mem) (x y d : D) : Option Mem := match x, d with
  | .h j, .v (.int n) => match M[j]? with
    | some (.dN w ks ns) => if w = HW.w ∧ isNK y = true ∧ ks.length < 16777216 then some (M.set j (.dN w (addKD ks y) (NKD.putN (ks.map keyN) ns (keyN y) n))) else none
    | _ => none
  | _, _ => none
noncomputable def sNPutD [HW] (fo fi fe : Env → C D) : Cs := fun ρ => sE (fe ρ) ρ fun d => sE (fo ρ) ρ fun x => sE (fi ρ) ρ fun y M => match nputM M x y d with
  | some M' => .nx ρ M'
  | none => .stuck
theorem addKD_map (ks : List D) (d : D) : (addKD ks d).map keyN = addN (ks.map keyN) (keyN d) (ks.map keyN) (keyN d) := by
  unfold addKD addN
  split
  · rfl
  · simp
section
variable {X : Cx} {W : WX} {pos : Pos} {o i e : Expr} {fo fi fe : Env → C D}
theorem pd_nnew [HW] (hw : X.w = HW.w := by rfl) : PD X W (.Dict [] [] pos) eDNewN := pe_nnew.up fun σ H Q h => by
  obtain ⟨S, as, M, ρ, st, env, fin⟩ := h
  intro p n
  rw [hw]
  exact fin_cell (c := .dN HW.w [] []) (ho := dnO HW.w p [] [] []) st fin ⟨[], Reps.nil, rfl, rfl, List.nodup_nil, Nat.zero_le _⟩ n
theorem pd_nget2 [HW] {apos cpos : Pos} (hu : X.A.units + 65 < cLine) (ho : PD X W o fo) (hi : PD X W i fi) (he : PD X W e fe) (m : M2 X o "get" apos i e cpos := by exact ⟨rfl, rfl, rfl, rfl⟩) (hw : X.w = HW.w := by rfl) : PD X W (.Call (.Attribute o "get" apos) [i, e] [] cpos) (eNGet2 fo fi fe) :=
  (pe_nget2 hu ho hi he m).up fun σ H Q h => by
    obtain ⟨S, as, M, ρ, st, env, fin⟩ := h
    refine ⟨S, as, M, ρ, st, env, Fin.bind (g := fun x M => match (dnOf M x).isSome with
      | true => (fi ρ).bind (fun y => (fe ρ).bind fun z => gNGet2 x y z) M
      | false => .stuck) fin env fun S1 as1 M1 x v H1 e1 st1 env1 rx fin1 => ?_⟩
    split at fin1
    · rename_i hp
      obtain ⟨⟨ks, ns⟩, hd⟩ := Option.isSome_iff_exists.mp hp
      obtain ⟨a, bs, h1, h2, _⟩ := dnOf_at (P := X.prog) st1 rx hd
      refine ⟨a, h1, ⟨_, _, _, by rw [hw]; exact h2.at_⟩, S1, as1, M1, ρ, st1, env1, Fin.bind (g := fun y => (fe ρ).bind fun z => gNGet2 x y z) fin1 env1 fun S2 as2 M2 y u H2 e2 st2 env2 ry fin2 => ?_⟩
      refine ⟨S2, as2, M2, ρ, st2, env2, Fin.bind (g := fun z => gNGet2 x y z) fin2 env2 fun S3 as3 M3 z w3 H3 e3 st3 env3 rz fin3 => ?_⟩
      unfold gNGet2 at fin3
      split at fin3
      · rename_i ks' ns' hx
        split at fin3
        · rename_i hy
          obtain ⟨a', bs', q1, q2, _⟩ := dnOf_at (P := X.prog) st3 (Rep.mono (e2.trans e3).same (e2.trans e3).pre _ _ rx) hx
          rw [h1] at q1
          cases q1
          obtain ⟨b, q3, q4⟩ := isNK_at (P := X.prog) (w := HW.w) st3.ex (Rep.mono e3.same e3.pre _ _ ry) hy
          refine ⟨_, bs', ns', keyN y, b, q3, by rw [hw]; exact q2, by rw [hw]; exact q4, ?_⟩
          split at fin3
          · rename_i n hn
            rw [hn]
            exact fin_ok (d := .v (.int n)) st3 ⟨rfl, rfl⟩ fin3
          · rename_i hn
            rw [hn]
            exact fin_ok st3 rz fin3
        · exact fin3.elim
      · exact fin3.elim
    · exact fin1.elim
theorem nput_at [HW] {S1 : Hp} {as1 : List Addr} {M1 M2 : Mem} {H1 : Hp} {x y d : D} {v u w : V} {P : Program} (st : St X.K S1 as1 M1 H1) (rx : Rep X.K S1 as1 x v) (ry : Rep X.K S1 as1 y u) (rd : Rep X.K S1 as1 d w) (h : nputM M1 x y d = some M2) :
    ∃ a ks bs ns k b n, v = .ref a ∧ u = .ref b ∧ w = .int n ∧ NAt P HW.w H1 a ks bs ns ∧ KeyAt P HW.w H1 k b ∧ ks.length < sizeLine ∧ Ext S1 as1 H1 S1 as1 (upd H1 a (dnO HW.w a (addN ks k ks k) (addN ks k bs b) (NKD.putN ks ns k n))) ∧
      St X.K S1 as1 M2 (upd H1 a (dnO HW.w a (addN ks k ks k) (addN ks k bs b) (NKD.putN ks ns k n))) := by
  have lq := line_eq
  unfold nputM at h
  split at h
  · rename_i j n
    split at h
    · rename_i w0 ks ns hk
      split at h
      · rename_i hh
        obtain ⟨hw, hy, hl⟩ := hh
        cases h
        subst hw
        obtain ⟨a, h1, h2⟩ := id rx
        obtain ⟨a', bs, q1, q2, q3, q4, q5, q6⟩ := dnOf_at (P := P) (ks := ks) (ns := ns) st rx (by simp [dnOf, hk])
        subst h2
        cases q1
        obtain ⟨b, g1, g2⟩ := isNK_at (P := P) (w := HW.w) st.ex ry hy
        subst g1
        refine ⟨a, ks.map keyN, bs, ns, keyN y, b, n, rfl, rfl, rd.1, q2, g2, by rw [List.length_map]; omega, Ext.write h1, st.write (c := .dN HW.w (addKD ks y) (NKD.putN (ks.map keyN) ns (keyN y) n)) hk h1 ⟨addN (ks.map keyN) (keyN y) bs b, ?_, by rw [addKD_map], ?_, by rw [addKD_map]; exact add_nodup q5, by have := @NKD.add_len (ks.map keyN) D (keyN y) ks y; unfold addKD; omega⟩⟩
        · unfold addKD NKD.addN
          split
          · exact q3
          · rw [List.map_append]; exact q3.append (Reps.cons ry Reps.nil)
        · unfold addKD NKD.addN
          split
          · exact q4
          · rw [List.all_append, q4]; simp [hy]
      · cases h
    · cases h
  · cases h
theorem sd_nput [HW] {tp : Pos} (hu : X.A.units + 65 < cLine) (ho : PD X W o fo) (hi : PD X W i fi) (he : PD X W e fe) (hs : swapsWith e (some (.Subscript o i tp)) pos.line X.env = pure false := by rfl) (hw : X.w = HW.w := by rfl) : SD X W (.Assign [.Subscript o i tp] e pos) (sNPutD fo fi fe) :=
  (ps_nput hu ho hi he hs).up fun De σ H h => by
    obtain ⟨S, as, M, ρ, st, env, fin⟩ := h
    refine ⟨S, as, M, ρ, st, env, FinS.bindE (g := fun d => sE (fo ρ) ρ fun x => sE (fi ρ) ρ fun y M => match nputM M x y d with
      | some M' => .nx ρ M'
      | none => .stuck) fin env fun S1 as1 M1 d v H1 e1 st1 env1 rd fin1 => ?_⟩
    refine ⟨S1, as1, M1, ρ, st1, env1, FinS.bindE (g := fun x => sE (fi ρ) ρ fun y M => match nputM M x y d with
      | some M' => .nx ρ M'
      | none => .stuck) fin1 env1 fun S2 as2 M2 x ov H2 e2 st2 env2 ro fin2 => ?_⟩
    refine ⟨S2, as2, M2, ρ, st2, env2, FinS.bindE (g := fun y M => match nputM M x y d with
      | some M' => .nx ρ M'
      | none => .stuck) fin2 env2 fun S3 as3 M3 y iv H3 e3 st3 env3 ri fin3 => ?_⟩
    have ro3 := Rep.mono e3.same e3.pre _ _ ro
    have rd3 := Rep.mono (e2.trans e3).same (e2.trans e3).pre _ _ rd
    split at fin3
    · rename_i M' hM
      obtain ⟨a, ks, bs, ns, k, b, n, q1, q2, q3, q4, q5, q6, q7, q8⟩ := nput_at (P := X.prog) st3 ro3 ri rd3 hM
      refine ⟨a, ks, bs, ns, k, b, n, q1, q2, q3, by rw [hw]; exact q4, by rw [hw]; exact q5, q6, ?_⟩
      rw [hw]
      exact fin3 S3 as3 σ _ q7 q8 env3
    · exact fin3.elim
end
/-! == and != -/
noncomputable def dnsOf [HW] (M : Mem) : List D → Option (List (List NestedKey × List Int))
  | [] => some []
  | x :: xs => match dnOf M x with
    | some (ks, ns) => match dnsOf M xs with
      | some cs => some ((ks.map keyN, ns) :: cs)
      | none => none
    | none => none
noncomputable def gEqN [HW] (x y : D) : C D := fun M => match dnOf M x, dnOf M y with
  | some (ks, ns), some (ls, ms) => .ok (.v (.bl (eqN (ks.map keyN) ns (ls.map keyN) ms))) M
  | _, _ => match lstOf M x, lstOf M y with
    | some xs, some ys => match dnsOf M xs, dnsOf M ys with
      | some cs, some ds => if cs.length = ds.length then .ok (.v (.bl (eqNs cs ds))) M else .stuck
      | _, _ => .stuck
    | _, _ => .stuck
noncomputable def gNeN [HW] (x y : D) : C D := fun M => match dnOf M x, dnOf M y with
  | some (ks, ns), some (ls, ms) => .ok (.v (.bl (!eqN (ks.map keyN) ns (ls.map keyN) ms))) M
  | _, _ => .stuck
/-- == of data or of such dicts -/
noncomputable def gEqA [HW] (x y : D) : C D := fun M => if (okEq (resM M x) && okEq (resM M y)) = true then gEq x y M else gEqN x y M
noncomputable def gNeA [HW] (x y : D) : C D := fun M => if (okEq (resM M x) && okEq (resM M y)) = true then gNe x y M else gNeN x y M
theorem opr_or {X : Cx} {f : Value → Value → Sem Value} {r r' : R2} (h : OpR X f r) (h' : OpR X f r') : OpR X f (fun x y H Q => r x y H Q ∨ r' x y H Q) := fun pins s σ H x y v u Q I rx ry q => q.elim (h pins s σ H x y v u Q I rx ry) (h' pins s σ H x y v u Q I rx ry)
section
variable {K : PySem.W.Frag} {S : Hp} {as : List Addr} {M : Mem} {H : Hp} {P : Program}
theorem dnsOf_at [HW] (st : St K S as M H) : ∀ {xs : List D} {vs : List V} {cs : List (List NestedKey × List Int)}, Reps K S as xs vs → dnsOf M xs = some cs → AllN P HW.w H vs cs
  | [], vs, cs, r, h => by
    have r : vs = [] := r
    subst r
    cases h
    exact .nil
  | x :: xs, vs, cs, r, h => by
    obtain ⟨v, r', h1, h2, h3⟩ := r
    subst h1
    unfold dnsOf at h
    split at h
    · rename_i ks ns hd
      split at h
      · rename_i cs' hc
        cases h
        obtain ⟨a, bs, q1, q2, _⟩ := dnOf_at (P := P) st h2 hd
        exact .cons ⟨a, bs, q1, q2⟩ (dnsOf_at st h3 hc)
      · cases h
    · cases h
theorem dr_eqN [HW] : Dr2 K (rEqN P HW.w K) gEqN := by
  intro S as M H σ ρ W x y v u Q st rx ry fin
  unfold gEqN at fin
  split at fin
  · rename_i ks ns ls ms h1 h2
    obtain ⟨a, bs, q1, q2, _⟩ := dnOf_at (P := P) st rx h1
    obtain ⟨b, cs, g1, g2, _⟩ := dnOf_at (P := P) st ry h2
    exact .inl ⟨a, b, _, bs, ns, _, cs, ms, q1, g1, q2, g2, fin_ok (d := .v (.bl _)) st ⟨rfl, rfl⟩ fin⟩
  · split at fin
    · rename_i xs ys h1 h2
      obtain ⟨a, us, q1, q2, q3, _⟩ := lst_of st rx h1
      obtain ⟨b, ws, g1, g2, g3, _⟩ := lst_of st ry h2
      split at fin
      · rename_i cs ds e1 e2
        split at fin
        · rename_i hl
          exact .inr ⟨a, b, us, ws, cs, ds, q1, g1, q2, g2, dnsOf_at st q3 e1, dnsOf_at st g3 e2, hl, fin_ok (d := .v (.bl _)) st ⟨rfl, rfl⟩ fin⟩
        · exact fin.elim
      · exact fin.elim
    · exact fin.elim
theorem dr_neN [HW] : Dr2 K (rNeN P HW.w) gNeN := by
  intro S as M H σ ρ W x y v u Q st rx ry fin
  unfold gNeN at fin
  split at fin
  · rename_i ks ns ls ms h1 h2
    obtain ⟨a, bs, q1, q2, _⟩ := dnOf_at (P := P) st rx h1
    obtain ⟨b, cs, g1, g2, _⟩ := dnOf_at (P := P) st ry h2
    exact ⟨a, b, _, bs, ns, _, cs, ms, q1, g1, q2, g2, fin_ok (d := .v (.bl _)) st ⟨rfl, rfl⟩ fin⟩
  · exact fin.elim
theorem dr_eqA [HW] : Dr2 K (fun x y H Q => rEqD K x y H Q ∨ rEqN P HW.w K x y H Q) gEqA := by
  intro S as M H σ ρ W x y v u Q st rx ry fin
  unfold gEqA at fin
  split at fin
  · exact .inl (dr_eq S as M H σ ρ W x y v u Q st rx ry fin)
  · exact .inr (dr_eqN S as M H σ ρ W x y v u Q st rx ry fin)
theorem dr_neA [HW] : Dr2 K (fun x y H Q => rNeD K x y H Q ∨ rNeN P HW.w x y H Q) gNeA := by
  intro S as M H σ ρ W x y v u Q st rx ry fin
  unfold gNeA at fin
  split at fin
  · exact .inl (dr_ne S as M H σ ρ W x y v u Q st rx ry fin)
  · exact .inr (dr_neN S as M H σ ρ W x y v u Q st rx ry fin)
end
section
variable {X : Cx} {W : WX} {pos : Pos} {a b : Expr} {fa fb : Env → C D}
theorem op_eqA [HW] (hu : X.A.units + 66 < cLine) (hw : X.w = HW.w) : OpR X (compareOp .Eq) (fun x y H Q => rEqD X.K x y H Q ∨ rEqN X.prog HW.w X.K x y H Q) := opr_or (op_eqD (by omega)) (by rw [← hw]; exact op_eqN hu)
theorem op_neA [HW] (hu : X.A.units + 66 < cLine) (hw : X.w = HW.w) : OpR X (compareOp .NotEq) (fun x y H Q => rNeD X.K x y H Q ∨ rNeN X.prog HW.w x y H Q) := opr_or (op_neD (by omega)) (by rw [← hw]; exact op_neN (by omega))
theorem pd_eqA [HW] (hu : X.A.units + 66 < cLine) (ha : PD X W a fa) (hb : PD X W b fb) (hw : X.w = HW.w := by rfl) : PD X W (.Compare a [.Eq] [b] pos) (e2 gEqA fa fb) := pd_cmp (op_eqA hu hw) dr_eqA ha hb
theorem pd_neA [HW] (hu : X.A.units + 66 < cLine) (ha : PD X W a fa) (hb : PD X W b fb) (hw : X.w = HW.w := by rfl) : PD X W (.Compare a [.NotEq] [b] pos) (e2 gNeA fa fb) := pd_cmp (op_neA hu hw) dr_neA ha hb
theorem pdb_eqA [HW] (hu : X.A.units + 66 < cLine) (ha : PD X W a fa) (hb : PD X W b fb) (hw : X.w = HW.w := by rfl) : PDb X W (.Compare a [.Eq] [b] pos) (eB (e2 gEqA fa fb)) := pdb_cmp (op_eqA hu hw) dr_eqA ha hb
theorem pdb_neA [HW] (hu : X.A.units + 66 < cLine) (ha : PD X W a fa) (hb : PD X W b fb) (hw : X.w = HW.w := by rfl) : PDb X W (.Compare a [.NotEq] [b] pos) (eB (e2 gNeA fa fb)) := pdb_cmp (op_neA hu hw) dr_neA ha hb
theorem hu66 {A : Around} {k : Nat} (hr : Room k A) : A.units + 66 < cLine := by
  have := hr.un
  omega
end
end DL
set_option Elab.async false
set_option maxRecDepth 100000
set_option maxHeartbeats 2000000
namespace DL
open PySem PySem.Spec PyProof.Rows L2
/-! ### xs[::-1], list * int, comprehensions with two clauses -/
section
variable {X : Cx} {W : WX} {pos : Pos} {a b : Expr} {fa fb : Env → C D}
theorem pd_slRev {mk : List D → Mem → Out D} {k : Nat} {p1 p2 p3 : Pos} (hmk : MkN X.K mk) (ha : PD X W a fa) : PD X W (.Subscript a (.Slice none none (some (.UnaryOp .USub (.Constant (.int 1) k p1) p2)) p3) pos) (e1 (gRevL mk) fa) := (pe_revL ha).up fun σ H Q h => by
  obtain ⟨S, as, M, ρ, st, env, fin⟩ := h
  refine ⟨S, as, M, ρ, st, env, Fin.bind (g := gRevL mk) fin env fun S1 as1 M1 x v H1 e1 st1 env1 rx fin1 => ?_⟩
  unfold gRevL at fin1
  split at fin1
  · rename_i ds hd
    obtain ⟨b, us, h1, h2, h3, h4⟩ := lst_of st1 rx hd
    exact ⟨b, us, h1, h2, fun q n => hmk S1 as1 H1 W σ ρ M1 ds.reverse us.reverse q Q st1 n h3.rev (by rw [List.length_reverse]; exact h4) fin1⟩
  · exact fin1.elim
def repD (n : Nat) (ds : List D) : List D := (List.replicate n ds).flatten
/-- list * int -/
def gRepL (mk : List D → Mem → Out D) : D → D → C D := fun x y M => match mlOf M x, y with
  | some ds, .v (.int k) => if -(2 ^ 63) ≤ k ∧ k < 2 ^ 63 ∧ ds.length * k.toNat ≤ 16777216 then mk (repD k.toNat ds) M else .stuck
  | _, _ => .stuck
theorem reps_rep {K : PySem.W.Frag} {S : Hp} {as : List Addr} {ds : List D} {vs : List V} (r : Reps K S as ds vs) : ∀ n : Nat, Reps K S as (repD n ds) (List.replicate n vs).flatten
  | 0 => Reps.nil
  | n + 1 => by
    unfold repD
    rw [List.replicate_succ, List.replicate_succ, List.flatten_cons, List.flatten_cons]
    exact r.append (reps_rep r n)
theorem repD_len {ds : List D} : ∀ n : Nat, (repD n ds).length = ds.length * n
  | 0 => by simp [repD]
  | n + 1 => by
    have := repD_len (ds := ds) n
    unfold repD at this ⊢
    rw [List.replicate_succ, List.flatten_cons, List.length_append, this, Nat.mul_succ, Nat.add_comm]
theorem dr_rep {K : PySem.W.Frag} {mk : List D → Mem → Out D} (hmk : MkN K mk) : Dr2 K rRep (gRepL mk) := by
  intro S as M H σ ρ W x y v u Q st rx ry fin
  have lq := line_eq
  unfold gRepL at fin
  split at fin
  · rename_i ds k hx
    split at fin
    · rename_i hk
      obtain ⟨a, vs, h1, h2, h3, h4⟩ := ml_of st rx hx
      have hl := h3.length
      exact ⟨a, k, vs, h1, ry.1, h2, hk.1, hk.2.1, by rw [← hl, lq]; exact hk.2.2, fun p n => hmk S as H W σ ρ M _ _ p Q st n (reps_rep h3 _) (by rw [repD_len, lq]; exact hk.2.2) fin⟩
    · exact fin.elim
  · exact fin.elim
theorem pd_rep {mk : List D → Mem → Out D} (hmk : MkN X.K mk) (ha : PD X W a fa) (hb : PD X W b fb) : PD X W (.BinOp a .Mult b pos) (e2 (gRepL mk) fa fb) := pd_op op_rep (dr_rep hmk) ha hb
end
/-! list + list as a cell -/
def gAddH : D → D → C D := fun x y M => match mlOf M x, mlOf M y with
  | some xs, some ys => if xs.length + ys.length ≤ 16777216 then mkH (xs ++ ys) M else .stuck
  | _, _ => .stuck
theorem dr_addH {K : PySem.W.Frag} : Dr2 K rCat gAddH := by
  intro S as M H σ ρ W x y v u Q st rx ry fin
  have lq := line_eq
  unfold gAddH at fin
  split at fin
  · rename_i xs ys hx hy
    split at fin
    · rename_i hk
      obtain ⟨a, vs, h1, h2, h3, h4⟩ := ml_of st rx hx
      obtain ⟨b, us, g1, g2, g3, g4⟩ := ml_of st ry hy
      have l1 := h3.length
      have l2 := g3.length
      exact ⟨a, b, vs, us, h1, g1, h2, g2, by omega, fun p n => mkH_n S as H W σ ρ M _ _ p Q st n (h3.append g3) (by rw [List.length_append, lq]; exact hk) fin⟩
    · exact fin.elim
  · exact fin.elim
theorem pd_addH {X : Cx} {W : WX} {pos : Pos} {a b : Expr} {fa fb : Env → C D} (ha : PD X W a fa) (hb : PD X W b fb) : PD X W (.BinOp a .Add b pos) (e2 gAddH fa fb) := pd_op op_cat dr_addH ha hb
/-! two clauses -/
open Classical in
noncomputable def lcL2 (g : Option (Nat × List D)) (t : Tg) (test : Env → C Bool) (fi1 : Env → C ItS) (t1 : Tg) (test1 : Env → C Bool) (elt : Env → C D) (vs1 : List Nat) : List D → List D → Env → Mem → Out (List D)
  | [], acc, _, M => if gOk g M then .ok acc M else .stuck
  | d :: ds, acc, ρ, M => if gOk g M then (match t.run d ρ with
    | none => .stuck
    | some ρ1 => match test ρ1 M with
      | .ok true M1 => (match fi1 ρ1 M1 with
        | .ok I1 M2 => if acc.length + I1.ds.length ≤ 16777216 then (match lcL I1.g t1 test1 elt I1.ds acc (wipeD ρ1 vs1) M2 with
          | .ok acc' M3 => lcL2 g t test fi1 t1 test1 elt vs1 ds acc' ρ M3
          | _ => .stuck) else .stuck
        | _ => .stuck)
      | .ok false M1 => lcL2 g t test fi1 t1 test1 elt vs1 ds acc ρ M1
      | _ => .stuck) else .stuck
noncomputable def eLc2 (mk : List D → Mem → Out D) (fi : Env → C ItS) (t : Tg) (test : Env → C Bool) (fi1 : Env → C ItS) (t1 : Tg) (test1 : Env → C Bool) (elt : Env → C D) (vs vs1 : List Nat) : Env → C D := fun ρ => (fi ρ).bind fun I M => match lcL2 I.g t test fi1 t1 test1 elt vs1 I.ds [] (wipeD ρ vs) M with
  | .ok acc M' => if acc.length ≤ 16777216 then mk acc M' else .stuck
  | _ => .stuck
/-- the list that is made stands at p -/
structure Made (K : PySem.W.Frag) (S1 : Hp) (as1 : List Addr) (H1 : Hp) (p : Addr) (S' : Hp) (as' : List Addr) (M' : Mem) (acc : List D) (us : List V) (H' : Hp) : Prop where
  ext : Ext S1 as1 H1 S' as' H'
  st : St K S' as' M' H'
  at_ : H' p = some (.lst us)
  na : p ∉ as'
  ns : S' p = none
  rep : Reps K S' as' acc us
section
variable {X : Cx} {W : WX} {pos : Pos}
/-- one clause's loop over a source, the list at Dp grows -/
theorem lc_run {t : Tg} {test : Env → C Bool} {fe : Env → C D} {vs : List Nat} {σ : L2.St} {ρ : Env} {I : ItS} {J : It} {Dp : Addr} {S1 S2 : Hp} {as1 as2 : List Addr} {H1 H2 : Hp} {M2 MF : Mem} {acc0 accF : List D} {us0 : List V} {FinP : Hp → Prop} (hv : ∀ i ∈ t.slots, i ∈ vs)
    (ok : ItOk X.K S2 as2 I J) (env1 : EnvOk X.K S2 as2 σ ρ) (nD : H1 Dp = none) (p : Made X.K S1 as1 H1 Dp S2 as2 M2 acc0 us0 H2) (hlim : acc0.length + I.ds.length ≤ 16777216) (el : lcL I.g t test fe I.ds acc0 (wipeD ρ vs) M2 = .ok accF MF)
    (fin : ∀ S' as' us H', Same S2 S' → Pre as2 as' → Made X.K S1 as1 H1 Dp S' as' MF accF us H' → FinP H') :
    ∃ W : Nat → Nat → Hp → Prop, (∃ m, W 0 m H2) ∧ ∀ i m H, W i m H → (J.stop i H ∧ FinP H) ∨ (J.go i H ∧ ∃ Nx : Hp → Prop, (∀ H', Nx H' → ∃ m', m' < m ∧ W (i + 1) m' H') ∧ ∀ x H', J.yld i H x H' → (t.tg X.K) x (wipe σ vs) H' fun σ2 H2 => wipe σ2 vs = wipe σ vs ∧ tDb X.K W0 test σ2 H2 fun b H3 =>
      if b = true then tD X.K W0 fe σ2 H3 fun y H4 => ∃ acc, H4 Dp = some (.lst acc) ∧ acc.length < sizeLine ∧ Nx (upd H4 Dp (.lst (acc ++ [y]))) else Nx H3) := by
  have lq := line_eq
  refine ⟨fun i m H' => m + i = I.ds.length ∧ ∃ S' as' M' acc us, Same S2 S' ∧ Pre as2 as' ∧ Made X.K S1 as1 H1 Dp S' as' M' acc us H' ∧ acc.length ≤ acc0.length + i ∧ lcL I.g t test fe (I.ds.drop i) acc (wipeD ρ vs) M' = .ok accF MF,
    ⟨I.ds.length, by simp, S2, as2, M2, acc0, us0, Same.refl _, Pre.refl _, p, by simp, el⟩, ?_⟩
  rintro i m H' ⟨hm, S', as', M', acc, us, xs', xp', mk, hacc, heq⟩
  by_cases hi : i < I.ds.length
  · have hd : I.ds.drop i = I.ds[i] :: I.ds.drop (i + 1) := List.drop_eq_getElem_cons hi
    rw [hd] at heq
    unfold lcL at heq
    split at heq
    · rename_i hgk
      refine .inr ⟨ok.go S' as' M' H' i xs' xp' mk.st hgk hi, fun H2 => ∃ S3 as3 M3 acc3 us3, Same S2 S3 ∧ Pre as2 as3 ∧ Made X.K S1 as1 H1 Dp S3 as3 M3 acc3 us3 H2 ∧ acc3.length ≤ acc0.length + (i + 1) ∧ lcL I.g t test fe (I.ds.drop (i + 1)) acc3 (wipeD ρ vs) M3 = .ok accF MF, fun H2 q => ⟨m - 1, by omega, by omega, q⟩, fun x H2 hy => ?_⟩
      obtain ⟨S3, x2, st2, rx⟩ := ok.yld S' as' M' H' i I.ds[i] x H2 xs' xp' mk.st hgk (List.getElem?_eq_getElem hi) hy
      split at heq
      · cases heq
      · rename_i ρ1 hr
        have env2 : EnvOk X.K S3 as' (wipe σ vs) (wipeD ρ vs) := (env1.wipe vs).mono (xs'.trans x2.same) xp'
        refine Tg.ok vs st2.ex t _ x _ _ ρ1 _ rx env2 hr hv fun σ3 env3 w3 => ?_
        refine ⟨by
          have : wipe (wipe σ vs) vs = wipe σ vs := lc_of.wipe_wipe σ vs
          rw [w3, this], ?_⟩
        have hD2 := x2.fr Dp _ mk.at_ mk.na
        cases et : test ρ1 M' with
        | er y M3 => simp only [et] at heq; cases heq
        | stuck => simp only [et] at heq; cases heq
        | ok b M3 =>
          refine ⟨S3, as', M', ρ1, st2, env3, ?_⟩
          rw [et]
          intro S4 as4 b4 H4 e4 st4 eb
          have eb : b = b4 := eb
          subst eb
          have hD4 := e4.fr Dp _ hD2.1 hD2.2.1
          cases b with
          | false =>
            simp only [et] at heq
            rw [if_neg Bool.false_ne_true]
            exact ⟨S4, as4, M3, acc, us, xs'.trans (x2.same.trans e4.same), xp'.trans (x2.pre.trans e4.pre), ⟨mk.ext.trans (x2.trans e4), st4, hD4.1, hD4.2.1, hD4.2.2 (hD2.2.2 mk.ns), Reps.mono (x2.same.trans e4.same) e4.pre _ _ mk.rep⟩, by omega, heq⟩
          | true =>
            simp only [et] at heq
            rw [if_pos rfl]
            refine ⟨S4, as4, M3, ρ1, st4, env3.mono e4.same e4.pre, ?_⟩
            cases ee : fe ρ1 M3 with
            | er y M5 => simp only [ee] at heq; cases heq
            | stuck => simp only [ee] at heq; cases heq
            | ok y M5 =>
              simp only [ee] at heq
              intro S5 as5 yv H5 e5 st5 ry
              have hD5 := e5.fr Dp _ hD4.1 hD4.2.1
              have nS5 := hD5.2.2 (hD4.2.2 (hD2.2.2 mk.ns))
              have rr := Reps.mono (x2.same.trans (e4.same.trans e5.same)) (e4.pre.trans e5.pre) _ _ mk.rep
              have hul := rr.length
              refine ⟨us, hD5.1, by omega, S5, as5, M5, acc ++ [y], us ++ [yv], xs'.trans (x2.same.trans (e4.same.trans e5.same)), xp'.trans (x2.pre.trans (e4.pre.trans e5.pre)), ⟨(mk.ext.trans (x2.trans (e4.trans e5))).off nD, st5.off hD5.2.1 nS5, upd_same, hD5.2.1, nS5, rr.append (Reps.cons ry Reps.nil)⟩, by simp; omega, heq⟩
    · cases heq
  · have hd : I.ds.drop i = [] := List.drop_eq_nil_of_le (by omega)
    rw [hd] at heq
    unfold lcL at heq
    split at heq
    · rename_i hgk
      cases heq
      exact .inl ⟨ok.stop S' as' MF H' i xs' xp' mk.st hgk (by omega), fin S' as' us H' xs' xp' mk⟩
    · cases heq
variable {tg iter elt tg1 iter1 : Expr} {ifs ifs1 : List Expr} {fi fi1 : Env → C ItS} {t t1 : Tg} {test test1 : Env → C Bool} {fe : Env → C D}
theorem lc2_of {mk : List D → Mem → Out D} (hmk : MkOk X.K mk) {vs vs1 : List Nat} {σ : L2.St} {H : Hp} {Q : VK} (hv : ∀ i ∈ t.slots, i ∈ vs) (hv1 : ∀ i ∈ t1.slots, i ∈ vs1) (h : tD X.K W (eLc2 mk fi t test fi1 t1 test1 fe vs vs1) σ H Q) :
    tLc2 (tI X.K W fi) (t.tg X.K) (tDb X.K W0 test) (tI X.K W0 fi1) (t1.tg X.K) (tDb X.K W0 test1) (tD X.K W0 fe) vs vs1 σ H Q := by
  obtain ⟨S, as, M, ρ, st, env, fin⟩ := h
  have lq := line_eq
  refine ⟨S, as, M, ρ, st, env, Fin.bind (g := fun (I : ItS) M => match lcL2 I.g t test fi1 t1 test1 fe vs1 I.ds [] (wipeD ρ vs) M with
    | .ok acc M' => if acc.length ≤ 16777216 then mk acc M' else .stuck
    | _ => .stuck) fin env fun S1 as1 M1 I J H1 e1 st1 env1 ok fin1 => ?_⟩
  intro Dp nD
  cases el : lcL2 I.g t test fi1 t1 test1 fe vs1 I.ds [] (wipeD ρ vs) M1 with
  | er x M' => simp only [el] at fin1; exact fin1.elim
  | stuck => simp only [el] at fin1; exact fin1.elim
  | ok accF MF =>
    simp only [el] at fin1
    split at fin1
    · rename_i hF
      refine ⟨fun i m H' => m + i = I.ds.length ∧ ∃ S' as' M' acc us, Made X.K S1 as1 H1 Dp S' as' M' acc us H' ∧ lcL2 I.g t test fi1 t1 test1 fe vs1 (I.ds.drop i) acc (wipeD ρ vs) M' = .ok accF MF,
        ⟨I.ds.length, by simp, S1, as1, M1, [], [], ⟨(Ext.refl _ _ _).off nD, st1.off (st1.notin nD) (st1.sfree nD), upd_same, st1.notin nD, st1.sfree nD, Reps.nil⟩, el⟩, ?_⟩
      rintro i m H' ⟨hm, S', as', M', acc, us, mk1, heq⟩
      by_cases hi : i < I.ds.length
      · have hd : I.ds.drop i = I.ds[i] :: I.ds.drop (i + 1) := List.drop_eq_getElem_cons hi
        rw [hd] at heq
        unfold lcL2 at heq
        split at heq
        · rename_i hgk
          refine .inr ⟨ok.go S' as' M' H' i mk1.ext.same mk1.ext.pre mk1.st hgk hi, fun H2 => ∃ S3 as3 M3 acc3 us3, Made X.K S1 as1 H1 Dp S3 as3 M3 acc3 us3 H2 ∧ lcL2 I.g t test fi1 t1 test1 fe vs1 (I.ds.drop (i + 1)) acc3 (wipeD ρ vs) M3 = .ok accF MF, fun H2 q => ⟨m - 1, by omega, by omega, q⟩, fun x H2 hy => ?_⟩
          obtain ⟨S3, x2, st2, rx⟩ := ok.yld S' as' M' H' i I.ds[i] x H2 mk1.ext.same mk1.ext.pre mk1.st hgk (List.getElem?_eq_getElem hi) hy
          split at heq
          · cases heq
          · rename_i ρ1 hr
            have env2 : EnvOk X.K S3 as' (wipe σ vs) (wipeD ρ vs) := (env1.wipe vs).mono (mk1.ext.same.trans x2.same) mk1.ext.pre
            refine Tg.ok vs st2.ex t _ x _ _ ρ1 _ rx env2 hr hv fun σ3 env3 w3 => ?_
            refine ⟨by
              have : wipe (wipe σ vs) vs = wipe σ vs := lc_of.wipe_wipe σ vs
              rw [w3, this], ?_⟩
            have hD2 := x2.fr Dp _ mk1.at_ mk1.na
            cases et : test ρ1 M' with
            | er y M3 => simp only [et] at heq; cases heq
            | stuck => simp only [et] at heq; cases heq
            | ok b M3 =>
              refine ⟨S3, as', M', ρ1, st2, env3, ?_⟩
              rw [et]
              intro S4 as4 b4 H4 e4 st4 eb
              have eb : b = b4 := eb
              subst eb
              have hD4 := e4.fr Dp _ hD2.1 hD2.2.1
              have mk4 : Made X.K S1 as1 H1 Dp S4 as4 M3 acc us H4 := ⟨mk1.ext.trans (x2.trans e4), st4, hD4.1, hD4.2.1, hD4.2.2 (hD2.2.2 mk1.ns), Reps.mono (x2.same.trans e4.same) e4.pre _ _ mk1.rep⟩
              cases b with
              | false =>
                simp only [et] at heq
                rw [if_neg Bool.false_ne_true]
                exact ⟨S4, as4, M3, acc, us, mk4, heq⟩
              | true =>
                simp only [et] at heq
                rw [if_pos rfl]
                refine ⟨S4, as4, M3, ρ1, st4, env3.mono e4.same e4.pre, ?_⟩
                cases ei : fi1 ρ1 M3 with
                | er y M5 => simp only [ei] at heq; cases heq
                | stuck => simp only [ei] at heq; cases heq
                | ok I1 M5 =>
                  simp only [ei] at heq
                  intro S5 as5 J1 H5 e5 st5 ok1
                  have hD5 := e5.fr Dp _ mk4.at_ mk4.na
                  have mk5 : Made X.K S1 as1 H1 Dp S5 as5 M5 acc us H5 := ⟨mk4.ext.trans e5, st5, hD5.1, hD5.2.1, hD5.2.2 mk4.ns, Reps.mono e5.same e5.pre _ _ mk4.rep⟩
                  split at heq
                  · rename_i hlim
                    cases el1 : lcL I1.g t1 test1 fe I1.ds acc (wipeD ρ1 vs1) M5 with
                    | er y M6 => simp only [el1] at heq; cases heq
                    | stuck => simp only [el1] at heq; cases heq
                    | ok acc' M6 =>
                      simp only [el1] at heq
                      exact lc_run (FinP := fun H2 => ∃ S3 as3 M3 acc3 us3, Made X.K S1 as1 H1 Dp S3 as3 M3 acc3 us3 H2 ∧ lcL2 I.g t test fi1 t1 test1 fe vs1 (I.ds.drop (i + 1)) acc3 (wipeD ρ vs) M3 = .ok accF MF) hv1 ok1 (env3.mono (e4.same.trans e5.same) (e4.pre.trans e5.pre)) nD mk5 hlim el1 fun S6 as6 us6 H6 _ _ mk6 => ⟨S6, as6, M6, acc', us6, mk6, heq⟩
                  · cases heq
        · cases heq
      · have hd : I.ds.drop i = [] := List.drop_eq_nil_of_le (by omega)
        rw [hd] at heq
        unfold lcL2 at heq
        split at heq
        · rename_i hgk
          cases heq
          exact .inl ⟨ok.stop S' as' MF H' i mk1.ext.same mk1.ext.pre mk1.st hgk (by omega), hmk S1 as1 H1 S' as' H' W σ ρ MF accF us Dp Q mk1.ext mk1.st nD mk1.na mk1.ns mk1.at_ mk1.rep (by omega) fin1⟩
        · cases heq
    · exact fin1.elim
theorem pd_lc2 {mk : List D → Mem → Out D} {vs vs1 : List Nat} (hmk : MkOk X.K mk) {scope : Scope} (own : List (Str × Nat)) (hc : X.calm = true) (hN : X.N.Nodup) (hi : PId X W tg iter fi) (ok : BlkOk X.N X.env.scope scope own)
    (hg : ∀ (s : Shared) (H : Hp) (C : Addr) (cl : List (Str × Addr)) (fp : List Addr), PGd (X.blk s H scope (compEnvC scope cl C X.env) fp) tg t) (ht : ∀ (s : Shared) (H : Hp) (C : Addr) (cl : List (Str × Addr)) (fp : List Addr), PDbs (X.blk s H scope (compEnvC scope cl C X.env) fp) W0 ifs test)
    (hi1 : ∀ (s : Shared) (H : Hp) (C : Addr) (cl : List (Str × Addr)) (fp : List Addr), PId (X.blk s H scope (compEnvC scope cl C X.env) fp) W0 tg1 iter1 fi1)
    (hg1 : ∀ (s : Shared) (H : Hp) (C : Addr) (cl : List (Str × Addr)) (fp : List Addr), PGd (X.blk s H scope (compEnvC scope cl C X.env) fp) tg1 t1) (ht1 : ∀ (s : Shared) (H : Hp) (C : Addr) (cl : List (Str × Addr)) (fp : List Addr), PDbs (X.blk s H scope (compEnvC scope cl C X.env) fp) W0 ifs1 test1)
    (he : ∀ (s : Shared) (H : Hp) (C : Addr) (cl : List (Str × Addr)) (fp : List Addr), PD (X.blk s H scope (compEnvC scope cl C X.env) fp) W0 elt fe) (hvs : own.map (·.2) = vs := by rfl) (hv : ∀ i ∈ t.slots, i ∈ vs := by decide) (hv1 : ∀ i ∈ t1.slots, i ∈ vs1 := by decide) (hvv : ∀ i ∈ vs1, i ∈ vs := by decide)
    (hs : ∀ x, foldedSetIterable iter X.env x = pure x := by intro _; rfl) (hs1 : ∀ env x, foldedSetIterable iter1 env x = pure x := by intro _ _; rfl) :
    PD X W (.ListComp elt [⟨tg, iter, ifs, 0⟩, ⟨tg1, iter1, ifs1, 0⟩] scope pos) (eLc2 mk fi t test fi1 t1 test1 fe vs vs1) := by
  subst hvs
  exact (pe_lc2 hc hN hi ok hvv hg ht hi1 hg1 ht1 he hs hs1).up fun _ _ _ h => lc2_of hmk hv hv1 h
theorem sd_setLc2 {mk : List D → Mem → Out D} {vs vs1 : List Nat} (hmk : MkOk X.K mk) {i : Nat} {y : Str} {py spos : Pos} {scope : Scope} (own : List (Str × Nat)) (hc : X.calm = true) (hN : X.N.Nodup) (hi : PId X W tg iter fi) (ok : BlkOk X.N X.env.scope scope own)
    (hg : ∀ (s : Shared) (H : Hp) (C : Addr) (cl : List (Str × Addr)) (fp : List Addr), PGd (X.blk s H scope (compEnvC scope cl C X.env) fp) tg t) (ht : ∀ (s : Shared) (H : Hp) (C : Addr) (cl : List (Str × Addr)) (fp : List Addr), PDbs (X.blk s H scope (compEnvC scope cl C X.env) fp) W0 ifs test)
    (hi1 : ∀ (s : Shared) (H : Hp) (C : Addr) (cl : List (Str × Addr)) (fp : List Addr), PId (X.blk s H scope (compEnvC scope cl C X.env) fp) W0 tg1 iter1 fi1)
    (hg1 : ∀ (s : Shared) (H : Hp) (C : Addr) (cl : List (Str × Addr)) (fp : List Addr), PGd (X.blk s H scope (compEnvC scope cl C X.env) fp) tg1 t1) (ht1 : ∀ (s : Shared) (H : Hp) (C : Addr) (cl : List (Str × Addr)) (fp : List Addr), PDbs (X.blk s H scope (compEnvC scope cl C X.env) fp) W0 ifs1 test1)
    (he : ∀ (s : Shared) (H : Hp) (C : Addr) (cl : List (Str × Addr)) (fp : List Addr), PD (X.blk s H scope (compEnvC scope cl C X.env) fp) W0 elt fe) (hvs : own.map (·.2) = vs := by rfl) (hv : ∀ i ∈ t.slots, i ∈ vs := by decide) (hv1 : ∀ i ∈ t1.slots, i ∈ vs1 := by decide) (hvv : ∀ i ∈ vs1, i ∈ vs := by decide)
    (hy : X.N[i]? = some y := by rfl) (hyl : X.env.scope.names.lookup y = some .local := by rfl) (hsw : swapsWith (.ListComp elt [⟨tg, iter, ifs, 0⟩, ⟨tg1, iter1, ifs1, 0⟩] scope pos) (some (.Name y py)) spos.line X.env = pure true := by exact sw_true rfl rfl rfl (by decide +kernel))
    (hs : ∀ x, foldedSetIterable iter X.env x = pure x := by intro _; rfl) (hs1 : ∀ env x, foldedSetIterable iter1 env x = pure x := by intro _ _; rfl) :
    SD X W (.Assign [.Name y py] (.ListComp elt [⟨tg, iter, ifs, 0⟩, ⟨tg1, iter1, ifs1, 0⟩] scope pos) spos) (sSet i (eLc2 mk fi t test fi1 t1 test1 fe vs vs1)) := by
  subst hvs
  exact (ps_setLc2 hc hN hy hyl hsw hi ok hvv hg ht hi1 hg1 ht1 he hs hs1).up fun De σ H h => by
    obtain ⟨S, as, M, ρ, st, env, fin⟩ := h
    refine lc2_of (W := W) (fi := fi) (test := test) (fi1 := fi1) (test1 := test1) (fe := fe) hmk hv hv1 ⟨S, as, M, ρ, st, env, ?_⟩
    exact FinS.bindE (g := fun d M => .nx (ρ.set i (some d)) M) fin env fun S1 as1 M1 d v H1 e1 st1 env1 rx fin1 => fin_nx st1 (env1.set rx) fin1
end
end DL
set_option Elab.async false
set_option maxRecDepth 100000
set_option maxHeartbeats 2000000
namespace DL
open PySem PySem.Spec PyProof.Rows L2
/-! ### the plain law: what a denotation gives, step by step -/
abbrev I (i : Int) : D := .v (.int i)
abbrev Bo (b : Bool) : D := .v (.bl b)
abbrev Tx (s : Str) : D := .v (.str s)
abbrev No : D := .v .non
@[irreducible] def P {α : Type} (o : Out α) (E : Exn → Mem → Prop) (Q : α → Mem → Prop) : Prop := match o with
  | .ok a M => Q a M
  | .er x M => E x M
  | .stuck => False
/-- the outcome of a statement: what follows, what is handed back, break, continue, an error -/
@[irreducible] def SP (o : SOut) (nx : Env → Mem → Prop) (rt : D → Mem → Prop) (bk ct : Env → Mem → Prop) (er : Exn → Env → Mem → Prop) : Prop := match o with
  | .nx ρ M => nx ρ M
  | .rt d M => rt d M
  | .bk ρ M => bk ρ M
  | .ct ρ M => ct ρ M
  | .er x ρ M => er x ρ M
  | .stuck => False
theorem P.k {α : Type} {a : α} {M : Mem} {E : Exn → Mem → Prop} {Q : α → Mem → Prop} (q : Q a M) : P (.ok a M) E Q := by unfold P; exact q
theorem P.g {α : Type} {a : α} {M : Mem} {E : Exn → Mem → Prop} {Q : α → Mem → Prop} (q : P (.ok a M) E Q) : Q a M := by unfold P at q; exact q
theorem P.e {α : Type} {x : Exn} {M : Mem} {E : Exn → Mem → Prop} {Q : α → Mem → Prop} (q : E x M) : P (.er x M) E Q := by unfold P; exact q
theorem P.ge {α : Type} {x : Exn} {M : Mem} {E : Exn → Mem → Prop} {Q : α → Mem → Prop} (q : P (.er x M) E Q) : E x M := by unfold P at q; exact q
theorem P.gs {α : Type} {E : Exn → Mem → Prop} {Q : α → Mem → Prop} (q : P .stuck E Q) : False := by unfold P at q; exact q
section
variable {nx : Env → Mem → Prop} {rt : D → Mem → Prop} {bk ct : Env → Mem → Prop} {er : Exn → Env → Mem → Prop} {ρ : Env} {M : Mem} {d : D} {x : Exn}
theorem SP.kn (q : nx ρ M) : SP (.nx ρ M) nx rt bk ct er := by unfold SP; exact q
theorem SP.gn (q : SP (.nx ρ M) nx rt bk ct er) : nx ρ M := by unfold SP at q; exact q
theorem SP.kr (q : rt d M) : SP (.rt d M) nx rt bk ct er := by unfold SP; exact q
theorem SP.gr (q : SP (.rt d M) nx rt bk ct er) : rt d M := by unfold SP at q; exact q
theorem SP.kb (q : bk ρ M) : SP (.bk ρ M) nx rt bk ct er := by unfold SP; exact q
theorem SP.gb (q : SP (.bk ρ M) nx rt bk ct er) : bk ρ M := by unfold SP at q; exact q
theorem SP.kc (q : ct ρ M) : SP (.ct ρ M) nx rt bk ct er := by unfold SP; exact q
theorem SP.gc (q : SP (.ct ρ M) nx rt bk ct er) : ct ρ M := by unfold SP at q; exact q
theorem SP.ke (q : er x ρ M) : SP (.er x ρ M) nx rt bk ct er := by unfold SP; exact q
theorem SP.ge (q : SP (.er x ρ M) nx rt bk ct er) : er x ρ M := by unfold SP at q; exact q
theorem SP.gs (q : SP .stuck nx rt bk ct er) : False := by unfold SP at q; exact q
end
abbrev NoE : Exn → Mem → Prop := fun _ _ => False
section
variable {α β : Type} {E E' : Exn → Mem → Prop} {M : Mem} {ρ : Env} {Q : D → Mem → Prop}
theorem P.mono {o : Out α} {Q Q' : α → Mem → Prop} (h : P o E Q) (i : ∀ a M, Q a M → Q' a M) : P o E Q' := by
  cases o with
  | ok a M => exact P.k (i a M h.g)
  | er x M => exact P.e h.ge
  | stuck => exact h.gs.elim
theorem P.noE {o : Out α} {Q : α → Mem → Prop} (h : P o NoE Q) : P o E Q := by
  cases o with
  | ok a M => exact P.k h.g
  | er x M => exact h.ge.elim
  | stuck => exact h.gs.elim
theorem P.of {o : Out α} {Q : α → Mem → Prop} {a : α} {M : Mem} (h : o = .ok a M) (q : Q a M) : P o E Q := by rw [h]; exact P.k q
theorem P.ok {o : Out α} {Q : α → Mem → Prop} (h : P o NoE Q) : ∃ a M, o = .ok a M ∧ Q a M := by
  cases o with
  | ok a M => exact ⟨a, M, rfl, h.g⟩
  | er x M => exact h.ge.elim
  | stuck => exact h.gs.elim
theorem SP.mono {o : SOut} {nx nx' : Env → Mem → Prop} {rt rt' : D → Mem → Prop} {bk ct bk' ct' : Env → Mem → Prop} {er er' : Exn → Env → Mem → Prop} (h : SP o nx rt bk ct er) (h1 : ∀ ρ M, nx ρ M → nx' ρ M) (h2 : ∀ d M, rt d M → rt' d M) (h3 : ∀ ρ M, bk ρ M → bk' ρ M) (h4 : ∀ ρ M, ct ρ M → ct' ρ M) (h5 : ∀ x ρ M, er x ρ M → er' x ρ M) : SP o nx' rt' bk' ct' er' := by
  cases o with
  | nx ρ M => exact SP.kn (h1 _ _ h.gn)
  | rt d M => exact SP.kr (h2 _ _ h.gr)
  | bk ρ M => exact SP.kb (h3 _ _ h.gb)
  | ct ρ M => exact SP.kc (h4 _ _ h.gc)
  | er x ρ M => exact SP.ke (h5 _ _ _ h.ge)
  | stuck => exact h.gs.elim
theorem p_bind {c : C α} {g : α → C β} {Q : β → Mem → Prop} (h : P (c M) E fun a M1 => P (g a M1) E Q) : P (C.bind c g M) E Q := by
  unfold C.bind
  cases e : c M with
  | ok a M1 => rw [e] at h; exact h.g
  | er x M1 => rw [e] at h; exact P.e h.ge
  | stuck => rw [e] at h; exact h.gs.elim
theorem p_ret {a : α} {Q : α → Mem → Prop} (q : Q a M) : P (C.ret a M) E Q := P.k q
theorem p_var {i : Nat} {d : D} (h : ρ[i]? = some (some d)) (q : Q d M) : P (eVar i ρ M) E Q := by
  unfold eVar; rw [h]; exact P.k q
theorem p_c {d : D} (q : Q d M) : P (eC d ρ M) E Q := P.k q
theorem p_e2 {g : D → D → C D} {fa fb : Env → C D} (h : P (fa ρ M) E fun x M1 => P (fb ρ M1) E fun y M2 => P (g x y M2) E Q) : P (e2 g fa fb ρ M) E Q := p_bind (h.mono fun _ _ q => p_bind q)
theorem p_e1 {g : D → C D} {fa : Env → C D} (h : P (fa ρ M) E fun x M1 => P (g x M1) E Q) : P (e1 g fa ρ M) E Q := p_bind h
theorem p_nil {Q : List D → Mem → Prop} (q : Q [] M) : P (eNil ρ M) E Q := P.k q
theorem p_cons {fa : Env → C D} {fr : Env → C (List D)} {Q : List D → Mem → Prop} (h : P (fa ρ M) E fun x M1 => P (fr ρ M1) E fun xs M2 => Q (x :: xs) M2) : P (eCons fa fr ρ M) E Q := p_bind (h.mono fun _ _ q => p_bind (q.mono fun _ _ q => P.k q))
theorem p_eN {g : List D → C D} {fs : Env → C (List D)} (h : P (fs ρ M) E fun xs M1 => P (g xs M1) E Q) : P (eN g fs ρ M) E Q := p_bind h
theorem p_eM {T : String} {g : D → List D → C D} {fo : Env → C D} {fs : Env → C (List D)} (h : P (fo ρ M) E fun x M1 => tyOk T M1 x = true ∧ P (fs ρ M1) E fun xs M2 => P (g x xs M2) E Q) : P (eM T g fo fs ρ M) E Q :=
  p_bind (h.mono fun x M1 ⟨h1, h2⟩ => by rw [if_pos h1]; exact p_bind h2)
/-! tests -/
variable {Qb : Bool → Mem → Prop}
theorem p_eB {fa : Env → C D} (h : P (fa ρ M) E fun x M1 => ∃ b, x = Bo b ∧ Qb b M1) : P (eB fa ρ M) E Qb := p_bind (h.mono fun x M1 ⟨b, e, q⟩ => by subst e; exact P.k q)
theorem p_eT {fa : Env → C D} (h : P (fa ρ M) E fun x M1 => ∃ b, truD M1 x = some b ∧ Qb b M1) : P (eT fa ρ M) E Qb := p_bind (h.mono fun x M1 ⟨b, e, q⟩ => by unfold gTru; rw [e]; exact P.k q)
theorem p_bAnd {fa fb : Env → C Bool} (h : P (fa ρ M) E fun c M1 => (c = true → P (fb ρ M1) E Qb) ∧ (c = false → Qb false M1)) : P (bAnd fa fb ρ M) E Qb := p_bind (h.mono fun c M1 ⟨h1, h2⟩ => by
  cases c with
  | true => rw [if_pos rfl]; exact h1 rfl
  | false => rw [if_neg Bool.false_ne_true]; exact P.k (h2 rfl))
theorem p_bOr {fa fb : Env → C Bool} (h : P (fa ρ M) E fun c M1 => (c = true → Qb true M1) ∧ (c = false → P (fb ρ M1) E Qb)) : P (bOr fa fb ρ M) E Qb := p_bind (h.mono fun c M1 ⟨h1, h2⟩ => by
  cases c with
  | true => rw [if_pos rfl]; exact P.k (h1 rfl)
  | false => rw [if_neg Bool.false_ne_true]; exact h2 rfl)
theorem p_bNot {fa : Env → C Bool} (h : P (fa ρ M) E fun c M1 => Qb (!c) M1) : P (bNot fa ρ M) E Qb := p_bind (h.mono fun _ _ q => P.k q)
theorem p_bIsN {fa : Env → C D} (h : P (fa ρ M) E fun x M1 => Qb (isNon x) M1) : P (bIsN fa ρ M) E Qb := p_bind (h.mono fun _ _ q => P.k q)
theorem p_bNotN {fa : Env → C D} (h : P (fa ρ M) E fun x M1 => Qb (!isNon x) M1) : P (bNotN fa ρ M) E Qb := p_bind (h.mono fun _ _ q => P.k q)
theorem p_eIf {fc : Env → C Bool} {fa fb : Env → C D} (h : P (fc ρ M) E fun c M1 => (c = true → P (fa ρ M1) E Q) ∧ (c = false → P (fb ρ M1) E Q)) : P (eIf fc fa fb ρ M) E Q := p_bind (h.mono fun c M1 ⟨h1, h2⟩ => by
  cases c with
  | true => rw [if_pos rfl]; exact h1 rfl
  | false => rw [if_neg Bool.false_ne_true]; exact h2 rfl)
theorem p_gTru {x : D} {b : Bool} (h : truD M x = some b) (q : Qb b M) : P (gTru x M) E Qb := by unfold gTru; rw [h]; exact P.k q
theorem p_eAndV {fa fb : Env → C D} (h : P (fa ρ M) E fun x M1 => ∃ b, truD M1 x = some b ∧ (b = true → P (fb ρ M1) E Q) ∧ (b = false → Q x M1)) : P (eAndV fa fb ρ M) E Q := p_bind (h.mono fun x M1 ⟨b, h0, h1, h2⟩ => p_bind (p_gTru h0 (by
  cases b with
  | true => rw [if_pos rfl]; exact h1 rfl
  | false => rw [if_neg Bool.false_ne_true]; exact P.k (h2 rfl))))
theorem p_eOrV {fa fb : Env → C D} (h : P (fa ρ M) E fun x M1 => ∃ b, truD M1 x = some b ∧ (b = true → Q x M1) ∧ (b = false → P (fb ρ M1) E Q)) : P (eOrV fa fb ρ M) E Q := p_bind (h.mono fun x M1 ⟨b, h0, h1, h2⟩ => p_bind (p_gTru h0 (by
  cases b with
  | true => rw [if_pos rfl]; exact P.k (h1 rfl)
  | false => rw [if_neg Bool.false_ne_true]; exact h2 rfl)))
theorem p_eNotV {fa : Env → C D} (h : P (fa ρ M) E fun x M1 => ∃ b, truD M1 x = some b ∧ Q (Bo (!b)) M1) : P (eNotV fa ρ M) E Q := p_bind (h.mono fun x M1 ⟨b, h0, h1⟩ => p_bind (p_gTru h0 (P.k h1)))
theorem p_chain {g g' : D → D → C D} {fa fb fc : Env → C D} (h : P (fa ρ M) E fun x M1 => P (fb ρ M1) E fun y M2 => P (g x y M2) E fun z M3 => ∃ k, z = Bo k ∧ (k = true → P (fc ρ M3) E fun w M4 => P (g' y w M4) E Q) ∧ (k = false → Q (Bo false) M3)) : P (eChain g g' fa fb fc ρ M) E Q :=
  p_bind (h.mono fun _ _ h => p_bind (h.mono fun _ _ h => p_bind (h.mono fun z M3 ⟨k, e, h1, h2⟩ => by
    subst e
    refine p_bind (show P (C.ret k M3) E _ from p_ret ?_)
    cases k with
    | true => rw [if_pos rfl]; exact p_bind (h1 rfl)
    | false => rw [if_neg Bool.false_ne_true]; exact P.k (h2 rfl))))
/-! operators on ints and texts -/
theorem p_gI {C : Int → Int → Prop} {f : Int → Int → V} {i j : Int} (h : C i j) (q : Q (.v (f i j)) M) : P (gI C f (I i) (I j) M) E Q := by
  unfold gI; simp only [if_pos h]; exact P.k q
theorem p_add {i j : Int} (q : Q (I (i + j)) M) : P (gAdd (I i) (I j) M) E Q := P.k q
theorem p_sub {i j : Int} (q : Q (I (i - j)) M) : P (gSub (I i) (I j) M) E Q := p_gI trivial q
theorem p_mul {i j : Int} (h : PMul i j) (q : Q (I (i * j)) M) : P (gMul (I i) (I j) M) E Q := p_gI h q
theorem p_div {i j : Int} (h : PDiv i j) (q : Q (I (i / j)) M) : P (gDiv (I i) (I j) M) E Q := p_gI h q
theorem p_mod {i j : Int} (h : 0 < j) (q : Q (I (i % j)) M) : P (gMod (I i) (I j) M) E Q := p_gI h q
theorem p_pow {i j : Int} (h : CPow i j) (q : Q (I (i ^ j.toNat)) M) : P (gPow (I i) (I j) M) E Q := p_gI h q
theorem p_neg {i : Int} (q : Q (I (-i)) M) : P (gNeg (I i) M) E Q := P.k q
theorem p_lt {i j : Int} (q : Q (Bo (decide (i < j))) M) : P (gLt (I i) (I j) M) E Q := P.k q
theorem p_le {i j : Int} (q : Q (Bo (decide (i ≤ j))) M) : P (gLe (I i) (I j) M) E Q := P.k q
theorem p_gt {i j : Int} (q : Q (Bo (decide (j < i))) M) : P (gGt (I i) (I j) M) E Q := P.k q
theorem p_ge {i j : Int} (q : Q (Bo (decide (j ≤ i))) M) : P (gGe (I i) (I j) M) E Q := P.k q
theorem p_addS {a b : Str} (h : a.length + b.length ≤ 16777216) (q : Q (Tx (a ++ b)) M) : P (gAdd (Tx a) (Tx b) M) E Q := by
  show P (addD (Tx a) (Tx b) M) E Q
  unfold addD; simp only [if_pos h]; exact P.k q
theorem deq_int {i j : Int} : deq (I i) (I j) = decide (i = j) := by
  unfold deq toPy pyV PyData.eqv; exact Bool.beq_eq_decide_eq i j
theorem deq_str {i j : Str} : deq (Tx i) (Tx j) = decide (i = j) := by
  unfold deq toPy pyV PyData.eqv; exact Bool.beq_eq_decide_eq i j
theorem p_eqD {x y : D} (hx : okEq (resM M x) = true) (hy : okEq (resM M y) = true) (q : Q (Bo (deq (resM M x) (resM M y))) M) : P (gEq x y M) E Q := by
  unfold gEq; rw [hx, hy]; exact P.k q
theorem p_neD {x y : D} (hx : okEq (resM M x) = true) (hy : okEq (resM M y) = true) (q : Q (Bo (!deq (resM M x) (resM M y))) M) : P (gNe x y M) E Q := by
  unfold gNe; rw [hx, hy]; exact P.k q
theorem p_eqI {i j : Int} (q : Q (Bo (decide (i = j))) M) : P (gEq (I i) (I j) M) E Q := p_eqD rfl rfl (by rw [show deq (resM M (I i)) (resM M (I j)) = deq (I i) (I j) from rfl, deq_int]; exact q)
theorem p_neI {i j : Int} (q : Q (Bo (!decide (i = j))) M) : P (gNe (I i) (I j) M) E Q := p_neD rfl rfl (by rw [show deq (resM M (I i)) (resM M (I j)) = deq (I i) (I j) from rfl, deq_int]; exact q)
theorem p_eqS {i j : Str} (q : Q (Bo (decide (i = j))) M) : P (gEq (Tx i) (Tx j) M) E Q := p_eqD rfl rfl (by rw [show deq (resM M (Tx i)) (resM M (Tx j)) = deq (Tx i) (Tx j) from rfl, deq_str]; exact q)
theorem p_neS {i j : Str} (q : Q (Bo (!decide (i = j))) M) : P (gNe (Tx i) (Tx j) M) E Q := p_neD rfl rfl (by rw [show deq (resM M (Tx i)) (resM M (Tx j)) = deq (Tx i) (Tx j) from rfl, deq_str]; exact q)
theorem p_isN {x : D} (q : Q (Bo (isNon x)) M) : P (gIsN x M) E Q := P.k q
theorem p_notN {x : D} (q : Q (Bo (!isNon x)) M) : P (gNotN x M) E Q := P.k q
/-! subscripts -/
theorem p_ixS {x : D} {ds : List D} {i : Int} {d : D} (h1 : seqOf M x = some ds) (h2 : atI ds i = some d) (q : Q d M) : P (gIx x (I i) M) E Q := by
  cases x with
  | v z => cases h1
  | _ => unfold gIx; simp only [h1, h2]; exact P.k q
theorem p_ixT {z : Str} {i : Int} {c : Nat} (h : atI z.cps.toList i = some c) (q : Q (Tx ⟨#[c]⟩) M) : P (gIx (Tx z) (I i) M) E Q := by
  unfold gIx; simp only [h]; exact P.k q
theorem p_oNo {Qo : Option Int → Mem → Prop} (q : Qo none M) : P (oNo ρ M) E Qo := P.k q
theorem p_oYes {fa : Env → C D} {Qo : Option Int → Mem → Prop} (h : P (fa ρ M) E fun x M1 => ∃ i, x = I i ∧ Qo (some i) M1) : P (oYes fa ρ M) E Qo := p_bind (h.mono fun x M1 ⟨i, e, q⟩ => by subst e; exact P.k q)
theorem p_eSl {fe : Env → C D} {fl fh : Env → C (Option Int)} (h : P (fe ρ M) E fun x M1 => P (fl ρ M1) E fun lo M2 => P (fh ρ M2) E fun hi M3 => P (gSl x lo hi M3) E Q) : P (eSl fe fl fh ρ M) E Q := p_bind (h.mono fun _ _ h => p_bind (h.mono fun _ _ h => p_bind h))
theorem p_slS {z : Str} {lo hi : Option Int} (q : Q (Tx (cutS z lo hi)) M) : P (gSl (Tx z) lo hi M) E Q := P.k q
theorem p_slL {x : D} {ds : List D} {lo hi : Option Int} (h : lstOf M x = some ds) (q : Q (.lst (cutG ds lo hi)) M) : P (gSl x lo hi M) E Q := by
  cases x with
  | v z => cases h
  | tup _ => cases h
  | _ => unfold gSl; simp only [h]; exact P.k q
/-! calls of built-ins -/
theorem p_len {x : D} {n : Nat} (h : lenD M x = some n) (q : Q (I (n : Int)) M) : P (gLen [x] M) E Q := by unfold gLen; simp only [h]; exact P.k q
theorem p_abs {i : Int} (q : Q (I (if i < 0 then -i else i)) M) : P (gAbs [I i] M) E Q := P.k q
theorem p_intI {i : Int} (q : Q (I i) M) : P (gInt [I i] M) E Q := P.k q
theorem p_intB {k : Bool} (q : Q (I (if k = true then 1 else 0)) M) : P (gInt [Bo k] M) E Q := P.k q
theorem p_max2 {i j : Int} (q : Q (I (if j > i then j else i)) M) : P (gMax2 [I i, I j] M) E Q := P.k q
theorem p_min2 {i j : Int} (q : Q (I (if j < i then j else i)) M) : P (gMin2 [I i, I j] M) E Q := P.k q
theorem p_sum {x : D} {ds : List D} {ns : List Int} (h : lstOf M x = some ds) (h2 : intsOf ds = some ns) (q : Q (I ns.sum) M) : P (gSum [x] M) E Q := by unfold gSum; simp only [h, h2]; exact P.k q
theorem p_listV {x : D} {ds : List D} (h : seqOf M x = some ds) (q : Q (.lst ds) M) : P (gListOf mkV [x] M) E Q := by unfold gListOf; simp only [h]; exact P.k q
theorem p_listH {x : D} {ds : List D} (h : seqOf M x = some ds) (q : Q (.h M.length) (M ++ [.lst ds])) : P (gListOf mkH [x] M) E Q := by unfold gListOf; simp only [h]; exact P.k q
theorem p_revLV {x : D} {ds : List D} (h : lstOf M x = some ds) (q : Q (.lst ds.reverse) M) : P (gRevL mkV x M) E Q := by unfold gRevL; simp only [h]; exact P.k q
theorem p_lstV {xs : List D} (h : xs.length ≤ 16777216) (q : Q (.lst xs) M) : P (gLst mkV xs M) E Q := by unfold gLst; rw [if_pos h]; exact P.k q
theorem p_lstH {xs : List D} (h : xs.length ≤ 16777216) (q : Q (.h M.length) (M ++ [.lst xs])) : P (gLst mkH xs M) E Q := by unfold gLst; rw [if_pos h]; exact P.k q
theorem p_tup {xs : List D} (h : xs.length ≤ 16777216) (q : Q (.tup xs) M) : P (gTup xs M) E Q := by unfold gTup; rw [if_pos h]; exact P.k q
theorem p_isi {x : D} {c t : String} {b : Bool} (h : tyN M x = some t) (h2 : kitB t c = some b) (q : Q (Bo b) M) : P (gIsi [x, .v (.ty c)] M) E Q := by unfold gIsi; simp only [h, h2]; exact P.k q
theorem p_append {k : Nat} {d : D} {ds : List D} (h : M[k]? = some (.lst ds)) (hl : ds.length < 16777216) (q : Q No (M.set k (.lst (ds ++ [d])))) : P (gAppend (.h k) [d] M) E Q := by unfold gAppend; simp only [h, if_pos hl]; exact P.k q
theorem p_in {x y : D} {b : Bool} (h : inD M x y = some b) (q : Q (Bo b) M) : P (gIn x y M) E Q := by unfold gIn; simp only [h]; exact P.k q
theorem p_notIn {x y : D} {b : Bool} (h : inD M x y = some b) (q : Q (Bo (!b)) M) : P (gNotIn x y M) E Q := by unfold gNotIn; simp only [h]; exact P.k q
end
/-! statements -/
section
variable {α : Type} {M : Mem} {ρ : Env} {nx : Env → Mem → Prop} {rt : D → Mem → Prop} {bk ct : Env → Mem → Prop} {er : Exn → Env → Mem → Prop} {fe : Env → C D} {f g : Cs} {Q : D → Mem → Prop} {E : Exn → Mem → Prop}
theorem s_E {c : C α} {g : α → Mem → SOut} (h : P (c M) (fun x M1 => er x ρ M1) fun a M1 => SP (g a M1) nx rt bk ct er) : SP (sE c ρ g M) nx rt bk ct er := by
  unfold sE
  cases e : c M with
  | ok a M1 => rw [e] at h; exact h.g
  | er x M1 => rw [e] at h; exact SP.ke h.ge
  | stuck => rw [e] at h; exact h.gs.elim
theorem s_set {i : Nat} (h : P (fe ρ M) (fun x M1 => er x ρ M1) fun d M1 => nx (ρ.set i (some d)) M1) : SP (sSet i fe ρ M) nx rt bk ct er := s_E (h.mono fun _ _ q => SP.kn q)
theorem s_ret (h : P (fe ρ M) (fun x M1 => er x ρ M1) rt) : SP (sRet fe ρ M) nx rt bk ct er := s_E (h.mono fun _ _ q => SP.kr q)
theorem s_retN (h : rt No M) : SP (sRetN ρ M) nx rt bk ct er := SP.kr h
theorem s_expr (h : P (fe ρ M) (fun x M1 => er x ρ M1) fun _ M1 => nx ρ M1) : SP (sExpr fe ρ M) nx rt bk ct er := s_E (h.mono fun _ _ q => SP.kn q)
theorem s_if {fc : Env → C Bool} (h : P (fc ρ M) (fun x M1 => er x ρ M1) fun b M1 => (b = true → SP (f ρ M1) nx rt bk ct er) ∧ (b = false → SP (g ρ M1) nx rt bk ct er)) : SP (sIf fc f g ρ M) nx rt bk ct er := s_E (h.mono fun b M1 ⟨h1, h2⟩ => by
  cases b with
  | true => rw [if_pos rfl]; exact h1 rfl
  | false => rw [if_neg Bool.false_ne_true]; exact h2 rfl)
theorem s_seq (h : SP (f ρ M) (fun ρ1 M1 => SP (g ρ1 M1) nx rt bk ct er) rt bk ct er) : SP (sSeq f g ρ M) nx rt bk ct er := by
  unfold sSeq
  cases e : f ρ M with
  | nx ρ1 M1 => rw [e] at h; exact h.gn
  | rt d M1 => rw [e] at h; exact SP.kr h.gr
  | bk ρ1 M1 => rw [e] at h; exact SP.kb h.gb
  | ct ρ1 M1 => rw [e] at h; exact SP.kc h.gc
  | er x ρ1 M1 => rw [e] at h; exact SP.ke h.ge
  | stuck => rw [e] at h; exact h.gs.elim
/-- a cut: what holds between -/
theorem s_cut (J : Env → Mem → Prop) (h : SP (f ρ M) J rt bk ct er) (k : ∀ ρ1 M1, J ρ1 M1 → SP (g ρ1 M1) nx rt bk ct er) : SP (sSeq f g ρ M) nx rt bk ct er :=
  s_seq (h.mono k (fun _ _ q => q) (fun _ _ q => q) (fun _ _ q => q) (fun _ _ _ q => q))
theorem s_pass (h : nx ρ M) : SP (sPass ρ M) nx rt bk ct er := SP.kn h
theorem s_break (h : bk ρ M) : SP (sBreak ρ M) nx rt bk ct er := SP.kb h
theorem s_cont (h : ct ρ M) : SP (sCont ρ M) nx rt bk ct er := SP.kc h
theorem s_asg {t : Tg} (h : P (fe ρ M) (fun x M1 => er x ρ M1) fun d M1 => ∃ ρ1, t.run d ρ = some ρ1 ∧ nx ρ1 M1) : SP (sAsg t fe ρ M) nx rt bk ct er := s_E (h.mono fun d M1 ⟨ρ1, e, q⟩ => by rw [e]; exact SP.kn q)
theorem s_store {fo fi : Env → C D} (h : P (fe ρ M) (fun x M1 => er x ρ M1) fun d M1 => P (fo ρ M1) (fun x M1 => er x ρ M1) fun o M2 => P (fi ρ M2) (fun x M1 => er x ρ M1) fun i M3 => ∃ M4, storeD M3 o i d = some M4 ∧ nx ρ M4) : SP (sStore fo fi fe ρ M) nx rt bk ct er :=
  s_E (h.mono fun d M1 h => s_E (h.mono fun o M2 h => s_E (h.mono fun i M3 ⟨M4, e, q⟩ => by rw [e]; exact SP.kn q)))
theorem s_aug {i : Nat} {g : D → D → C D} {x : D} (hx : ρ[i]? = some (some x)) (h : P (fe ρ M) (fun x M1 => er x ρ M1) fun y M1 => P (g x y M1) (fun x M1 => er x ρ M1) fun z M2 => nx (ρ.set i (some z)) M2) : SP (sAug i g fe ρ M) nx rt bk ct er := by
  unfold sAug
  rw [hx]
  exact s_E (h.mono fun y M1 h => s_E (h.mono fun _ _ q => SP.kn q))
theorem p_iaddI {i j : Int} (q : Q (I (i + j)) M) : P (iAdd (I i) (I j) M) E Q := P.k q
/-- for: the invariant by the items taken -/
theorem s_forL {gd : Option (Nat × List D)} {t : Tg} {body : Cs} (J : Nat → Env → Mem → Prop) {ds : List D} (h0 : J 0 ρ M) (hg : ∀ i ρ M, J i ρ M → gOk gd M)
    (hs : ∀ i d ρ M, ds[i]? = some d → J i ρ M → ∃ ρ1, t.run d ρ = some ρ1 ∧ SP (body ρ1 M) (J (i + 1)) rt nx (J (i + 1)) er)
    (hd : ∀ ρ M, J ds.length ρ M → nx ρ M) : SP (forL gd t body ds ρ M) nx rt bk ct er := by
  have go : ∀ (es : List D) (i : Nat) (ρ : Env) (M : Mem), ds.drop i = es → i + es.length = ds.length → J i ρ M → SP (forL gd t body es ρ M) nx rt bk ct er := by
    intro es
    induction es with
    | nil =>
      intro i ρ M he hl hj
      unfold forL
      rw [if_pos (hg i ρ M hj)]
      have : i = ds.length := by simpa using hl
      subst this
      exact SP.kn (hd ρ M hj)
    | cons d es ih =>
      intro i ρ M he hl hj
      unfold forL
      rw [if_pos (hg i ρ M hj)]
      have hi : ds[i]? = some d := by
        have : (ds.drop i)[0]? = some d := by rw [he]; rfl
        simpa using this
      obtain ⟨ρ1, h1, h2⟩ := hs i d ρ M hi hj
      rw [h1]
      have he2 : ds.drop (i + 1) = es := by
        rw [← List.drop_drop, he]; rfl
      simp only
      cases eb : body ρ1 M with
      | nx ρ2 M2 => rw [eb] at h2; exact ih (i + 1) ρ2 M2 he2 (by simp at hl; omega) h2.gn
      | ct ρ2 M2 => rw [eb] at h2; exact ih (i + 1) ρ2 M2 he2 (by simp at hl; omega) h2.gc
      | bk ρ2 M2 => rw [eb] at h2; exact SP.kn h2.gb
      | rt d2 M2 => rw [eb] at h2; exact SP.kr h2.gr
      | er x ρ2 M2 => rw [eb] at h2; exact SP.ke h2.ge
      | stuck => rw [eb] at h2; exact h2.gs.elim
  exact go ds 0 ρ M rfl (by simp) h0
theorem s_for {fi : Env → C ItS} {t : Tg} {body : Cs} (h : P (fi ρ M) (fun x M1 => er x ρ M1) fun Z M1 => SP (forL Z.g t body Z.ds ρ M1) nx rt bk ct er) : SP (sFor fi t body ρ M) nx rt bk ct er := s_E h
theorem p_eIt {fa : Env → C D} {Qi : ItS → Mem → Prop} (h : P (fa ρ M) E fun x M1 => ∃ Z, itOf M1 x = some Z ∧ Qi Z M1) : P (eIt fa ρ M) E Qi := p_bind (h.mono fun x M1 ⟨Z, e, q⟩ => by unfold gIt; rw [e]; exact P.k q)
theorem p_eRange1 {fs : Env → C (List D)} {Qi : ItS → Mem → Prop} (h : P (fs ρ M) E fun xs M1 => ∃ j, xs = [I j] ∧ (-(2 ^ 62) ≤ j ∧ j < 2 ^ 62) ∧ Qi ⟨rangeD 0 j.toNat, none⟩ M1) : P (eRange1 fs ρ M) E Qi := p_bind (h.mono fun xs M1 ⟨j, e, hj, q⟩ => by
  subst e; unfold gRange1; simp only [if_pos hj]; exact P.k q)
theorem p_eRange2 {fs : Env → C (List D)} {Qi : ItS → Mem → Prop} (h : P (fs ρ M) E fun xs M1 => ∃ i j, xs = [I i, I j] ∧ (-(2 ^ 62) ≤ i ∧ i < 2 ^ 62 ∧ -(2 ^ 62) ≤ j ∧ j < 2 ^ 62) ∧ Qi ⟨rangeD i (j - i).toNat, none⟩ M1) : P (eRange2 fs ρ M) E Qi := p_bind (h.mono fun xs M1 ⟨i, j, e, hj, q⟩ => by
  subst e; unfold gRange2; simp only [if_pos hj]; exact P.k q)
theorem p_eEnum {fs : Env → C (List D)} {Qi : ItS → Mem → Prop} (h : P (fs ρ M) E fun xs M1 => ∃ x ds, xs = [x] ∧ lstOf M1 x = some ds ∧ Qi ⟨enumD ds, grd x ds⟩ M1) : P (eEnum fs ρ M) E Qi := p_bind (h.mono fun xs M1 ⟨x, ds, e, hd, q⟩ => by
  subst e; unfold gEnum; simp only [hd]; exact P.k q)
theorem rangeD_get {lo : Int} {n i : Nat} {d : D} (h : (rangeD lo n)[i]? = some d) : d = I (lo + (i : Int)) ∧ i < n := by
  unfold rangeD at h
  have hi : i < n := by
    have := (List.getElem?_eq_some_iff.mp h).1
    simpa using this
  rw [List.getElem?_map, List.getElem?_range hi] at h
  cases h
  exact ⟨rfl, hi⟩
theorem rangeD_len {lo : Int} {n : Nat} : (rangeD lo n).length = n := by unfold rangeD; simp
/-- a comprehension: the invariant by the items taken and what is made -/
theorem p_lcL {gd : Option (Nat × List D)} {t : Tg} {test : Env → C Bool} {elt : Env → C D} {Q : List D → Mem → Prop} (J : Nat → List D → Mem → Prop) {ds : List D} (h0 : J 0 [] M) (hg : ∀ i acc M, J i acc M → gOk gd M)
    (hs : ∀ i d acc M, ds[i]? = some d → J i acc M → ∃ ρ1, t.run d ρ = some ρ1 ∧ P (test ρ1 M) NoE fun b M1 => (b = true → P (elt ρ1 M1) NoE fun y M2 => J (i + 1) (acc ++ [y]) M2) ∧ (b = false → J (i + 1) acc M1))
    (hd : ∀ acc M, J ds.length acc M → Q acc M) : P (lcL gd t test elt ds [] ρ M) E Q := by
  have go : ∀ (es : List D) (i : Nat) (acc : List D) (M : Mem), ds.drop i = es → i + es.length = ds.length → J i acc M → P (lcL gd t test elt es acc ρ M) E Q := by
    intro es
    induction es with
    | nil =>
      intro i acc M he hl hj
      unfold lcL
      rw [if_pos (hg i acc M hj)]
      have : i = ds.length := by simpa using hl
      subst this
      exact P.k (hd acc M hj)
    | cons d es ih =>
      intro i acc M he hl hj
      unfold lcL
      rw [if_pos (hg i acc M hj)]
      have hi : ds[i]? = some d := by
        have : (ds.drop i)[0]? = some d := by rw [he]; rfl
        simpa using this
      obtain ⟨ρ1, h1, h2⟩ := hs i d acc M hi hj
      rw [h1]
      have he2 : ds.drop (i + 1) = es := by
        rw [← List.drop_drop, he]; rfl
      simp only
      obtain ⟨b, M1, e1, h3, h4⟩ := h2.ok
      rw [e1]
      cases b with
      | false => exact ih (i + 1) acc M1 he2 (by simp at hl; omega) (h4 rfl)
      | true =>
        obtain ⟨y, M2, e2, h5⟩ := (h3 rfl).ok
        simp only [e2]
        exact ih (i + 1) (acc ++ [y]) M2 he2 (by simp at hl; omega) h5
  exact go ds 0 [] M rfl (by simp) h0
theorem p_lcG {mk : List D → Mem → Out D} {fi : Env → C ItS} {t : Tg} {test : Env → C Bool} {elt : Env → C D} {vs : List Nat} (h : P (fi ρ M) E fun Z M1 => Z.ds.length ≤ 16777216 ∧ P (lcL Z.g t test elt Z.ds [] (wipeD ρ vs) M1) NoE fun acc M2 => P (mk acc M2) E Q) : P (eLcG mk fi t test elt vs ρ M) E Q :=
  p_bind (h.mono fun Z M1 ⟨h1, h2⟩ => by
    rw [if_pos h1]
    obtain ⟨acc, M2, e, h3⟩ := h2.ok
    rw [e]
    exact h3)
theorem p_mkV {acc : List D} (q : Q (.lst acc) M) : P (mkV acc M) E Q := P.k q
theorem p_mkH {acc : List D} (q : Q (.h M.length) (M ++ [.lst acc])) : P (mkH acc M) E Q := P.k q
theorem p_bYes {Qb : Bool → Mem → Prop} (q : Qb true M) : P (bYes ρ M) E Qb := P.k q
/-! defs -/
theorem p_runF {md : Mode} {n N : Nat} {body : Cs} {ds : List D} (hn : ds.length = n) (h : SP (body (ds.map some ++ List.replicate (N - n) none) M) (fun _ M1 => P (finish md M M1 No) E Q) (fun d M1 => P (finish md M M1 d) E Q) (fun _ _ => False) (fun _ _ => False) (fun x _ M1 => E x M1)) :
    P (runF md n N body ds M) E Q := by
  unfold runF
  rw [if_pos hn]
  cases e : body (ds.map some ++ List.replicate (N - n) none) M with
  | nx ρ1 M1 => rw [e] at h; exact h.gn
  | rt d M1 => rw [e] at h; exact h.gr
  | bk ρ1 M1 => rw [e] at h; exact h.gb.elim
  | ct ρ1 M1 => rw [e] at h; exact h.gc.elim
  | er x ρ1 M1 => rw [e] at h; exact P.e h.ge
  | stuck => rw [e] at h; exact h.gs.elim
theorem CellsOk.refl (M : Mem) : CellsOk M M := fun _ _ => .inl rfl
theorem CellsOk.set {M1 : Mem} {k : Nat} {c : D} (h : CellsOk M M1) (hc : hb M.length c = true) : CellsOk M (M1.set k c) := fun j hj => by
  by_cases e : k = j
  · subst e
    by_cases hl : k < M1.length
    · exact .inr ⟨c, by rw [List.getElem?_set_self hl], hc⟩
    · rw [List.set_eq_of_length_le (by omega)]; exact h k hj
  · rw [List.getElem?_set_ne e]; exact h j hj
theorem CellsOk.app {M1 L : Mem} (h : CellsOk M M1) (hl : M.length ≤ M1.length) : CellsOk M (M1 ++ L) := fun j hj => by
  rw [List.getElem?_append_left (by omega)]; exact h j hj
/-- .. of any datum that is no handle -/
def noH : D → Bool
  | .h _ => false
  | _ => true
theorem p_finD {md : Mode} {M1 M2 : Mem} {d : D} (hm : md ≠ .keep) (hd : noH d = true) (h : CellsOk M M1) (hv : hb M.length d = true) (e : M1.take M.length = M2) (q : Q d M2) : P (finish md M M1 d) E Q := by
  cases md with
  | keep => exact absurd rfl hm
  | own =>
    unfold finish finVal
    cases d with
    | h k => cases hd
    | _ => simp only; rw [if_pos ⟨h, hv⟩, e]; exact P.k q
  | frz =>
    unfold finish finVal
    cases d with
    | h k => cases hd
    | _ => simp only; rw [if_pos ⟨h, hv⟩, e]; exact P.k q
  | dfr =>
    unfold finish
    have : melt M.length M1 8 d = some d := by unfold melt; rw [if_pos hv]
    simp only [this]
    rw [if_pos h, e]; exact P.k q
theorem melt_hb {n f : Nat} {M1 : Mem} {d : D} (hv : hb n d = true) : melt n M1 (f + 1) d = some d := by
  unfold melt; rw [if_pos hv]
theorem p_finM {M1 M2 : Mem} {d d' : D} (hd : melt M.length M1 8 d = some d') (h : CellsOk M M1) (e : M1.take M.length = M2) (q : Q d' M2) : P (finish .dfr M M1 d) E Q := by
  unfold finish
  simp only [hd]
  rw [if_pos h, e]; exact P.k q
theorem p_finV {md : Mode} {M1 M2 : Mem} {x : V} (hm : md ≠ .keep) (h : CellsOk M M1) (e : M1.take M.length = M2) (q : Q (.v x) M2) : P (finish md M M1 (.v x)) E Q := p_finD hm rfl h rfl e q
theorem p_finF {M1 M2 : Mem} {k : Nat} {c : D} (hk : M.length ≤ k) (hc : M1[k]? = some c) (h : CellsOk M M1) (hv : hb M.length c = true) (e : M1.take M.length = M2) (q : Q c M2) : P (finish .frz M M1 (.h k)) E Q := by
  unfold finish
  simp only
  rw [if_neg (by omega), hc]
  simp only
  rw [if_pos ⟨h, hv⟩, e]; exact P.k q
theorem p_finO {M1 M2 : Mem} {k : Nat} {c : D} (hk : M.length ≤ k) (hc : M1[k]? = some c) (h : CellsOk M M1) (hv : hb M.length c = true) (e : M1.take M.length = M2) (q : Q (.h M.length) (M2 ++ [c])) : P (finish .own M M1 (.h k)) E Q := by
  unfold finish
  simp only
  rw [if_neg (by omega), hc]
  simp only
  rw [if_pos ⟨h, hv⟩, e]; exact P.k q
end
end DL
set_option Elab.async false
set_option maxRecDepth 100000
namespace DL
open PySem PySem.Spec PyProof.Rows L2
theorem get_set {M : Mem} {k : Nat} {c c0 : D} (h : M[k]? = some c0) : (M.set k c)[k]? = some c := List.getElem?_set_self (List.getElem?_eq_some_iff.mp h).1
theorem get_set_ne {M : Mem} {j k : Nat} {c d : D} (hne : j ≠ k) (h : M[k]? = some d) : (M.set j c)[k]? = some d := by rw [List.getElem?_set_ne hne]; exact h
theorem get_app {M L : Mem} {k : Nat} {c : D} (h : M[k]? = some c) : (M ++ L)[k]? = some c := by rw [List.getElem?_append_left (List.getElem?_eq_some_iff.mp h).1]; exact h
theorem pmul_r {i j : Int} (h1 : -(2 ^ 64) < j) (h2 : j < 2 ^ 64) : PMul i j := .inl (.inr ⟨h1, h2⟩)
theorem pmul_l {i j : Int} (h1 : -(2 ^ 64) < i) (h2 : i < 2 ^ 64) : PMul i j := .inl (.inl ⟨h1, h2⟩)
theorem pdiv_n {i j : Int} (h1 : 0 < j) (h2 : j < 1073741824) : PDiv i j := .inl ⟨h1, h2⟩
section
variable {M : Mem} {E : Exn → Mem → Prop} {Q : D → Mem → Prop}
theorem p_ixH {k : Nat} {ds : List D} {i : Int} {d : D} (h1 : M[k]? = some (.lst ds)) (h2 : atI ds i = some d) (q : Q d M) : P (gIx (.h k) (I i) M) E Q := p_ixS (by simp [seqOf, h1]) h2 q
theorem p_lenH {k : Nat} {ds : List D} (h1 : M[k]? = some (.lst ds)) (q : Q (I (ds.length : Int)) M) : P (gLen [.h k] M) E Q := p_len (by simp [lenD, h1]) q
end
theorem atI_of {α : Type} {xs : List α} {i : Int} (h0 : 0 ≤ i) (h1 : i < xs.length) : atI xs i = xs[i.toNat]? := by
  unfold atI ixN
  rw [if_pos h0, if_pos h1]; rfl
theorem atI_map {α β : Type} {xs : List α} {i : Int} (f : α → β) (h0 : 0 ≤ i) (h1 : i < xs.length) : ∃ x ∈ xs, atI (xs.map f) i = some (f x) := by
  have hk : i.toNat < xs.length := by omega
  refine ⟨xs[i.toNat], List.getElem_mem hk, ?_⟩
  rw [atI_of h0 (by simpa using h1), List.getElem?_map, List.getElem?_eq_getElem hk]; rfl
theorem storeD_of {M : Mem} {k j : Nat} {ds : List D} {z : Int} {d : D} (h : M[k]? = some (.lst ds)) (hj : ixN ds.length z = some j) : storeD M (.h k) (I z) d = some (M.set k (.lst (ds.set j d))) := by
  unfold storeD; simp only [h, hj]
theorem p_store {M : Mem} {k j : Nat} {ds : List D} {z : Int} {d : D} {Q : Mem → Prop} (h : M[k]? = some (.lst ds)) (hj : ixN ds.length z = some j) (q : Q (M.set k (.lst (ds.set j d)))) : ∃ M4, storeD M (.h k) (I z) d = some M4 ∧ Q M4 := ⟨_, storeD_of h hj, q⟩
theorem p_dec {c A B : Prop} [Decidable c] (h1 : c → A) (h2 : ¬ c → B) : (decide c = true → A) ∧ (decide c = false → B) := ⟨fun h => h1 (of_decide_eq_true h), fun h => h2 (of_decide_eq_false h)⟩
theorem p_ndec {c A B : Prop} [Decidable c] (h1 : ¬ c → A) (h2 : c → B) : ((!decide c) = true → A) ∧ ((!decide c) = false → B) := ⟨fun h => h1 (by simpa using h), fun h => h2 (by simpa using h)⟩
theorem p_tt {A B : Prop} (h : A) : (true = true → A) ∧ (true = false → B) := ⟨fun _ => h, (fun z => absurd z (by decide))⟩
theorem p_ff {A B : Prop} (h : B) : (false = true → A) ∧ (false = false → B) := ⟨(fun z => absurd z (by decide)), fun _ => h⟩
theorem SP.cut {o : SOut} {nx : Env → Mem → Prop} {rt : D → Mem → Prop} {bk ct : Env → Mem → Prop} {er : Exn → Env → Mem → Prop} (J : Env → Mem → Prop) (h : SP o J rt bk ct er) (k : ∀ ρ M, J ρ M → nx ρ M) : SP o nx rt bk ct er :=
  h.mono k (fun _ _ q => q) (fun _ _ q => q) (fun _ _ q => q) (fun _ _ _ q => q)
theorem P.cut {α : Type} {o : Out α} {E : Exn → Mem → Prop} {Q : α → Mem → Prop} (J : α → Mem → Prop) (h : P o E J) (k : ∀ a M, J a M → Q a M) : P o E Q := h.mono k
theorem atI_mapI {ns : List Int} {i : Int} (h0 : 0 ≤ i) (h1 : i < ((ns.map I).length : Int)) : atI (ns.map I) i = some (I (ns.getD i.toNat 0)) := by
  have h2 : i < (ns.length : Int) := by simpa using h1
  have hk : i.toNat < ns.length := by omega
  rw [atI_of h0 h1, List.getElem?_map, List.getElem?_eq_getElem hk]
  simp [List.getD, List.getElem?_eq_getElem hk]
theorem p_ixLI {ns : List Int} {i : Int} {M : Mem} {E : Exn → Mem → Prop} {Q : D → Mem → Prop} (h0 : 0 ≤ i) (h1 : i < ((ns.map I).length : Int)) (q : Q (I (ns.getD i.toNat 0)) M) : P (gIx (.lst (ns.map I)) (I i) M) E Q := p_ixS rfl (atI_mapI h0 h1) q
theorem beq_true_eq {b : Bool} {A B : Prop} (h1 : b = true → A) (h2 : b = false → B) : (b = true → A) ∧ (b = false → B) := ⟨h1, h2⟩
end DL
set_option Elab.async false
set_option maxRecDepth 100000
namespace DL
open PySem PySem.Spec PyProof.Rows L2
/-! ### lists by index -/
def Ls {α : Type} (n : Nat) (f : Nat → α) : List α := (List.range n).map f
section
variable {α β : Type} {n i : Nat} {f g : Nat → α}
@[simp] theorem Ls_len : (Ls n f).length = n := by simp [Ls]
theorem Ls_get (h : i < n) : (Ls n f)[i]? = some (f i) := by simp [Ls, h]
theorem Ls_get_of {d : α} (h : (Ls n f)[i]? = some d) : i < n ∧ d = f i := by
  have hi : i < n := by simpa using (List.getElem?_eq_some_iff.mp h).1
  rw [Ls_get hi] at h
  cases h
  exact ⟨hi, rfl⟩
theorem Ls_succ : Ls (n + 1) f = Ls n f ++ [f n] := by simp [Ls, List.range_succ]
theorem Ls_zero : Ls 0 f = [] := rfl
theorem Ls_one : Ls 1 f = [f 0] := rfl
theorem Ls_map (h : α → β) : (Ls n f).map h = Ls n fun i => h (f i) := by simp [Ls]
theorem Ls_ext (h : ∀ i, i < n → f i = g i) : Ls n f = Ls n g := by
  unfold Ls
  exact List.map_congr_left fun i hi => h i (List.mem_range.mp hi)
theorem Ls_of {xs : List α} (hl : xs.length = n) (h : ∀ i, i < n → xs[i]? = some (f i)) : xs = Ls n f := by
  apply List.ext_getElem?
  intro i
  by_cases hi : i < n
  · rw [h i hi, Ls_get hi]
  · rw [List.getElem?_eq_none (by omega), List.getElem?_eq_none (by simp; omega)]
theorem Ls_rev : (Ls n f).reverse = Ls n fun i => f (n - 1 - i) := by
  apply Ls_of (by simp)
  intro i hi
  rw [List.getElem?_reverse (by simpa using hi), Ls_len, Ls_get (by omega)]
theorem Ls_mem {d : α} (h : d ∈ Ls n f) : ∃ i, i < n ∧ d = f i := by
  unfold Ls at h
  rw [List.mem_map] at h
  obtain ⟨i, hi, e⟩ := h
  exact ⟨i, List.mem_range.mp hi, e.symm⟩
theorem Ls_list {xs : List α} (d : α) : xs = Ls xs.length fun i => xs.getD i d := by
  apply Ls_of rfl
  intro i hi
  rw [List.getD_eq_getElem?_getD, List.getElem?_eq_getElem hi]; rfl
theorem atI_Ls {i : Int} (h0 : 0 ≤ i) (h1 : i < (n : Int)) : atI (Ls n f) i = some (f i.toNat) := by
  rw [atI_of h0 (by simpa using h1), Ls_get (by omega)]
theorem cutG_hi {xs : List α} {k : Nat} : cutG xs none (some (k : Int)) = xs.take k := by
  unfold cutG
  rw [HT.sIx_nat]
  simp [HT.sIx]
theorem cutG_map (f : α → β) {xs : List α} {lo hi : Option Int} : cutG (xs.map f) lo hi = (cutG xs lo hi).map f := by
  unfold cutG; simp
theorem Ls_take {k : Nat} (h : k ≤ n) : (Ls n f).take k = Ls k f := by
  apply Ls_of (by simp; omega)
  intro i hi
  rw [List.getElem?_take_of_lt hi, Ls_get (by omega)]
end
theorem rangeD_Ls {lo : Int} {n : Nat} : rangeD lo n = Ls n fun i => I (lo + (i : Int)) := rfl
theorem enumD_Ls {n : Nat} {f : Nat → D} : enumD (Ls n f) = Ls n fun i => .tup [I (i : Int), f i] := by
  apply Ls_of (by simp [enumD])
  intro i hi
  unfold enumD
  rw [List.getElem?_map, List.getElem?_zipIdx, Ls_get hi]; simp
/-! equal data -/
mutual
theorem eqv_toPy : ∀ d : D, PyData.eqv (toPy d) (toPy d) = true
  | .v x => by
    unfold toPy
    cases x <;> simp [pyV, PyData.eqv]
  | .tup ds => by unfold toPy PyData.eqv; exact eqv_toPys ds
  | .lst ds => by unfold toPy PyData.eqv; exact eqv_toPys ds
  | .ro ds => by unfold toPy PyData.eqv; exact eqv_toPys ds
  | .kt ds => by unfold toPy PyData.eqv; exact eqv_toPys ds
  | .h _ => by simp [toPy, PyData.eqv]
  | .ins _ _ _ => by simp [toPy, PyData.eqv]
  | .dK _ _ => by simp [toPy, PyData.eqv]
  | .dT _ _ => by simp [toPy, PyData.eqv]
  | .dN _ _ _ => by simp [toPy, PyData.eqv]
  | .cl _ => by simp [toPy, PyData.eqv]
theorem eqv_toPys : ∀ ds : List D, PyData.eqvAll (toPys ds) (toPys ds) = true
  | [] => by simp [toPys, PyData.eqvAll]
  | d :: ds => by
    unfold toPys PyData.eqvAll
    rw [eqv_toPy d, eqv_toPys ds]; rfl
end
theorem deq_refl (d : D) : deq d d = true := eqv_toPy d
theorem plains_of {ds : List D} (h : ∀ d ∈ ds, plain d = true) : plains ds = true := by
  induction ds with
  | nil => rfl
  | cons d ds ih =>
    unfold plains
    rw [h d (by simp), ih fun e he => h e (by simp [he])]; rfl
theorem deps_of {ds : List D} {k : Nat} (h : ∀ d ∈ ds, dep d ≤ k) : deps ds ≤ k := by
  induction ds with
  | nil => exact Nat.zero_le _
  | cons d ds ih =>
    unfold deps
    have h1 := h d (by simp)
    have h2 := ih fun e he => h e (by simp [he])
    omega
theorem okEq_all {ds : List D} (h : ∀ d ∈ ds, plain d = true ∧ dep d ≤ 62) : okEq (.lst ds) = true := by
  unfold okEq plain dep
  rw [plains_of fun d hd => (h d hd).1]
  have := deps_of (ds := ds) (k := 62) fun d hd => (h d hd).2
  rw [decide_eq_true (by omega)]; rfl
theorem okEq_LsV {n : Nat} {f : Nat → V} (h : ∀ i, flatV (f i) = true) : okEq (.lst (Ls n fun i => .v (f i))) = true := okEq_all fun d hd => by
  obtain ⟨i, _, rfl⟩ := Ls_mem hd
  exact ⟨by unfold plain; exact h i, by unfold dep; omega⟩
theorem hbs_of {L : Nat} {ds : List D} (h : ∀ d ∈ ds, hb L d = true) : hbs L ds = true := by
  induction ds with
  | nil => rfl
  | cons d ds ih =>
    unfold hbs
    rw [h d (by simp), ih fun e he => h e (by simp [he])]; rfl
theorem hb_lst {L : Nat} {ds : List D} (h : ∀ d ∈ ds, hb L d = true) : hb L (.lst ds) = true := by unfold hb; exact hbs_of h
theorem hb_tup {L : Nat} {ds : List D} (h : ∀ d ∈ ds, hb L d = true) : hb L (.tup ds) = true := by unfold hb; exact hbs_of h
theorem hb_v {L : Nat} {x : V} : hb L (.v x) = true := by unfold hb; rfl
theorem hb_Ls {L n : Nat} {f : Nat → D} (h : ∀ i, hb L (f i) = true) : hb L (.lst (Ls n f)) = true := hb_lst fun d hd => by
  obtain ⟨i, _, rfl⟩ := Ls_mem hd
  exact h i
theorem intsOf_map {ns : List Int} : intsOf (ns.map I) = some ns := by
  unfold intsOf
  induction ns with
  | nil => rfl
  | cons i is ih => rw [List.map_cons, List.mapM_cons, ih]; rfl
section
variable {M : Mem} {ρ : Env} {E : Exn → Mem → Prop}
/-- a comprehension without a test, item by item -/
theorem p_lcR {gd : Option (Nat × List D)} {t : Tg} {test : Env → C Bool} {elt : Env → C D} {Q : List D → Mem → Prop} {ds : List D} (f : Nat → D) (hg : gOk gd M)
    (hs : ∀ i d, ds[i]? = some d → ∃ ρ1, t.run d ρ = some ρ1 ∧ P (test ρ1 M) NoE fun b M1 => b = true ∧ P (elt ρ1 M1) NoE fun y M2 => y = f i ∧ M2 = M)
    (hd : Q (Ls ds.length f) M) : P (lcL gd t test elt ds [] ρ M) E Q := by
  refine p_lcL (fun i acc M1 => acc = Ls i f ∧ M1 = M) ⟨rfl, rfl⟩ (fun _ _ _ h => h.2 ▸ hg) ?_ ?_
  · rintro i d _ _ hi ⟨rfl, rfl⟩
    obtain ⟨ρ1, h1, h2⟩ := hs i d hi
    refine ⟨ρ1, h1, h2.mono ?_⟩
    rintro b M1 ⟨rfl, h3⟩
    exact ⟨fun _ => h3.mono (by rintro y M2 ⟨rfl, rfl⟩; exact ⟨Ls_succ.symm, rfl⟩), fun z => absurd z (by decide)⟩
  · rintro _ _ ⟨rfl, rfl⟩
    exact hd
theorem p_ixLs {n : Nat} {f : Nat → D} {i : Int} {Q : D → Mem → Prop} (h0 : 0 ≤ i) (h1 : i < (n : Int)) (q : Q (f i.toNat) M) : P (gIx (.lst (Ls n f)) (I i) M) E Q := p_ixS rfl (atI_Ls h0 h1) q
theorem p_eqR {x : D} {Q : D → Mem → Prop} (h : okEq (resM M x) = true) (q : Q (Bo true) M) : P (gEq x x M) E Q := p_eqD h h (by rw [deq_refl]; exact q)
theorem p_neR {x : D} {Q : D → Mem → Prop} (h : okEq (resM M x) = true) (q : Q (Bo false) M) : P (gNe x x M) E Q := p_neD h h (by rw [deq_refl]; exact q)
end
theorem p_ty {T : String} {M : Mem} {x : D} {R : Prop} (h : tyOk T M x = true) (r : R) : tyOk T M x = true ∧ R := ⟨h, r⟩
theorem p_inL {M : Mem} {E : Exn → Mem → Prop} {x y : D} {ds : List D} {Q : D → Mem → Prop} (hy : lstOf M y = some ds) (h1 : okEq (resM M x) = true) (h2 : okEq (.lst ds) = true) (q : Q (Bo (anyEq (resM M x) ds)) M) : P (gIn x y M) E Q := by
  refine p_in (b := anyEq (resM M x) ds) ?_ q
  unfold inD
  cases y with
  | v z => cases hy
  | tup _ => cases hy
  | _ => simp only [hy, h1, h2]; rfl
theorem cutS_7 {z : Str} {k : Nat} : (cutS z none (some (k : Int))).length ≤ k := by
  unfold cutS
  rw [HT.sIx_nat]
  show (List.toArray _).size ≤ k
  simp [HT.sIx]; omega
theorem len_c (c : Nat) : (⟨#[c]⟩ : Str).length = 1 := rfl
theorem p_finZ {M M1 M2 : Mem} {x : V} {E : Exn → Mem → Prop} {Q : D → Mem → Prop} (h : CellsOk M M1) (e : M1.take M.length = M2) (q : Q (.v x) M2) : P (finish .frz M M1 (.v x)) E Q := p_finV (fun z => by cases z) h e q
theorem p_finY {M : Mem} {x : V} {E : Exn → Mem → Prop} {Q : D → Mem → Prop} (q : Q (.v x) M) : P (finish .frz M M (.v x)) E Q := p_finZ (CellsOk.refl M) List.take_length q
theorem p_tr {R : Prop} (h : R) : true = true ∧ R := ⟨rfl, h⟩
theorem p_nt {A B : Prop} (h : B) : ((!true) = true → A) ∧ ((!true) = false → B) := ⟨(fun z => absurd z (by decide)), fun _ => h⟩
theorem p_nf {A B : Prop} (h : A) : ((!false) = true → A) ∧ ((!false) = false → B) := ⟨fun _ => h, (fun z => absurd z (by decide))⟩
theorem rangeD_get0 {n i : Nat} {d : D} (h : (rangeD 0 n)[i]? = some d) : d = I (i : Int) ∧ i < n := by
  obtain ⟨h1, h2⟩ := rangeD_get h
  rw [Int.zero_add] at h1
  exact ⟨h1, h2⟩
theorem p_ixHLs {M : Mem} {E : Exn → Mem → Prop} {Q : D → Mem → Prop} {k n : Nat} {f : Nat → D} {i : Int} (h : M[k]? = some (.lst (Ls n f))) (h0 : 0 ≤ i) (h1 : i < (n : Int)) (q : Q (f i.toNat) M) : P (gIx (.h k) (I i) M) E Q := p_ixH h (atI_Ls h0 h1) q
theorem p_eqIR {M : Mem} {E : Exn → Mem → Prop} {Q : D → Mem → Prop} {i : Int} (q : Q (Bo true) M) : P (gEq (I i) (I i) M) E Q := p_eqI (by rw [decide_eq_true rfl]; exact q)
theorem p_neIR {M : Mem} {E : Exn → Mem → Prop} {Q : D → Mem → Prop} {i : Int} (q : Q (Bo false) M) : P (gNe (I i) (I i) M) E Q := p_neI (by rw [decide_eq_true rfl]; exact q)
theorem p_eqSR {M : Mem} {E : Exn → Mem → Prop} {Q : D → Mem → Prop} {i : Str} (q : Q (Bo true) M) : P (gEq (Tx i) (Tx i) M) E Q := p_eqS (by rw [decide_eq_true rfl]; exact q)
theorem p_neSR {M : Mem} {E : Exn → Mem → Prop} {Q : D → Mem → Prop} {i : Str} (q : Q (Bo false) M) : P (gNe (Tx i) (Tx i) M) E Q := p_neS (by rw [decide_eq_true rfl]; exact q)
theorem p_lenLs {M : Mem} {E : Exn → Mem → Prop} {Q : D → Mem → Prop} {n : Nat} {f : Nat → D} (q : Q (I (n : Int)) M) : P (gLen [.lst (Ls n f)] M) E Q := p_len (n := n) (by simp [lenD, seqOf]) q
theorem p_lenHLs {M : Mem} {E : Exn → Mem → Prop} {Q : D → Mem → Prop} {n k : Nat} {f : Nat → D} (h : M[k]? = some (.lst (Ls n f))) (q : Q (I (n : Int)) M) : P (gLen [.h k] M) E Q := p_lenH h (by rw [Ls_len]; exact q)
theorem truD_bl {M : Mem} {b : Bool} : truD M (.v (.bl b)) = some b := rfl
theorem kit_int_int : kitB "int" "int" = some true := by decide +kernel
theorem kit_int_bool : kitB "int" "bool" = some false := by decide +kernel
theorem kit_int_str : kitB "int" "str" = some false := by decide +kernel
theorem kit_int_list : kitB "int" "list" = some false := by decide +kernel
theorem kit_int_tuple : kitB "int" "tuple" = some false := by decide +kernel
theorem kit_int_dict : kitB "int" "dict" = some false := by decide +kernel
theorem kit_bool_int : kitB "bool" "int" = some true := by decide +kernel
theorem kit_bool_bool : kitB "bool" "bool" = some true := by decide +kernel
theorem kit_bool_str : kitB "bool" "str" = some false := by decide +kernel
theorem kit_bool_list : kitB "bool" "list" = some false := by decide +kernel
theorem kit_bool_tuple : kitB "bool" "tuple" = some false := by decide +kernel
theorem kit_bool_dict : kitB "bool" "dict" = some false := by decide +kernel
theorem kit_str_int : kitB "str" "int" = some false := by decide +kernel
theorem kit_str_bool : kitB "str" "bool" = some false := by decide +kernel
theorem kit_str_str : kitB "str" "str" = some true := by decide +kernel
theorem kit_str_list : kitB "str" "list" = some false := by decide +kernel
theorem kit_str_tuple : kitB "str" "tuple" = some false := by decide +kernel
theorem kit_str_dict : kitB "str" "dict" = some false := by decide +kernel
theorem kit_list_int : kitB "list" "int" = some false := by decide +kernel
theorem kit_list_bool : kitB "list" "bool" = some false := by decide +kernel
theorem kit_list_str : kitB "list" "str" = some false := by decide +kernel
theorem kit_list_list : kitB "list" "list" = some true := by decide +kernel
theorem kit_list_tuple : kitB "list" "tuple" = some false := by decide +kernel
theorem kit_list_dict : kitB "list" "dict" = some false := by decide +kernel
theorem kit_tuple_int : kitB "tuple" "int" = some false := by decide +kernel
theorem kit_tuple_bool : kitB "tuple" "bool" = some false := by decide +kernel
theorem kit_tuple_str : kitB "tuple" "str" = some false := by decide +kernel
theorem kit_tuple_list : kitB "tuple" "list" = some false := by decide +kernel
theorem kit_tuple_tuple : kitB "tuple" "tuple" = some true := by decide +kernel
theorem kit_tuple_dict : kitB "tuple" "dict" = some false := by decide +kernel
theorem kit_dict_int : kitB "dict" "int" = some false := by decide +kernel
theorem kit_dict_bool : kitB "dict" "bool" = some false := by decide +kernel
theorem kit_dict_str : kitB "dict" "str" = some false := by decide +kernel
theorem kit_dict_list : kitB "dict" "list" = some false := by decide +kernel
theorem kit_dict_tuple : kitB "dict" "tuple" = some false := by decide +kernel
theorem kit_dict_dict : kitB "dict" "dict" = some true := by decide +kernel
theorem kit_NoneType_int : kitB "NoneType" "int" = some false := by decide +kernel
theorem kit_NoneType_bool : kitB "NoneType" "bool" = some false := by decide +kernel
theorem kit_NoneType_str : kitB "NoneType" "str" = some false := by decide +kernel
theorem kit_NoneType_list : kitB "NoneType" "list" = some false := by decide +kernel
theorem kit_NoneType_tuple : kitB "NoneType" "tuple" = some false := by decide +kernel
theorem kit_NoneType_dict : kitB "NoneType" "dict" = some false := by decide +kernel
theorem tyN_h {M : Mem} {k : Nat} {ds : List D} (h : M[k]? = some (.lst ds)) : tyN M (.h k) = some "list" := by unfold tyN; simp only [h]
theorem get_new {M : Mem} {c : D} : (M ++ [c])[M.length]? = some c := by simp
theorem set_new {M : Mem} {c d : D} : (M ++ [c]).set M.length d = M ++ [d] := by simp
theorem set_app {M L : Mem} {k : Nat} {d : D} (h : k < M.length) : (M ++ L).set k d = M.set k d ++ L := by rw [List.set_append_left _ _ h]
theorem len_h {M : Mem} {k : Nat} {ds : List D} (h : M[k]? = some (.lst ds)) : lenD M (.h k) = some ds.length := by simp [lenD, h]
theorem set_at {M : Mem} {k : Nat} {c : D} (h : M[k]? = some c) : M = M.set k c := by
  obtain ⟨h1, h2⟩ := List.getElem?_eq_some_iff.mp h
  subst h2
  rw [List.set_getElem_self]
end DL
set_option Elab.async false
set_option maxRecDepth 100000
set_option maxHeartbeats 2000000
namespace DL
open PySem PySem.Spec PyProof.Rows L2

/-! ### super().m(..) -/
/-- what the text says of a def that calls super(): its object, its code, the cell of its class, the class above -/
structure Sup (P : Program) (K : PySem.W.Frag) (f cc C B : Addr) (ar : Str) (cdv : Value) : Prop where
  fn : ∃ oc od fd osl a, K.lookup f = some ⟨oc, od, .func fd, osl⟩ ∧ (fd.params.posonlyargs ++ fd.params.args).head? = some a ∧ a.arg = ar
  code : ∃ cda ccl cdd vs ccs file tf, cdv = .ref cda ∧ K.lookup cda = some ⟨ccl, cdd, .fields vs, ccs⟩ ∧ vs[2]? = some (.str file tf) ∧ ((P.main.file : Str) == file) = true
  top : (P.main.scope.names.lookup ("super" : Str)).isSome = false
  cell : ∃ cl cld csl, K.lookup cc = some ⟨cl, cld, .cell (some (.ref C)), csl⟩
  sub : PySem.W.mroIn K C (.ref C) = some true
  above : ∃ cdC cdB, PySem.W.clsIn K C = some cdC ∧ PySem.W.clsIn K B = some cdB ∧ (cdC.mro.dropWhile (· != .ref C)).drop 1 = cdB.mro
  any : PySem.W.nsIn K cStatics "thirdparty.any" = some none
theorem superIn_of {K : PySem.W.Frag} {C B : Addr} {m : Str} {r : Option (Option Value)} {cdC cdB : ClassData} (h1 : PySem.W.clsIn K C = some cdC) (h2 : PySem.W.clsIn K B = some cdB) (h3 : (cdC.mro.dropWhile (· != .ref C)).drop 1 = cdB.mro) (hf : PySem.W.findIn K (.ref B) m = r) :
    PySem.W.ks_superIn K C C m = r := by
  unfold PySem.W.ks_superIn
  rw [h1, Option.bind_some, h3, ← hf]
  unfold PySem.W.findIn
  unfold PySem.W.clsIn at h2
  split at h2
  · rename_i e
    cases h2
    dsimp only
    rw [e]
  · cases h2
/-- the method of the class above -/
structure SupM (K : PySem.W.Frag) (B : Addr) (m : Str) (g : Addr) : Prop where
  at_ : PySem.W.findIn K (.ref B) m = some (some (.ref g))
  ty : PySem.W.typeIn K (.ref g) = some (.type "function")
  fi : PySem.W.fnIn K g = true
def PEat (X : Cx) (body : List Stmt) (e : Expr) (t : TE) : Prop := ∀ (pins : List (Addr × Obj)) (s : Shared) (σ : L2.St) (H : Hp) (Q : VK), Inv X pins σ H s → t σ H Q → _root_.PySem.wpAt (model X.prog X.w) X.A (.func body X.env) (eval e X.env) (EP X pins σ Q) X.xe s
def PSat (X : Cx) (body : List Stmt) (st : Stmt) (t : TS) : Prop := ∀ (pins : List (Addr × Obj)) (s : Shared) (σ : L2.St) (H : Hp) (D : Ends), Inv X pins σ H s → t D σ H → _root_.PySem.wpAt (model X.prog X.w) X.A (.func body X.env) (exec st X.env) (L2.SP X pins D) X.xe s
def PSsat (X : Cx) (body : List Stmt) (sts : List Stmt) (t : TS) : Prop := ∀ (pins : List (Addr × Obj)) (s : Shared) (σ : L2.St) (H : Hp) (D : Ends), Inv X pins σ H s → t D σ H → _root_.PySem.wpAt (model X.prog X.w) X.A (.func body X.env) (execs sts X.env) (L2.SP X pins D) X.xe s
/-- super().m(..): the instance stands in the slot i -/
def tSup (i : Nat) (C : Addr) (sp : Sp) (E : L2.St → XK) (t : TA) : TE := fun σ H Q => ∃ a dx fs, σ[i]? = some (some (.ref a)) ∧ H a = some (.ins C dx fs) ∧ t σ H fun vs H1 => sp (.ref a :: vs) H1 Q (E σ)
section
variable {X : Cx} {CX : CXT} {k : Nat} {f g cc C B : Addr} {fd : FuncData} {ps : List Str} {sp : Sp} {E : L2.St → XK} {m ar : Str} {pos apos p0 p1 : Pos} {e : Expr} {es : List Expr} {t : TA} {cdv : Value} {pins : List (Addr × Obj)} {σ : L2.St} {H : Hp} {s : Shared} {i : Nat} {body : List Stmt}
theorem super_get {whole : Sem Value} {plb : Sem Bool} {a dx : Addr} {fs : List (Str × V)} (S : Sup X.prog X.K f cc C B ar cdv) (M : SupM X.K B m g) (I : Inv X pins σ H s) (hf : X.env.func = some f) (hc : X.env.code = cdv) (hk : X.env.kindOf "super" = some .globalImplicit) (hkc : X.env.kindOf "__class__" = some .free)
    (hka : X.env.kindOf ar = some .local) (hcl : X.env.cells.lookup ("__class__" : Str) = some cc) (hi : X.N[i]? = some ar) (hs : σ[i]? = some (some (.ref a))) (ha : H a = some (.ins C dx fs)) (hms : X.mg "super" = none)
    (hat : (m == ("__class__" : Str)) = false) {Q : Value → Shared → Prop} {E : Value → Shared → Prop} (h : ∀ so s1, wpAny (model X.prog X.w) X.A (getMethod so m plb) (fun fx s2 => ∃ q, fx = (.ref q, []) ∧ X.base.get? q = none ∧ Inv X ((q, PySem.W.methodObj (.ref g) (.ref a)) :: pins) σ H s2) (fun _ _ => False) s1 → Q so s1) :
    _root_.PySem.wpAt (model X.prog X.w) X.A (.func body X.env) (attributeBase (.Call (.Name "super" p0) [] [] p1) m X.env whole) Q E s := by
  obtain ⟨oc, od, fd0, osl, ar0, lf, hp, rfl⟩ := S.fn
  obtain ⟨cda, ccl, cdd, vs, ccs, file, tf, rfl, lc, hvs, hfile⟩ := S.code
  obtain ⟨cl, cld, csl, lcc⟩ := S.cell
  obtain ⟨cdC, cdB, h1, h2, h3⟩ := S.above
  have X0 := I.kIn
  obtain ⟨oD, hD1, hD2⟩ : ∃ oD, s.heap.get? C = some oD ∧ oD.data = .cls cdC := by
    unfold PySem.W.clsIn at h1
    split at h1
    · rename_i c d cd' sl ho
      cases h1
      exact ⟨_, X0 _ _ ho, rfl⟩
    · cases h1
  obtain ⟨mm, hn, hl⟩ := id I.loc
  obtain ⟨u, ru, lu⟩ := hl i ar0.arg (.ref a) hi hs (.inl hka)
  obtain rfl : u = Value.ref a := ru
  have hm : mm ar0.arg = some (.ref a) := by
    rcases lu with ⟨_, z⟩ | ⟨z, _⟩
    · exact z
    · rw [hka] at z
      rcases z with z | z <;> cases z
  obtain ⟨mA, O, _, _, _, _⟩ := ins_get I.hok ha
  obtain ⟨od', J, _⟩ := O.look
  refine PySem.ks_wpAt_super_base (env := X.env) hk hkc hat hf (X0 _ _ lf) rfl hp hc (X0 _ _ lc) rfl hvs hfile S.top ?_
  obtain ⟨mb, b1, b2⟩ := I.mod.blt
  refine PySem.W.ks_loadName_global I.ok.kind hk (Calls.loadGlobal_builtin (by rw [I.ok.glob]; exact I.mod.glob.keeps I.bk) hms (by rw [I.ok.blt]; exact b1.keeps I.bk) ((b2 _ (by decide +kernel)).trans PyProof.Rows.Boot.«super») ⟨rfl, ?_⟩)
  refine wpAny_loadName_free I.ok.kind hkc hcl ⟨_, X0 _ _ lcc, rfl⟩ ?_
  refine wpAny_loadName_local I.ok.kind hka hn hm ?_
  refine PySem.ks_wpAny_isType_cls hD1 hD2 ⟨rfl, ?_⟩
  obtain ⟨hh, gg, dd, tt, oos⟩ := s
  refine PySem.ks_wpAny_call_super hD1 hD2 J.at_ J.cls (fun c z => ?_) (PySem.W.looks_mroIn X0 S.sub) (fun h' he hkp => ?_)
  · have := J.no
    unfold PySem.W.notCls at this
    rw [z] at this
    exact Bool.noConfusion this
  refine h _ _ ?_
  have I1 : Inv X ((hh.objs.size, PySem.W.ks_superObj C a C) :: pins) σ H { (⟨hh, gg, dd, tt, oos⟩ : Shared) with heap := h', toks := tt } := ClX.pin_new (t' := tt) I hkp (Nat.le_refl _) he (fun v z => nomatch z)
  have X1 := I1.kIn
  have hsup : PySem.W.ks_superIn X.K C C m = some (some (.ref g)) := superIn_of h1 h2 h3 M.at_
  obtain ⟨of, hof, hofc⟩ : ∃ of, h'.get? g = some of ∧ of.cls = .type "function" := by
    have ht' : (X.K.lookup g).map (·.cls) = some (.type "function") := M.ty
    cases z : X.K.lookup g with
    | none => rw [z] at ht'; cases ht'
    | some of => rw [z] at ht'; exact ⟨of, X1 _ _ z, Option.some.inj ht'⟩
  unfold PySem.W.ks_superIn at hsup
  rw [h1] at hsup
  have hJ : PySem.W.InstAt h' a (PySem.W.instObj C dx) C (some od') := ⟨hkp _ _ J.at_, J.cls, J.no, hkp _ _ J.dict⟩
  refine PySem.ks_wpAny_getMethod_super (ClX.pin_at I1) (PySem.W.looks_opaque X1 S.any) (l₀ := cdC.mro) ?_ rfl X1 hsup hof hofc (PySem.W.ks_ne X1 hJ h1) hat ?_
  · exact fun A Q E s k q => wpAny_bind ((PySem.W.looks_clsIn X1 h1) A _ E s k (wpAny_pure q))
  · exact ⟨_, rfl, ClX.base_none I1 (Nat.le_refl _), ClX.pin_new (s := ⟨h', gg, dd, tt, oos⟩) (t' := tt + 1) (ClX.unpin I1) (fun b o z => Heap.get?_push_of_some _ z) (Nat.le_refl _) (Heap.get?_push_size h' rfl) (fun v z => nomatch z)⟩
/-- super().m(e, ..) -/
theorem pe_super {plb : Sem Bool} (S : Sup X.prog X.K f cc C B ar cdv) (M : SupM X.K B m g) (F : FnOk X.prog X.w X.K X.mg X.base CX k g fd ps sp) (room : Room k X.A) (bi : Binds X.K fd ps []) (pass : ∀ σ, PassesAt CX X σ (E σ))
    (hf : X.env.func = some f) (hc : X.env.code = cdv) (hcl : X.env.cells.lookup ("__class__" : Str) = some cc) (hms : X.mg "super" = none) (hi : X.N[i]? = some ar) (has : PA X (e :: es) t)
    (hk : X.env.kindOf "super" = some .globalImplicit := by rfl) (hkc : X.env.kindOf "__class__" = some .free := by rfl) (hka : X.env.kindOf ar = some .local := by rfl)
    (hat : (m == ("__class__" : Str)) = false := by decide)
    (hst : starEach (e :: es) X.env = (false, eval e X.env) :: starEach es X.env := by rfl) (hpl : (backTo pos (starEach es X.env)).any (·.1) = false := by rfl)
    (he : eval (.Call (.Attribute (.Call (.Name "super" p0) [] [] p1) m apos) (e :: es) [] pos) X.env = (do
      let ov ← attributeBase (.Call (.Name "super" p0) [] [] p1) m X.env (eval (.Call (.Name "super" p0) [] [] p1) X.env)
      standAt apos.atName
      let (f, first) ← holding [ov] (getMethod ov m plb)
      callWith pos f first (backTo pos (starEach (e :: es) X.env)) []) := by rfl) :
    PEat X body (.Call (.Attribute (.Call (.Name "super" p0) [] [] p1) m apos) (e :: es) [] pos) (tSup i C sp E t) := fun pins s σ H Q I h => by
  obtain ⟨a, dx, fs, hs, ha, q⟩ := h
  refine ks_wpAt_MethodCall (pl := plb) (super_get (plb := plb) S M I hf hc hk hkc hka hcl hi hs ha hms hat fun so s1 h1 => wpAny_mono h1 (fun fx s2 h2 => ?_) fun _ _ z => z.elim) he
  obtain ⟨qa, rfl, hb, I2⟩ := h2
  refine ClX.callwith_cm I2 hb M.fi (thn (has.run pos _ s2 σ H _ I2 q) fun us s3 ⟨vs, H2, I3, r, q2⟩ => ⟨⟨ClX.pin_at I3, I3.kIn⟩, ?_⟩) hst hpl
  have z : wpAny (model X.prog X.w) X.A (call (.ref qa) us) (EP X ((qa, PySem.W.methodObj (.ref g) (.ref a)) :: pins) σ Q) X.xe s3 := by
    have r2 : Vals (.ref a :: vs) (.ref a :: us) := .cons rfl r
    have hl : (Value.ref a :: us).length = ps.length := by rw [← r2.length]; exact F.len _ _ _ _ q2
    have b := bi s3 (.ref a :: us) I3.kIn (by rw [List.append_nil]; exact hl)
    rw [List.append_nil] at b
    refine wpAny_call (PySem.W.method_call (ClX.pin_at I3) (codeAny_mono (F.run X.A X.stack s3 H2 ⟨.ref a :: us, []⟩ (.ref a :: us) (.ref a :: vs) Q (E σ) room I3.env0 b r2 q2) fun r s' hq => ?_))
    cases r with
    | error e => exact pass σ _ H2 s3 e s' I3 hq
    | ok fl =>
      cases fl with
      | ret u => exact I3.after hq
      | next => exact False.elim hq
      | brk => exact False.elim hq
      | cont => exact False.elim hq
  exact thn z fun _ _ y => ClX.unpinE y
/-- super().m() -/
theorem pe_super0 {plb : Sem Bool} (S : Sup X.prog X.K f cc C B ar cdv) (M : SupM X.K B m g) (F : FnOk X.prog X.w X.K X.mg X.base CX k g fd ps sp) (room : Room k X.A) (bi : Binds X.K fd ps []) (pass : ∀ σ, PassesAt CX X σ (E σ))
    (hf : X.env.func = some f) (hc : X.env.code = cdv) (hcl : X.env.cells.lookup ("__class__" : Str) = some cc) (hms : X.mg "super" = none) (hi : X.N[i]? = some ar)
    (hk : X.env.kindOf "super" = some .globalImplicit := by rfl) (hkc : X.env.kindOf "__class__" = some .free := by rfl) (hka : X.env.kindOf ar = some .local := by rfl)
    (hat : (m == ("__class__" : Str)) = false := by decide)
    (he : eval (.Call (.Attribute (.Call (.Name "super" p0) [] [] p1) m apos) [] [] pos) X.env = (do
      let ov ← attributeBase (.Call (.Name "super" p0) [] [] p1) m X.env (eval (.Call (.Name "super" p0) [] [] p1) X.env)
      standAt apos.atName
      let (f, first) ← holding [ov] (getMethod ov m plb)
      callWith pos f first (backTo pos (starEach [] X.env)) []) := by rfl) :
    PEat X body (.Call (.Attribute (.Call (.Name "super" p0) [] [] p1) m apos) [] [] pos) (tSup i C sp E tNil) := fun pins s σ H Q I h => by
  obtain ⟨a, dx, fs, hs, ha, q⟩ := h
  refine ks_wpAt_MethodCall (pl := plb) (super_get (plb := plb) S M I hf hc hk hkc hka hcl hi hs ha hms hat fun so s1 h1 => wpAny_mono h1 (fun fx s2 h2 => ?_) fun _ _ z => z.elim) he
  obtain ⟨qa, rfl, hb, I2⟩ := h2
  refine PySem.W.callWith_M0 (K := X.K) (g := g) (self := .ref a) ⟨ClX.pin_at I2, I2.kIn⟩ M.fi ?_
  have z : wpAny (model X.prog X.w) X.A (call (.ref qa) []) (EP X ((qa, PySem.W.methodObj (.ref g) (.ref a)) :: pins) σ Q) X.xe s2 := by
    have r2 : Vals [V.ref a] [Value.ref a] := .cons rfl .nil
    have hl : [Value.ref a].length = ps.length := by rw [← r2.length]; exact F.len _ _ _ _ q
    have b := bi s2 [.ref a] I2.kIn (by rw [List.append_nil]; exact hl)
    rw [List.append_nil] at b
    refine wpAny_call (PySem.W.method_call (ClX.pin_at I2) (codeAny_mono (F.run X.A X.stack s2 H ⟨[.ref a], []⟩ [.ref a] [.ref a] Q (E σ) room I2.env0 b r2 q) fun r s' hq => ?_))
    cases r with
    | error e => exact pass σ _ H s2 e s' I2 hq
    | ok fl =>
      cases fl with
      | ret u => exact I2.after hq
      | next => exact False.elim hq
      | brk => exact False.elim hq
      | cont => exact False.elim hq
  exact thn z fun _ _ y => ClX.unpinE y
end
section
variable {X : Cx} {body : List Stmt} {pos : Pos} {e : Expr} {te : TE} {st : Stmt} {rest : List Stmt} {t u : TS}
theorem psat_expr (he : PEat X body e te) (hs : swapsWith e none pos.line X.env = pure false := by rfl) : PSat X body (.Expr e pos) (tDrop te) := fun pins s σ H D I h =>
  ks_wpAt_Expr_any (ks_wpAt_mono (he pins s σ H _ I h) (fun v s1 ⟨x, H1, I1, r1, q1⟩ => ⟨σ, H1, I1, q1⟩) fun _ _ z => z) I.quiet hs
theorem psat_set {i : Nat} {x : Str} {pos' : Pos} (hN : X.N.Nodup) (hi : X.N[i]? = some x) (hx : Loc X.env.scope x) (he : PEat X body e te) (hs : swapsWith e (some (.Name x pos')) pos.line X.env = pure false := by rfl) (hf : X.fn x = true ∨ X.env.scope.names.lookup x = some .local := by first | exact .inl rfl | exact .inr rfl | assumption) :
    PSat X body (.Assign [.Name x pos'] e pos) (tAsg te (gName i)) := fun pins s σ H D I h =>
  ks_wpAt_Assign_Name (ks_wpAt_mono (he pins s σ H _ I h) (fun v s1 ⟨y, H1, I1, r1, q1⟩ => store_ok I1 hN hi hx r1 (fun s2 I2 => ⟨_, H1, I2, q1⟩) hf) fun _ _ z => z) hs
theorem psat_cons (h1 : PSat X body st t) (h2 : PSs X rest u) : PSsat X body (st :: rest) (tSeq t u) := fun pins s σ H D I h => by
  refine ks_wpAt_execs_cons (ks_wpAt_mono (h1 pins s σ H { D with nx := u D } I h) (fun f s1 q => ?_) fun _ _ z => z)
  cases f with
  | next =>
    obtain ⟨σ', H', I', q⟩ := q
    exact wpAt_of_wpAny (h2.run pins s1 σ' H' D I' q)
  | ret v => exact q
  | brk => exact q
  | cont => exact q
end
/-! ### a def that calls super() -/
/-- as FnScope, for a def whose only free name is __class__ -/
structure SScope (N P : List Str) (sc : Scope) : Prop where
  kind : sc.kind = .function
  co : sc.isCoroutine = false
  gen : sc.isGenerator = false
  nd : N.Nodup
  pre : N.take P.length = P
  par : ∀ x ∈ P, sc.names.lookup x = some .local
  nocell : ∀ y ∈ sc.names, y.2 ≠ .cell
  free : ∀ y ∈ sc.names, y.2 = .free → y.1 = ("__class__" : Str)
theorem lookup_nd {x : Str} {u : Value} : ∀ {l : List (Str × Value)}, (l.map (·.1)).Nodup → (x, u) ∈ l → l.lookup x = some u
  | [], _, h => by cases h
  | (y, v) :: l, nd, h => by
    rw [List.map_cons, List.nodup_cons] at nd
    rcases List.mem_cons.mp h with e | e
    · cases e
      simp [List.lookup]
    · have hne : x ≠ y := fun z => nd.1 (by rw [← z]; exact List.mem_map_of_mem (f := (·.1)) e)
      have hb : (x == y) = false := by simpa using hne
      rw [List.lookup, hb]
      exact lookup_nd nd.2 e
theorem rlook {P : List Str} {us : List Value} {i : Nat} {x : Str} {u : Value} (nd : P.Nodup) (h1 : P[i]? = some x) (h2 : us[i]? = some u) : (P.zip us).reverse.lookup x = some u := by
  refine lookup_nd ?_ (List.mem_reverse.mpr (List.mem_of_getElem? (i := i) (List.getElem?_zip_eq_some (z := (x, u)) |>.mpr ⟨h1, h2⟩)))
  rw [List.map_reverse]
  refine List.pairwise_reverse.mpr (List.Pairwise.imp (R := (· ≠ ·)) (fun h => Ne.symm h) ?_)
  have : ((P.zip us).map (·.1)).Sublist P := by
    clear h1 h2 nd
    induction P generalizing us with
    | nil => simp
    | cons p P ih =>
      cases us with
      | nil => simp
      | cons v us => simpa using ih (us := us)
  exact nd.sublist this
/-- the context of such a def's body -/
def cxS (CX : CXT) (P : Program) (w : World) (K : PySem.W.Frag) (mg : Str → Option Value) (base : Heap) (N : List Str) (qual : Str) (scope : Scope) (f : Addr) (cd : Value) (cc : Addr) (A : Around) (outer : List PySem.Env) (s : Shared) (H : Hp) (E : XK) : Cx where
  prog := P
  w := w
  K := K
  mg := mg
  base := base
  A := A.deeper (PySem.W.ksEnv qual scope s.heap.objs.size f cd cc)
  N := N
  s_0 := s
  H_0 := H
  env := PySem.W.ksEnv qual scope s.heap.objs.size f cd cc
  outer := outer
  stack := PySem.W.ksEnv qual scope s.heap.objs.size f cd cc :: outer
  ex := []
  calm := true
  fn := fun x => x != ("__class__" : Str)
  pn := []
  xe := fun e s' => wpAny (model P w) (A.deeper (PySem.W.ksEnv qual scope s.heap.objs.size f cd cc)) (leaving (PySem.W.ksEnv qual scope s.heap.objs.size f cd cc) e) (fun _ s'' => CX outer H s E e s'') (fun e' s'' => CX outer H s E e' s'') s'
theorem one_cell {cc c : Addr} {x : Str} (h : List.lookup x [(("__class__" : Str), cc)] = some c) : x = ("__class__" : Str) ∧ c = cc := by
  rw [List.lookup] at h
  cases e : (x == ("__class__" : Str)) with
  | true =>
    rw [e] at h
    exact ⟨by simpa using e, (Option.some.inj h).symm⟩
  | false =>
    rw [e] at h
    cases h
theorem inv_startS {CX : CXT} {P : Program} {w : World} {K : PySem.W.Frag} {mg : Str → Option Value} {base : Heap} {N ps : List Str} {qual : Str} {scope : Scope} {f : Addr} {cd : Value} {cc C : Addr} {A : Around} {outer : List PySem.Env} {s : Shared} {H : Hp} {E : XK} {us : List Value} {vs : List V} {h1 : Heap} {tk : Nat}
    {cl : Value} {cld : Option Addr} {csl : Array (Option Value)} (lcc : K.lookup cc = some ⟨cl, cld, .cell (some (.ref C)), csl⟩)
    (S : SScope N ps scope) (hd : A.handled = none) (e0 : Env0 P w K mg base A outer s H) (hl : vs.length = ps.length) (r : Vals vs us)
    (hns : h1.Ns s.heap.objs.size (fun x => (ps.zip us).reverse.lookup x)) (hk : ∀ b o, s.heap.get? b = some o → h1.get? b = some o) :
    Inv (cxS CX P w K mg base N qual scope f cd cc A outer s H E) [] (L2.start N vs) H { s with heap := h1, toks := tk } := by
  have hpl : ps.length ≤ N.length := by have := congrArg List.length S.pre; rw [List.length_take] at this; omega
  have noA : ∀ b : Addr, b ∉ (cxS CX P w K mg base N qual scope f cd cc A outer s H E).ex := fun b z => absurd (show b ∈ ([] : List Addr) from z) (by simp)
  have bcc := e0.mod.kin _ _ lcc
  refine ⟨⟨e0.mod, S.kind, rfl, rfl, Nat.le_refl _, fun y z c h1 h2 => ?_, fun y hy => ?_, fun y c hf h => ?_, fun _ => hd, Around.frames_deeper e0.frames, .inr ⟨rfl, rfl⟩, fun b z => absurd z (noA b), e0.bs, e0.bsz, fun b _ _ => noA b, fun b z => absurd z (noA b), e0.funs, e0.frf⟩,
    rfl, e0.bare, Un.kept hk, ⟨_, hns, fun i y v h1 h2 h3 => ?_⟩, fun y c h => ?_, e0.hok.fresh (Nat.le_refl _), fun y c h => ?_, fun p hp => absurd (show p ∈ ([] : List (Addr × Obj)) from hp) (by simp), e0.hok.kept hk, ?_⟩
  · exact (one_cell h1).1.trans (one_cell h2).1.symm
  · have hy : scope.names.lookup y = some .cell ∨ scope.names.lookup y = some .free := hy
    rcases hy with hy | hy
    · exact absurd rfl (S.nocell _ (PySem.mem_of_lookup hy))
    · have e := S.free _ (PySem.mem_of_lookup hy) rfl
      have e : y = ("__class__" : Str) := e
      subst e
      exact ⟨cc, rfl⟩
  · have e := (one_cell h).1
    subst e
    have hf : (("__class__" : Str) != ("__class__" : Str)) = true := hf
    rw [bne_self_eq_false] at hf
    cases hf
  · have hi : i < vs.length := by
      unfold L2.start at h2
      by_cases hi : i < vs.length
      · exact hi
      · rw [List.getElem?_append_right (by simpa using hi)] at h2
        rw [List.getElem?_replicate] at h2
        split at h2 <;> cases h2
    have ha : vs[i]? = some v := by
      unfold L2.start at h2
      rw [List.getElem?_append_left (by simpa using hi), List.getElem?_map] at h2
      cases e : vs[i]? with
      | none => rw [e] at h2; cases h2
      | some a => rw [e] at h2; cases h2; rfl
    obtain ⟨u, hu, rv⟩ := r.get ha
    have hp : ps[i]? = some y := by
      rw [← S.pre, List.getElem?_take_of_lt (by omega)]; exact h1
    have ndP : ps.Nodup := by rw [← S.pre]; exact S.nd.sublist (List.take_sublist _ _)
    exact ⟨u, rv, .inl ⟨S.par y (List.mem_of_getElem? hp), rlook ndP hp hu⟩⟩
  · obtain ⟨e1, e2⟩ := one_cell h
    subst e2
    exact ⟨_, _, hk _ _ (e0.bs _ _ bcc).1, rfl⟩
  · obtain ⟨e1, e2⟩ := one_cell h
    subst e2
    exact (e0.bs _ _ bcc).2
  · unfold L2.start
    show _ = N.length
    rw [List.length_append, List.length_map, List.length_replicate]
    omega
theorem fn_super {CX : CXT} {P : Program} {w : World} {K : PySem.W.Frag} {mg : Str → Option Value} {base : Heap} {k : Nat} {f : Addr} {name qual : Str} {params : Arguments} {body : List Stmt} {scope : Scope} {dV kV doc pm cdv ct oc : Value} {an od : Option Addr} {cc C : Addr}
    {osl : Array (Option Value)} {N ps : List Str} {sp : Sp} (lk : K.lookup f = some ⟨oc, od, .func (PySem.W.ksFn name qual params body scope dV kV doc pm an cdv ct cc), osl⟩) (hcd : PySem.W.codeIn K cdv qual = true) (S : SScope N ps scope)
    {cl : Value} {cld : Option Addr} {csl : Array (Option Value)} (lcc : K.lookup cc = some ⟨cl, cld, .cell (some (.ref C)), csl⟩)
    (len : ∀ vs H Q E, sp vs H Q E → vs.length = ps.length)
    (hbody : ∀ (A : Around) (outer : List PySem.Env) (s : Shared) (H : Hp) (vs : List V) (Q : VK) (E : XK), Room k (A.deeper (PySem.W.ksEnv qual scope s.heap.objs.size f cdv cc)) → sp vs H Q E →
      ∃ t, PSsat (cxS CX P w K mg base N qual scope f cdv cc A outer s H E) body body t ∧ t { nx := fun _ H' => Q .non H', rt := Q } (L2.start N vs) H) :
    FnOk P w K mg base CX (k + 1) f (PySem.W.ksFn name qual params body scope dV kV doc pm an cdv ct cc) ps sp := by
  refine ⟨len, fun A outer s H args us vs Q E hr e0 hb r hsp => ?_⟩
  have hl := len _ _ _ _ hsp
  have KX : K.In s.heap := e0.mod.kin.keeps fun b o e => (e0.bs b o e).1
  have lim : s.heap.NoLimit := e0.mod.nolimit.keeps fun b o e => (e0.bs b o e).1
  refine ks_codeAny_call_defAt (binds := ps.zip us) hr.depth (KX _ _ lk) rfl lim (PySem.W.codeRec_of KX hcd) rfl hb S.nocell (fun y hy => S.par _ (List.of_mem_zip (a := y.1) (b := y.2) hy).1) (fun h0 hns hk => ?_) S.co S.gen S.kind
  obtain ⟨t, ht, hq⟩ := hbody A outer s H vs Q E (hr.deeper _) hsp
  have I : Inv (cxS CX P w K mg base N qual scope f cdv cc A outer s H E) [] (L2.start N vs) H { s with heap := h0, toks := s.toks + (ps.zip us).length } := inv_startS lcc S hr.hd e0 hl r hns hk
  refine ks_wpAt_mono (ht [] _ (L2.start N vs) H _ I hq) (fun fl s' hs => ?_) fun e s' hs => hs
  have fin : ∀ {σ' : L2.St} {H' : Hp} {v : V} {u : Value}, Inv (cxS CX P w K mg base N qual scope f cdv cc A outer s H E) [] σ' H' s' → RelV v u → Q v H' → CE outer P w H s Q u s' :=
    fun {σ' H' v u} J rv q => ⟨v, H', J.os, J.bare, J.base, J.hok, rv, q⟩
  cases fl with
  | ret u =>
    obtain ⟨v, σ', H', J, rv, q⟩ := hs
    exact fin J rv q
  | next =>
    obtain ⟨σ', H', J, q⟩ := hs
    exact fin (v := V.non) (u := Value.none) J rfl q
  | brk =>
    obtain ⟨_, _, _, q⟩ := hs
    exact False.elim q
  | cont =>
    obtain ⟨_, _, _, q⟩ := hs
    exact False.elim q

/-! ### in the layer -/
abbrev PDat (X : Cx) (W : WX) (body : List Stmt) (e : Expr) (f : Env → C D) : Prop := PEat X body e (tD X.K W f)
abbrev SDat (X : Cx) (W : WX) (body : List Stmt) (st : Stmt) (f : Cs) : Prop := PSat X body st (tS X.K W f)
abbrev SDsat (X : Cx) (W : WX) (body : List Stmt) (sts : List Stmt) (f : Cs) : Prop := PSsat X body sts (tS X.K W f)
theorem PEat.up {X : Cx} {body : List Stmt} {e : Expr} {t t' : TE} (h : PEat X body e t) (i : ∀ σ H Q, t' σ H Q → t σ H Q) : PEat X body e t' := fun pins s σ H Q I q => h pins s σ H Q I (i σ H Q q)
theorem PSat.up {X : Cx} {body : List Stmt} {e : Stmt} {t t' : TS} (h : PSat X body e t) (i : ∀ D σ H, t' D σ H → t D σ H) : PSat X body e t' := fun pins s σ H D I q => h pins s σ H D I (i D σ H q)
theorem PSsat.up {X : Cx} {body : List Stmt} {e : List Stmt} {t t' : TS} (h : PSsat X body e t) (i : ∀ D σ H, t' D σ H → t D σ H) : PSsat X body e t' := fun pins s σ H D I q => h pins s σ H D I (i D σ H q)
/-- super().m(..) of the class c, the instance in the slot i -/
def eSup (i : Nat) (c : Str) (g : List D → C D) (fs : Env → C (List D)) : Env → C D := fun ρ M => match ρ[i]? with
  | some (some d) => (match insOf M d with
    | some (c', _, _) => if (c == c') = true then ((fs ρ).bind fun xs => g (d :: xs)) M else .stuck
    | none => .stuck)
  | _ => .stuck
section
variable {X : Cx} {W : WX} {body : List Stmt} {pos : Pos} {e : Expr} {fa : Env → C D} {st : Stmt} {rest : List Stmt} {f g : Cs}
theorem sdat_expr (he : PDat X W body e fa) (hs : swapsWith e none pos.line X.env = pure false := by rfl) : SDat X W body (.Expr e pos) (sExpr fa) := (psat_expr he hs).up fun De σ H h => by
  obtain ⟨S, as, M, ρ, st, env, fin⟩ := h
  exact ⟨S, as, M, ρ, st, env, FinS.bindE (g := fun d M => .nx ρ M) fin env fun S1 as1 M1 d v H1 e1 st1 env1 rx fin1 => fin_nx st1 env1 fin1⟩
theorem sdat_set {i : Nat} {x : Str} {pos' : Pos} (hN : X.N.Nodup) (he : PDat X W body e fa) (hi : X.N[i]? = some x := by rfl) (hx : Loc X.env.scope x := by first | exact Or.inl rfl | exact Or.inr rfl) (hs : swapsWith e (some (.Name x pos')) pos.line X.env = pure false := by rfl)
    (hf : X.fn x = true ∨ X.env.scope.names.lookup x = some .local := by first | exact .inl rfl | exact .inr rfl) : SDat X W body (.Assign [.Name x pos'] e pos) (sSet i fa) := (psat_set hN hi hx he hs hf).up fun De σ H h => by
  obtain ⟨S, as, M, ρ, st, env, fin⟩ := h
  exact ⟨S, as, M, ρ, st, env, FinS.bindE (g := fun d M => .nx (ρ.set i (some d)) M) fin env fun S1 as1 M1 d v H1 e1 st1 env1 rx fin1 => fin_nx st1 (env1.set rx) fin1⟩
theorem sdsat_cons (h1 : SDat X W body st f) (h2 : SDs X W rest g) : SDsat X W body (st :: rest) (sSeq f g) := (psat_cons h1 h2).up fun De σ H h => by
  obtain ⟨S, as, M, ρ, st, env, fin⟩ := h
  refine ⟨S, as, M, ρ, st, env, ?_⟩
  unfold sSeq at fin
  cases e : f ρ M with
  | nx ρ1 M1 =>
    simp only [e] at fin
    intro S' as' σ' H' e' st' env'
    exact ⟨S', as', M1, ρ1, st', env', fin.pre e'⟩
  | bk ρ1 M1 => simp only [e] at fin; exact fin
  | ct ρ1 M1 => simp only [e] at fin; exact fin
  | rt d M1 => simp only [e] at fin; exact fin
  | er x ρ1 M1 => simp only [e] at fin; exact fin
  | stuck => simp only [e] at fin; exact fin.elim
end
section
variable {X : Cx} {W : WX} {pos apos p0 p1 : Pos} {e : Expr} {es : List Expr} {fs : Env → C (List D)} {m c ar : Str} {n : Nat} {md : Mode} {N : Nat} {bd : Cs} {body : List Stmt} {k : Nat} {f g cc B : Addr} {fd : FuncData} {ps : List Str} {i : Nat} {cdv : Value}
theorem sup_up {t0 : TA} (hd : ∀ σ H Q, tDs X.K W fs σ H Q → t0 σ H Q) {σ : L2.St} {H : Hp} {Q : VK} (h : tD X.K W (eSup i c (runF md n N bd) fs) σ H Q) :
    tSup i (clsA X.K c) (spOf X.K n (runF md n N bd)) (WE W) t0 σ H Q := by
  obtain ⟨S, as, M, ρ, st, env, fin⟩ := h
  unfold eSup at fin
  cases hi : ρ[i]? with
  | none => simp only [hi] at fin; exact fin.elim
  | some o =>
    cases o with
    | none => simp only [hi] at fin; exact fin.elim
    | some d =>
      simp only [hi] at fin
      obtain ⟨v, hv, rv⟩ := env.2 i d hi
      cases hd' : insOf M d with
      | none => simp only [hd'] at fin; exact fin.elim
      | some q =>
        obtain ⟨c', ns, ds⟩ := q
        simp only [hd'] at fin
        by_cases hc : (c == c') = true
        · rw [if_pos hc] at fin
          have hc := beq_iff_eq.mp hc
          subst hc
          obtain ⟨a, dx, fl, h1, h2, h3, h4⟩ := ins_of st rv hd'
          subst h1
          refine ⟨a, dx, fl, hv, h2, hd _ _ _ ?_⟩
          refine ⟨S, as, M, ρ, st, env, Fin.bind (g := fun xs => runF md n N bd (d :: xs)) fin env fun S2 as2 M2 xs vs H2 e2 st2 env2 rxs fin2 => ?_⟩
          exact fin_callee st2 env2 (Reps.cons (Rep.mono e2.same e2.pre _ _ rv) rxs) fin2
        · rw [if_neg hc] at fin
          exact fin.elim
theorem pdat_super {plb : Sem Bool} (tk : Takes X W) (S : Sup X.prog X.K f cc (clsA X.K c) B ar cdv) (M : SupM X.K B m g) (G : FnOk X.prog X.w X.K X.mg X.base (L2.CX X.prog X.w) k g fd ps (spOf X.K n (runF md n N bd))) (room : Room k X.A) (bi : Binds X.K fd ps [])
    (hf : X.env.func = some f) (hc : X.env.code = cdv) (hcl : X.env.cells.lookup ("__class__" : Str) = some cc) (hms : X.mg "super" = none) (hi : X.N[i]? = some ar) (ha : PDs X W (e :: es) fs)
    (hk : X.env.kindOf "super" = some .globalImplicit := by rfl) (hkc : X.env.kindOf "__class__" = some .free := by rfl) (hka : X.env.kindOf ar = some .local := by rfl)
    (hat : (m == ("__class__" : Str)) = false := by decide)
    (hst : starEach (e :: es) X.env = (false, eval e X.env) :: starEach es X.env := by rfl) (hpl : (backTo pos (starEach es X.env)).any (·.1) = false := by rfl)
    (he : eval (.Call (.Attribute (.Call (.Name "super" p0) [] [] p1) m apos) (e :: es) [] pos) X.env = (do
      let ov ← attributeBase (.Call (.Name "super" p0) [] [] p1) m X.env (eval (.Call (.Name "super" p0) [] [] p1) X.env)
      standAt apos.atName
      let (f, first) ← holding [ov] (getMethod ov m plb)
      callWith pos f first (backTo pos (starEach (e :: es) X.env)) []) := by rfl) :
    PDat X W body (.Call (.Attribute (.Call (.Name "super" p0) [] [] p1) m apos) (e :: es) [] pos) (eSup i c (runF md n N bd) fs) :=
  (pe_super S M G room bi (fun σ => passAt tk σ) hf hc hcl hms hi ha hk hkc hka hat hst hpl he).up fun _ _ _ h => sup_up (fun _ _ _ z => z) h
theorem pdat_super0 {plb : Sem Bool} (tk : Takes X W) (S : Sup X.prog X.K f cc (clsA X.K c) B ar cdv) (M : SupM X.K B m g) (G : FnOk X.prog X.w X.K X.mg X.base (L2.CX X.prog X.w) k g fd ps (spOf X.K n (runF md n N bd))) (room : Room k X.A) (bi : Binds X.K fd ps [])
    (hf : X.env.func = some f) (hc : X.env.code = cdv) (hcl : X.env.cells.lookup ("__class__" : Str) = some cc) (hms : X.mg "super" = none) (hi : X.N[i]? = some ar)
    (hk : X.env.kindOf "super" = some .globalImplicit := by rfl) (hkc : X.env.kindOf "__class__" = some .free := by rfl) (hka : X.env.kindOf ar = some .local := by rfl)
    (hat : (m == ("__class__" : Str)) = false := by decide)
    (he : eval (.Call (.Attribute (.Call (.Name "super" p0) [] [] p1) m apos) [] [] pos) X.env = (do
      let ov ← attributeBase (.Call (.Name "super" p0) [] [] p1) m X.env (eval (.Call (.Name "super" p0) [] [] p1) X.env)
      standAt apos.atName
      let (f, first) ← holding [ov] (getMethod ov m plb)
      callWith pos f first (backTo pos (starEach [] X.env)) []) := by rfl) :
    PDat X W body (.Call (.Attribute (.Call (.Name "super" p0) [] [] p1) m apos) [] [] pos) (eSup i c (runF md n N bd) eNil) :=
  (pe_super0 S M G room bi (fun σ => passAt tk σ) hf hc hcl hms hi hk hkc hka hat he).up fun _ _ _ h => sup_up (fun σ H Q z => by
    obtain ⟨S, as, M, ρ, st, env, fin⟩ := z
    exact fin S as [] H (Ext.refl _ _ _) st rfl) h
end
/-- a def that calls super(), as it stands -/
structure FunS (P : Program) (K : PySem.W.Frag) (x qual : Str) (st : Stmt) (f : Addr) (fd : FuncData) (cc C B : Addr) (ar : Str) : Prop where
  ex : ∃ (oc : Value) (od : Option Addr) (kV doc pm : Value) (an : Option Addr) (cdv ct : Value) (osl : Array (Option Value)),
    fd = PySem.W.ksFn x qual (defArgs st) (defBody st) (defScope st) .none kV doc pm an cdv ct cc ∧ K.lookup f = some ⟨oc, od, .func fd, osl⟩ ∧ PySem.W.codeIn K cdv qual = true ∧ Sup P K f cc C B ar cdv
  kp : PySem.W.keepIn K (.ref f) = true
theorem fn_bodyS {P : Program} {w : World} {K : PySem.W.Frag} {mg : Str → Option Value} {base : Heap} {x qual : Str} {st : Stmt} {f : Addr} {fd : FuncData} {cc C B : Addr} {ar : Str} {N ps : List Str} {k : Nat} (md : Mode) {body : Cs} (F : FunS P K x qual st f fd cc C B ar) (sc : SScope N ps (defScope st))
    (h : ∀ (cdv : Value) (A : Around) (outer : List PySem.Env) (s : Shared) (H : Hp) (E : XK), Sup P K f cc C B ar cdv → Room k (A.deeper (PySem.W.ksEnv qual (defScope st) s.heap.objs.size f cdv cc)) →
      SDsat (cxS (L2.CX P w) P w K mg base N qual (defScope st) f cdv cc A outer s H E) (fun cls d _ H => E cls d H) (defBody st) (defBody st) body) :
    FnOk P w K mg base (L2.CX P w) (k + 1) f fd ps (spOf K ps.length (runF md ps.length N.length body)) := by
  obtain ⟨oc, od, kV, doc, pm, an, cdv, ct, osl, rfl, lk, hcd, su⟩ := F.ex
  obtain ⟨cl, cld, csl, lcc⟩ := su.cell
  refine fn_super lk hcd sc lcc (fun vs H Q E q => ?_) fun A outer s H vs Q E hr q => ⟨_, h cdv A outer s H E su hr, ?_⟩
  · obtain ⟨S, as, M, ds, _, r, hl, _⟩ := q
    rw [← r.length, hl]
  · obtain ⟨S, as, M, ds, st0, r, hl, fin⟩ := q
    have hvl := r.length
    refine ⟨S, as, M, ds.map some ++ List.replicate (N.length - ps.length) none, st0, ?_, ?_⟩
    · unfold L2.start
      rw [← hvl, hl]
      exact reps_env r _
    · unfold runF at fin
      rw [if_pos hl] at fin
      cases eb : body (ds.map some ++ List.replicate (N.length - ps.length) none) M with
      | nx ρ1 M1 =>
        simp only [eb] at fin
        intro S1 as1 σ1 H1 x1 st1 env1
        cases ef : finish md M M1 (.v .non) with
        | ok d' M2 =>
          rw [ef] at fin
          obtain ⟨S2, as2, x2, st2, r2⟩ := finish_ok (d := .v .non) (v := .non) st0 x1 st1 ⟨rfl, rfl⟩ ef
          exact fin S2 as2 .non H1 x2 st2 r2
        | er y M2 =>
          exfalso
          cases md <;> simp [finish, finVal] at ef <;> (repeat' (split at ef)) <;> cases ef
        | stuck => rw [ef] at fin; exact fin.elim
      | rt d M1 =>
        simp only [eb] at fin
        intro S1 as1 v H1 x1 st1 rv
        cases ef : finish md M M1 d with
        | ok d' M2 =>
          rw [ef] at fin
          obtain ⟨S2, as2, x2, st2, r2⟩ := finish_ok st0 x1 st1 rv ef
          exact fin S2 as2 v H1 x2 st2 r2
        | er y M2 =>
          exfalso
          unfold finish finVal at ef
          cases md <;> cases d <;> simp only at ef <;> (repeat' (split at ef)) <;> cases ef
        | stuck => rw [ef] at fin; exact fin.elim
      | er y ρ1 M1 =>
        simp only [eb] at fin
        intro S1 as1 σ1 H1 dd x1 st1 env1 eo
        exact fin S1 as1 H1 dd x1 st1 eo
      | bk ρ1 M1 => simp only [eb] at fin; exact fin.elim
      | ct ρ1 M1 => simp only [eb] at fin; exact fin.elim
      | stuck => simp only [eb] at fin; exact fin.elim
theorem tk_ofS {P : Program} {w : World} {K : PySem.W.Frag} {mg : Str → Option Value} {base : Heap} {N : List Str} {qual : Str} {sc : Scope} {f cc : Addr} {cdv : Value} {A : Around} {outer : List PySem.Env} {s : Shared} {H : Hp} {E : XK} :
    Takes (cxS (L2.CX P w) P w K mg base N qual sc f cdv cc A outer s H E) (fun cls d _ H => E cls d H) := takes_of rfl rfl rfl rfl
theorem FunS.binds {P : Program} {K : PySem.W.Frag} {x qual : Str} {st : Stmt} {f : Addr} {fd : FuncData} {cc C B : Addr} {ar : Str} {ps : List Str} (F : FunS P K x qual st f fd cc C B ar)
    (h : ∀ (kV doc pm : Value) (an : Option Addr) (cdv ct : Value) (us : List Value), us.length = ps.length → bindArgs (PySem.W.ksFn x qual (defArgs st) (defBody st) (defScope st) .none kV doc pm an cdv ct cc) ⟨us, []⟩ = pure (ps.zip us)) : Binds K fd ps [] := by
  obtain ⟨oc, od, kV, doc, pm, an, cdv, ct, osl, rfl, _, _, _⟩ := F.ex
  exact .all (h kV doc pm an cdv ct)
def sscC (N P : List Str) (sc : Scope) : Bool := decide (sc.kind = .function) && !sc.isCoroutine && !sc.isGenerator && decide N.Nodup && decide (N.take P.length = P) && P.all (fun x => decide (sc.names.lookup x = some .local)) && sc.names.all (fun y => !decide (y.2 = .cell) && (!decide (y.2 = .free) || decide (y.1 = ("__class__" : Str))))
theorem sscope_by {N P : List Str} {sc : Scope} (h : sscC N P sc = true) : SScope N P sc := by
  unfold sscC at h
  simp only [Bool.and_eq_true, Bool.not_eq_true', decide_eq_true_eq, List.all_eq_true, Bool.or_eq_true, decide_eq_false_iff_not] at h
  obtain ⟨⟨⟨⟨⟨⟨h1, h2⟩, h3⟩, h4⟩, h5⟩, h6⟩, h7⟩ := h
  exact ⟨h1, h2, h3, h4, h5, h6, fun y hy => (h7 y hy).1, fun y hy e => (h7 y hy).2.resolve_left (fun z => z e)⟩
theorem funS_mk {P : Program} {K : PySem.W.Frag} {x qual : Str} {st : Stmt} {f cda cc C B : Addr} {oc ccl cl : Value} {od an cdd cld : Option Addr} {osl ccs csl : Array (Option Value)} {kV doc pm ct : Value} {vs : Array Value} {file : Str} {tf : Tok} {cdC cdB : ClassData} {a : Arg}
    (l : K.lookup f = some ⟨oc, od, .func (PySem.W.ksFn x qual (defArgs st) (defBody st) (defScope st) .none kV doc pm an (.ref cda) ct cc), osl⟩) (c : PySem.W.codeIn K (.ref cda) qual = true) (k : PySem.W.keepIn K (.ref f) = true)
    (lc : K.lookup cda = some ⟨ccl, cdd, .fields vs, ccs⟩) (hvs : vs[2]? = some (.str file tf)) (hfile : ((P.main.file : Str) == file) = true) (top : (P.main.scope.names.lookup ("super" : Str)).isSome = false)
    (lcc : K.lookup cc = some ⟨cl, cld, .cell (some (.ref C)), csl⟩) (sub : PySem.W.mroIn K C (.ref C) = some true) (h1 : PySem.W.clsIn K C = some cdC) (h2 : PySem.W.clsIn K B = some cdB) (h3 : (cdC.mro.dropWhile (· != .ref C)).drop 1 = cdB.mro)
    (any : PySem.W.nsIn K cStatics "thirdparty.any" = some none) (hp : ((defArgs st).posonlyargs ++ (defArgs st).args).head? = some a) : FunS P K x qual st f (PySem.W.ksFn x qual (defArgs st) (defBody st) (defScope st) .none kV doc pm an (.ref cda) ct cc) cc C B a.arg :=
  ⟨⟨oc, od, kV, doc, pm, an, .ref cda, ct, osl, rfl, l, c, ⟨⟨oc, od, _, osl, a, l, hp, rfl⟩, ⟨cda, ccl, cdd, vs, ccs, file, tf, rfl, lc, hvs, hfile⟩, top, ⟨cl, cld, csl, lcc⟩, sub, ⟨cdC, cdB, h1, h2, h3⟩, any⟩⟩, k⟩
end DL
set_option Elab.async false
set_option maxRecDepth 100000
namespace DL
open PySem PySem.Spec PyProof.Rows L2
/-! ### wp for classes, texts -/
section
variable {M : Mem} {ρ : Env} {E : Exn → Mem → Prop} {Q : D → Mem → Prop}
theorem p_fld {cs : List Str} {f C : Str} {x d : D} {ns : List Str} {ds : List D} (h : insOf M x = some (C, ns, ds)) (hc : cs.contains C = true) (hf : lookF ns ds f = some d) (q : Q d M) : P (gFld cs f x M) E Q := by
  unfold gFld; simp only [h]; rw [if_pos hc, hf]; exact P.k q
theorem s_put {cs : List Str} {f : Str} {fo fe : Env → C D} {nx : Env → Mem → Prop} {rt : D → Mem → Prop} {bk ct : Env → Mem → Prop} {er : Exn → Env → Mem → Prop}
    (h : P (fe ρ M) (fun x M1 => er x ρ M1) fun d M1 => P (fo ρ M1) (fun x M1 => er x ρ M1) fun o M2 => ∃ M3, putM cs f M2 o d = some M3 ∧ nx ρ M3) : SP (sPut cs f fo fe ρ M) nx rt bk ct er :=
  s_E (h.mono fun d M1 h => s_E (h.mono fun o M2 ⟨M3, e, q⟩ => by rw [e]; exact SP.kn q))
theorem p_put {cs : List Str} {f C : Str} {k : Nat} {d : D} {ns : List Str} {ds : List D} {Q : Mem → Prop} (h : M[k]? = some (.ins C ns ds)) (hc : cs.contains C = true) (hl : ns.length < 1000) (q : Q (M.set k (.ins C (putN ns f) (putD ns ds f d)))) :
    ∃ M3, putM cs f M (.h k) d = some M3 ∧ Q M3 := ⟨_, by unfold putM; simp only [h, hc, Bool.true_and, decide_eq_true_eq]; rw [if_pos hl], q⟩
theorem p_mc {m : Str} {tb : MTab} {fo : Env → C D} {fs : Env → C (List D)} (h : P (fo ρ M) E fun x M1 => ∃ c ns ds F, insOf M1 x = some (c, ns, ds) ∧ ns.contains m = false ∧ mget tb c = some F ∧ P (fs ρ M1) E fun xs M2 => P (F (x :: xs) M2) E Q) : P (eMc m tb fo fs ρ M) E Q :=
  p_bind (h.mono fun x M1 ⟨c, ns, ds, F, h1, h2, h3, h4⟩ => by
    simp only [h1, h3]
    rw [if_neg (by rw [h2]; exact Bool.false_ne_true)]
    exact p_bind h4)
theorem p_make {c : Str} {F : List D → C D} {xs : List D} (h : P (F (.h M.length :: xs) (M ++ [.ins c [] []])) E fun d M1 => d = No ∧ Q (.h M.length) M1) : P (gMake c F xs M) E Q := by
  unfold gMake
  cases e : F (.h M.length :: xs) (M ++ [.ins c [] []]) with
  | ok d M1 => rw [e] at h; obtain ⟨rfl, q⟩ := h.g; exact P.k q
  | er x M1 => rw [e] at h; exact P.e h.ge
  | stuck => rw [e] at h; exact h.gs.elim
theorem p_sup {i : Nat} {c : Str} {g : List D → C D} {fs : Env → C (List D)} {x : D} {ns : List Str} {ds : List D} (h1 : ρ[i]? = some (some x)) (h2 : insOf M x = some (c, ns, ds)) (h : P (fs ρ M) E fun xs M1 => P (g (x :: xs) M1) E Q) : P (eSup i c g fs ρ M) E Q := by
  unfold eSup
  simp only [h1, h2]
  rw [if_pos (by simp)]
  exact p_bind h
theorem p_isO {cs : List Str} {tab : IsTab} {x c : D} {t u : Ty} {b : Bool} (h1 : tyO cs M x = some t) (h2 : tyArg c = some u) (h3 : isO tab t u = some b) (q : Q (Bo b) M) : P (gIsO cs tab [x, c] M) E Q := by
  unfold gIsO; simp only [h1, h2, h3]; exact P.k q
theorem strsOf_map : ∀ ss : List Str, strsOf (ss.map Tx) = some ss
  | [] => rfl
  | s :: ss => by
    have h := strsOf_map ss
    unfold strsOf at h ⊢
    rw [List.map_cons, List.mapM_cons, h]; rfl
theorem p_join {a : Str} {y : D} {ss : List Str} (h : seqOf M y = some (ss.map Tx)) (hl : (ss.map (·.length)).sum + ss.length * a.length ≤ 16777216) (q : Q (Tx (Str.join a ss)) M) : P (gJoin (Tx a) [y] M) E Q := by
  unfold gJoin; simp only [h, strsOf_map]; rw [if_pos hl]; exact P.k q
theorem p_find {a b : Str} (q : Q (I (Txt.find a b)) M) : P (gFind (Tx a) [Tx b] M) E Q := P.k q
theorem p_extend {k : Nat} {ds es : List D} {y : D} (h : M[k]? = some (.lst ds)) (h2 : mlOf M y = some es) (hl : ds.length + es.length ≤ 16777216) (q : Q No (M.set k (.lst (ds ++ es)))) : P (gExtend (.h k) [y] M) E Q := by
  unfold gExtend; simp only [h, h2]; rw [if_pos hl]; exact P.k q
theorem p_tupOfL {ds : List D} (q : Q (.tup ds) M) : P (gTupOf [.lst ds] M) E Q := by unfold gTupOf; exact P.k q
theorem p_strI {i : Int} (h : i.natAbs.log2 < 1920) (q : Q (Tx (toString i)) M) : P (gStr [I i] M) E Q := by unfold gStr; simp only [if_pos h]; exact P.k q
theorem p_strS {s : Str} (q : Q (Tx s) M) : P (gStr [Tx s] M) E Q := P.k q
theorem p_fmtI {i : Int} (h : i.natAbs.log2 < 1920) (q : Q (Tx (toString i)) M) : P (gFmt (I i) M) E Q := by unfold gFmt; simp only [if_pos h]; exact P.k q
theorem p_fmtS {s : Str} (q : Q (Tx s) M) : P (gFmt (Tx s) M) E Q := P.k q
theorem p_fsN {acc : Str} (q : Q (Tx acc) M) : P (eFs [] acc ρ M) E Q := P.k q
theorem p_fsC {f : Env → C D} {fs : List (Env → C D)} {acc : Str} (h : P (f ρ M) E fun x M1 => ∃ y, x = Tx y ∧ acc.length + y.length ≤ 16777216 ∧ P (eFs fs (acc ++ y) ρ M1) E Q) : P (eFs (f :: fs) acc ρ M) E Q := by
  show P (C.bind (f ρ) _ M) E Q
  refine p_bind (h.mono ?_)
  rintro x M1 ⟨y, rfl, hl, q⟩
  show P (if acc.length + y.length ≤ 16777216 then eFs fs (acc ++ y) ρ M1 else .stuck) E Q
  rw [if_pos hl]; exact q
theorem p_fsI {y : Str} {acc : Str} {R : Str → Prop} (h : acc.length + y.length ≤ 16777216) (r : R y) : ∃ z, Tx y = Tx z ∧ acc.length + z.length ≤ 16777216 ∧ R z := ⟨y, rfl, h, r⟩
theorem intsOf_none {s : Str} {ss : List Str} : intsOf ((s :: ss).map Tx) = none := rfl
theorem p_sortedS {ss : List Str} (hl : ss.length < 64) (q : Q (.lst ((sortS ss).map Tx)) M) : P (gSorted mkV [.lst (ss.map Tx)] M) E Q := by
  unfold gSorted
  simp only [lstOf]
  cases ss with
  | nil =>
    have : (sortS []).map Tx = [] := by unfold sortS; simp
    rw [this] at q
    exact P.k q
  | cons s ss =>
    rw [intsOf_none]
    simp only [strsOf_map]
    rw [if_pos hl]; exact P.k q
end
theorem insOf_h {M : Mem} {k : Nat} {C : Str} {ns : List Str} {ds : List D} (h : M[k]? = some (.ins C ns ds)) : insOf M (.h k) = some (C, ns, ds) := by unfold insOf; simp only [h]
theorem tyO_h {cs : List Str} {M : Mem} {k : Nat} {C : Str} {ns : List Str} {ds : List D} (h : M[k]? = some (.ins C ns ds)) (hc : cs.contains C = true) : tyO cs M (.h k) = some (.o C) := by unfold tyO; rw [insOf_h h]; simp only [hc, if_true]
theorem seqOf_h {M : Mem} {k : Nat} {ds : List D} (h : M[k]? = some (.lst ds)) : seqOf M (.h k) = some ds := by simp [seqOf, h]
theorem lstOf_h {M : Mem} {k : Nat} {ds : List D} (h : M[k]? = some (.lst ds)) : lstOf M (.h k) = some ds := by simp [lstOf, h]
theorem mlOf_h {M : Mem} {k : Nat} {ds : List D} (h : M[k]? = some (.lst ds)) : mlOf M (.h k) = some ds := by simp [mlOf, h]
theorem itOf_h {M : Mem} {k : Nat} {ds : List D} (h : M[k]? = some (.lst ds)) : itOf M (.h k) = some ⟨ds, some (k, ds)⟩ := by simp [itOf, h]
theorem resM_h {M : Mem} {k : Nat} {c : D} (h : M[k]? = some c) : resM M (.h k) = c := by simp [resM, h]
theorem sortS_mem {ss : List Str} {s : Str} : s ∈ sortS ss ↔ s ∈ ss := by unfold sortS; exact List.mem_mergeSort
theorem sortS_len {ss : List Str} : (sortS ss).length = ss.length := by unfold sortS; simp
/-- a text of a number -/
theorem len_int {i : Int} (h : i.natAbs < 10 ^ 20) : (Str.ofString (toString i)).length ≤ 21 := by
  cases i with
  | ofNat n =>
    have h' : (n : Nat) < 10 ^ 20 := h
    exact Nat.le_trans (toString_length_le (k := 20) (Int.natCast_nonneg n) (by decide) (by show ((n : Int)) < 10 ^ 20; exact_mod_cast h')) (by decide)
  | negSucc n =>
    have h' : n + 1 < 10 ^ 20 := h
    have e : toString (Int.negSucc n) = "-" ++ toString ((n + 1 : Nat) : Int) := rfl
    have h2 := toString_length_le (v := ((n + 1 : Nat) : Int)) (k := 20) (Int.natCast_nonneg _) (by decide) (by exact_mod_cast h')
    rw [PyProof.Rows.ofString_length] at h2 ⊢
    rw [e, String.toList_append, List.length_append]
    have : ("-" : String).toList.length = 1 := rfl
    omega
theorem log_int {i : Int} (h : i.natAbs < 2 ^ 64) : i.natAbs.log2 < 1920 := by
  by_cases h0 : i.natAbs = 0
  · rw [h0]; decide
  · exact (Nat.log2_lt h0).mpr (Nat.lt_of_lt_of_le h (Nat.pow_le_pow_right (by decide) (by decide)))
theorem app_assoc (a b c : Str) : a ++ b ++ c = a ++ (b ++ c) := Str.append_assoc a b c
theorem join2 (a x y : Str) (r : List Str) : Str.join a (x :: y :: r) = x ++ a ++ Str.join a (y :: r) := rfl
theorem join_len (a : Str) : ∀ ss : List Str, (Str.join a ss).length ≤ (ss.map (·.length)).sum + ss.length * a.length
  | [] => by unfold Str.join; exact Nat.zero_le _
  | [x] => by unfold Str.join; simp
  | x :: y :: r => by
    have ih := join_len a (y :: r)
    rw [join2, len_app, len_app]
    simp only [List.map_cons, List.sum_cons, List.length_cons] at ih ⊢
    have : (r.length + 1 + 1) * a.length = (r.length + 1) * a.length + a.length := Nat.succ_mul _ _
    omega
theorem sum_len {B : Nat} : ∀ {ss : List Str}, (∀ s ∈ ss, s.length ≤ B) → (ss.map (·.length)).sum ≤ B * ss.length := fun {ss} h => by
  have := sumLen_le_of_bound (fun s : Str => s) B ss h
  rw [List.map_id'] at this
  exact this
end DL
set_option Elab.async false
set_option maxRecDepth 100000
set_option maxHeartbeats 2000000
namespace DL
open PySem PySem.Spec PyProof.Rows L2 NKD
/-! wp lemmas: while, two clauses, dicts with nested keys -/
section
variable {M : Mem} {ρ : Env} {E : Exn → Mem → Prop} {nx : Env → Mem → Prop} {rt : D → Mem → Prop} {bk ct : Env → Mem → Prop} {er : Exn → Env → Mem → Prop}
theorem s_whileN {c : Env → C Bool} {body : Cs} (J : Nat → Env → Mem → Prop)
    (hs : ∀ m ρ M, J m ρ M → P (c ρ M) (fun x M1 => er x ρ M1) fun b M1 => (b = true → SP (body ρ M1) (fun ρ2 M2 => ∃ m', m' < m ∧ J m' ρ2 M2) rt nx (fun ρ2 M2 => ∃ m', m' < m ∧ J m' ρ2 M2) er) ∧ (b = false → nx ρ M1)) :
    ∀ (n m : Nat) (ρ : Env) (M : Mem), m < n → J m ρ M → SP (whileN c body n ρ M) nx rt bk ct er
  | 0, m, ρ, M, h, _ => absurd h (Nat.not_lt_zero m)
  | n + 1, m, ρ, M, h, j => by
    unfold whileN
    refine s_E ((hs m ρ M j).mono fun b M1 q => ?_)
    cases b with
    | false =>
      rw [if_neg Bool.false_ne_true]
      exact SP.kn (q.2 rfl)
    | true =>
      rw [if_pos rfl]
      have q1 := q.1 rfl
      cases eb : body ρ M1 with
      | nx ρ2 M2 =>
        rw [eb] at q1
        obtain ⟨m', h1, h2⟩ := q1.gn
        exact s_whileN J hs n m' ρ2 M2 (by omega) h2
      | ct ρ2 M2 =>
        rw [eb] at q1
        obtain ⟨m', h1, h2⟩ := q1.gc
        exact s_whileN J hs n m' ρ2 M2 (by omega) h2
      | bk ρ2 M2 => rw [eb] at q1; exact SP.kn q1.gb
      | rt d M2 => rw [eb] at q1; exact SP.kr q1.gr
      | er x ρ2 M2 => rw [eb] at q1; exact SP.ke q1.ge
      | stuck => rw [eb] at q1; exact q1.gs.elim
theorem s_while {f : Env → Mem → Nat} {c : Env → C Bool} {body : Cs} (J : Nat → Env → Mem → Prop) (m : Nat) (hm : m < f ρ M) (h0 : J m ρ M)
    (hs : ∀ m ρ M, J m ρ M → P (c ρ M) (fun x M1 => er x ρ M1) fun b M1 => (b = true → SP (body ρ M1) (fun ρ2 M2 => ∃ m', m' < m ∧ J m' ρ2 M2) rt nx (fun ρ2 M2 => ∃ m', m' < m ∧ J m' ρ2 M2) er) ∧ (b = false → nx ρ M1)) : SP (sWhile f c body ρ M) nx rt bk ct er :=
  s_whileN J hs _ m ρ M hm h0
/-- a comprehension's loop, from any start -/
theorem p_lcA {gd : Option (Nat × List D)} {t : Tg} {test : Env → C Bool} {elt : Env → C D} {Q : List D → Mem → Prop} (J : Nat → List D → Mem → Prop) {ds acc0 : List D} (h0 : J 0 acc0 M) (hg : ∀ i acc M, J i acc M → gOk gd M)
    (hs : ∀ i d acc M, ds[i]? = some d → J i acc M → ∃ ρ1, t.run d ρ = some ρ1 ∧ P (test ρ1 M) NoE fun b M1 => (b = true → P (elt ρ1 M1) NoE fun y M2 => J (i + 1) (acc ++ [y]) M2) ∧ (b = false → J (i + 1) acc M1))
    (hd : ∀ acc M, J ds.length acc M → Q acc M) : P (lcL gd t test elt ds acc0 ρ M) E Q := by
  have go : ∀ (es : List D) (i : Nat) (acc : List D) (M : Mem), ds.drop i = es → i + es.length = ds.length → J i acc M → P (lcL gd t test elt es acc ρ M) E Q := by
    intro es
    induction es with
    | nil =>
      intro i acc M he hl hj
      unfold lcL
      rw [if_pos (hg i acc M hj)]
      have : i = ds.length := by simpa using hl
      subst this
      exact P.k (hd acc M hj)
    | cons d es ih =>
      intro i acc M he hl hj
      unfold lcL
      rw [if_pos (hg i acc M hj)]
      have hi : ds[i]? = some d := by
        have : (ds.drop i)[0]? = some d := by rw [he]; rfl
        simpa using this
      obtain ⟨ρ1, h1, h2⟩ := hs i d acc M hi hj
      rw [h1]
      have he2 : ds.drop (i + 1) = es := by
        rw [← List.drop_drop, he]; rfl
      simp only
      obtain ⟨b, M1, e1, h3, h4⟩ := h2.ok
      rw [e1]
      cases b with
      | false => exact ih (i + 1) acc M1 he2 (by simp at hl; omega) (h4 rfl)
      | true =>
        obtain ⟨y, M2, e2, h5⟩ := (h3 rfl).ok
        simp only [e2]
        exact ih (i + 1) (acc ++ [y]) M2 he2 (by simp at hl; omega) h5
  exact go ds 0 acc0 M rfl (by simp) h0
theorem p_lcL2 {gd : Option (Nat × List D)} {t t1 : Tg} {test test1 : Env → C Bool} {fi1 : Env → C ItS} {elt : Env → C D} {vs1 : List Nat} {Q : List D → Mem → Prop} (J : Nat → List D → Mem → Prop) {ds acc0 : List D} (h0 : J 0 acc0 M) (hg : ∀ i acc M, J i acc M → gOk gd M)
    (hs : ∀ i d acc M, ds[i]? = some d → J i acc M → ∃ ρ1, t.run d ρ = some ρ1 ∧ P (test ρ1 M) NoE fun b M1 => (b = true → P (fi1 ρ1 M1) NoE fun I1 M2 => acc.length + I1.ds.length ≤ 16777216 ∧ P (lcL I1.g t1 test1 elt I1.ds acc (wipeD ρ1 vs1) M2) NoE fun acc' M3 => J (i + 1) acc' M3) ∧ (b = false → J (i + 1) acc M1))
    (hd : ∀ acc M, J ds.length acc M → Q acc M) : P (lcL2 gd t test fi1 t1 test1 elt vs1 ds acc0 ρ M) E Q := by
  have go : ∀ (es : List D) (i : Nat) (acc : List D) (M : Mem), ds.drop i = es → i + es.length = ds.length → J i acc M → P (lcL2 gd t test fi1 t1 test1 elt vs1 es acc ρ M) E Q := by
    intro es
    induction es with
    | nil =>
      intro i acc M he hl hj
      unfold lcL2
      rw [if_pos (hg i acc M hj)]
      have : i = ds.length := by simpa using hl
      subst this
      exact P.k (hd acc M hj)
    | cons d es ih =>
      intro i acc M he hl hj
      unfold lcL2
      rw [if_pos (hg i acc M hj)]
      have hi : ds[i]? = some d := by
        have : (ds.drop i)[0]? = some d := by rw [he]; rfl
        simpa using this
      obtain ⟨ρ1, h1, h2⟩ := hs i d acc M hi hj
      rw [h1]
      have he2 : ds.drop (i + 1) = es := by
        rw [← List.drop_drop, he]; rfl
      simp only
      obtain ⟨b, M1, e1, h3, h4⟩ := h2.ok
      rw [e1]
      cases b with
      | false => exact ih (i + 1) acc M1 he2 (by simp at hl; omega) (h4 rfl)
      | true =>
        obtain ⟨I1, M2, e2, h5, h6⟩ := (h3 rfl).ok
        simp only [e2]
        rw [if_pos h5]
        obtain ⟨acc', M3, e3, h7⟩ := h6.ok
        simp only [e3]
        exact ih (i + 1) acc' M3 he2 (by simp at hl; omega) h7
  exact go ds 0 acc0 M rfl (by simp) h0
theorem p_lc2 {mk : List D → Mem → Out D} {fi fi1 : Env → C ItS} {t t1 : Tg} {test test1 : Env → C Bool} {elt : Env → C D} {vs vs1 : List Nat} {Q : D → Mem → Prop}
    (h : P (fi ρ M) E fun Z M1 => P (lcL2 Z.g t test fi1 t1 test1 elt vs1 Z.ds [] (wipeD ρ vs) M1) NoE fun acc M2 => acc.length ≤ 16777216 ∧ P (mk acc M2) E Q) : P (eLc2 mk fi t test fi1 t1 test1 elt vs vs1 ρ M) E Q :=
  p_bind (h.mono fun Z M1 h2 => by
    obtain ⟨acc, M2, e, h3, h4⟩ := h2.ok
    rw [e]
    show P (if acc.length ≤ 16777216 then mk acc M2 else .stuck) E Q
    rw [if_pos h3]
    exact h4)
theorem p_rep {x : D} {ds : List D} {k : Int} {Q : D → Mem → Prop} (h : mlOf M x = some ds) (h1 : 0 ≤ k) (h2 : k < 2 ^ 63) (h3 : ds.length * k.toNat ≤ 16777216) (q : Q (.lst (repD k.toNat ds)) M) : P (gRepL mkV x (I k) M) E Q := by
  unfold gRepL
  simp only [h]
  rw [if_pos ⟨by omega, h2, h3⟩]
  exact P.k q
theorem p_addH {x y : D} {xs ys : List D} {Q : D → Mem → Prop} (hx : mlOf M x = some xs) (hy : mlOf M y = some ys) (h : xs.length + ys.length ≤ 16777216) (q : Q (.h M.length) (M ++ [.lst (xs ++ ys)])) : P (gAddH x y M) E Q := by
  unfold gAddH
  simp only [hx, hy]
  rw [if_pos h]
  exact P.k q
theorem p_addL {xs ys : List D} {Q : D → Mem → Prop} (h : xs.length + ys.length ≤ 16777216) (q : Q (.lst (xs ++ ys)) M) : P (gAdd (.lst xs) (.lst ys) M) E Q := by
  show P (addD (.lst xs) (.lst ys) M) E Q
  unfold addD; simp only [mlOf, if_pos h]; exact P.k q
end
section
variable [HW] {M : Mem} {ρ : Env} {E : Exn → Mem → Prop}
abbrev NDct (ks : List D) (ns : List Int) : D := .dN HW.w ks ns
theorem dnOf_v {ks : List D} {ns : List Int} : dnOf M (NDct ks ns) = some (ks, ns) := by simp [dnOf]
theorem dnOf_h {k : Nat} {ks : List D} {ns : List Int} (h : M[k]? = some (NDct ks ns)) : dnOf M (.h k) = some (ks, ns) := by
  simp [dnOf, h]
theorem p_dnew {Q : D → Mem → Prop} (q : Q (.h M.length) (M ++ [NDct [] []])) : P (eDNewN ρ M) E Q := P.k q
theorem p_nget2 {fo fi fe : Env → C D} {Q : D → Mem → Prop} (h : P (fo ρ M) E fun x M1 => (dnOf M1 x).isSome = true ∧ P (fi ρ M1) E fun y M2 => P (fe ρ M2) E fun z M3 => P (gNGet2 x y z M3) E Q) : P (eNGet2 fo fi fe ρ M) E Q :=
  p_bind (h.mono fun x M1 ⟨h1, h2⟩ => by
    rw [h1]
    exact p_bind (h2.mono fun y M2 h3 => p_bind h3))
theorem p_gget {k : Nat} {ks : List D} {ns : List Int} {y : D} {z : Int} {Q : D → Mem → Prop} (h : M[k]? = some (NDct ks ns)) (hy : isNK y = true) (q : Q (I ((look (ks.map keyN) ns (keyN y)).getD z)) M) : P (gNGet2 (.h k) y (I z) M) E Q := by
  unfold gNGet2
  rw [dnOf_h h]
  simp only [hy, if_true]
  cases e : look (ks.map keyN) ns (keyN y) with
  | none => rw [e] at q; exact P.k q
  | some n => rw [e] at q; exact P.k q
theorem s_nput {fo fi fe : Env → C D} {nx : Env → Mem → Prop} {rt : D → Mem → Prop} {bk ct : Env → Mem → Prop} {er : Exn → Env → Mem → Prop}
    (h : P (fe ρ M) (fun x M1 => er x ρ M1) fun d M1 => P (fo ρ M1) (fun x M1 => er x ρ M1) fun o M2 => P (fi ρ M2) (fun x M1 => er x ρ M1) fun i M3 => ∃ M4, nputM M3 o i d = some M4 ∧ nx ρ M4) : SP (sNPutD fo fi fe ρ M) nx rt bk ct er :=
  s_E (h.mono fun d M1 h => s_E (h.mono fun o M2 h => s_E (h.mono fun i M3 ⟨M4, e, q⟩ => by rw [e]; exact SP.kn q)))
theorem p_nput {k : Nat} {ks : List D} {ns : List Int} {y : D} {n : Int} {Q : Mem → Prop} (h : M[k]? = some (NDct ks ns)) (hy : isNK y = true) (hl : ks.length < 16777216) (q : Q (M.set k (NDct (addKD ks y) (NKD.putN (ks.map keyN) ns (keyN y) n)))) : ∃ M4, nputM M (.h k) y (I n) = some M4 ∧ Q M4 := by
  refine ⟨_, ?_, q⟩
  unfold nputM
  simp only [h]
  rw [if_pos ⟨trivial, hy, hl⟩]
theorem p_eqA {x y : D} {Q : D → Mem → Prop} (hx : okEq (resM M x) = true) (hy : okEq (resM M y) = true) (q : Q (Bo (deq (resM M x) (resM M y))) M) : P (gEqA x y M) E Q := by
  unfold gEqA
  rw [if_pos (by rw [hx, hy]; rfl)]
  exact p_eqD hx hy q
theorem p_neA {x y : D} {Q : D → Mem → Prop} (hx : okEq (resM M x) = true) (hy : okEq (resM M y) = true) (q : Q (Bo (!deq (resM M x) (resM M y))) M) : P (gNeA x y M) E Q := by
  unfold gNeA
  rw [if_pos (by rw [hx, hy]; rfl)]
  exact p_neD hx hy q
theorem okEq_dn {ks : List D} {ns : List Int} : okEq (resM M (NDct ks ns)) = false := by
  show (plain (NDct ks ns) && _) = false
  rw [show plain (NDct ks ns) = false from rfl, Bool.false_and]
theorem p_eqN1 {ks ls : List D} {ns ms : List Int} {Q : D → Mem → Prop} (q : Q (Bo (eqN (ks.map keyN) ns (ls.map keyN) ms)) M) : P (gEqA (NDct ks ns) (NDct ls ms) M) E Q := by
  unfold gEqA
  rw [okEq_dn, Bool.false_and, if_neg Bool.false_ne_true]
  unfold gEqN
  rw [dnOf_v, dnOf_v]
  exact P.k q
theorem p_neN1 {ks ls : List D} {ns ms : List Int} {Q : D → Mem → Prop} (q : Q (Bo (!eqN (ks.map keyN) ns (ls.map keyN) ms)) M) : P (gNeA (NDct ks ns) (NDct ls ms) M) E Q := by
  unfold gNeA
  rw [okEq_dn, Bool.false_and, if_neg Bool.false_ne_true]
  unfold gNeN
  rw [dnOf_v, dnOf_v]
  exact P.k q
/-- a frozen dict of the pairs c -/
def DctD (c : List D × List Int) : D := NDct c.1 c.2
def kk (c : List D × List Int) : List NestedKey × List Int := (c.1.map keyN, c.2)
theorem dnsOf_map : ∀ cs : List (List D × List Int), dnsOf M (cs.map DctD) = some (cs.map kk)
  | [] => rfl
  | c :: cs => by
    rw [List.map_cons]
    unfold dnsOf
    rw [show dnOf M (DctD c) = some (c.1, c.2) from dnOf_v]
    simp only [dnsOf_map cs]
    rfl
theorem p_eqNs {c : List D × List Int} {cs ds : List (List D × List Int)} {Q : D → Mem → Prop} (hl : (c :: cs).length = ds.length) (q : Q (Bo (eqNs ((c :: cs).map kk) (ds.map kk))) M) : P (gEqA (.lst ((c :: cs).map DctD)) (.lst (ds.map DctD)) M) E Q := by
  unfold gEqA
  have : okEq (resM M (.lst ((c :: cs).map DctD))) = false := by
    show (plain (.lst ((c :: cs).map DctD)) && _) = false
    have : plain (.lst ((c :: cs).map DctD)) = false := by
      rw [List.map_cons]
      unfold plain plains
      rw [show plain (DctD c) = false from rfl, Bool.false_and]
    rw [this, Bool.false_and]
  rw [this, Bool.false_and, if_neg Bool.false_ne_true]
  unfold gEqN
  simp only [dnOf, lstOf, dnsOf_map]
  rw [if_pos (by simpa using hl)]
  exact P.k q
end
end DL
set_option Elab.async false
set_option maxRecDepth 100000
set_option maxHeartbeats 4000000
namespace Law
open PySem PySem.Spec PyProof.Rows L2 DL
def topS (i : Nat) : Stmt := PySem.Challenge.pw_hearthdue_k36_alike_journals.main.body.getD i (.Pass ⟨0, 0, 0, 0⟩)
abbrev s__law_draw : Stmt := topS 8
abbrev N__law_draw : List Str := ["pot", "size", "digit", "mixed"]
theorem sc__law_draw : FnScope N__law_draw ["pot", "size"] (defScope s__law_draw) := ⟨rfl, rfl, rfl, by decide +kernel, rfl, by decide +kernel, by decide +kernel⟩
@[reducible] noncomputable def B__law_draw_1 [HW] : Cs := (sSeq (sStore (eVar 0) (eC (.v (.int 0))) (e2 gDiv (eN gInt (eCons (e2 gIx (eVar 0) (eC (.v (.int 0)))) eNil)) (eVar 1))) (sRet (eVar 2)))
@[reducible] noncomputable def B__law_draw_2 [HW] : Cs := (sIf (eB (e2 gGt (e2 gIx (eVar 0) (eC (.v (.int 0)))) (eC (.v (.int 0))))) (sSeq (sSet 2 (e2 gMod (eN gInt (eCons (e2 gIx (eVar 0) (eC (.v (.int 0)))) eNil)) (eVar 1))) B__law_draw_1) sPass)
@[reducible] noncomputable def B__law_draw_3 [HW] : Cs := (sSeq (sSet 3 (e2 gMod (eN gInt (eCons (e2 gAdd (e2 gMul (eVar 3) (eVar 3)) (e2 gIx (eVar 0) (eC (.v (.int 1))))) eNil)) (eC (.v (.int 998244353))))) (sRet (e2 gMod (eN gInt (eCons (e2 gDiv (eVar 3) (eC (.v (.int 16)))) eNil)) (eVar 1))))
@[reducible] noncomputable def B__law_draw_4 [HW] : Cs := (sSeq (sSet 3 (e2 gMod (eN gInt (eCons (e2 gAdd (e2 gMul (eVar 3) (eC (.v (.int 48271)))) (e2 gMul (eC (.v (.int 69621))) (e2 gIx (eVar 0) (eC (.v (.int 2)))))) eNil)) (eC (.v (.int 2147483647))))) B__law_draw_3)
@[reducible] noncomputable def B__law_draw_5 [HW] : Cs := (sSeq (sSet 3 (e2 gMod (eN gInt (eCons (e2 gAdd (e2 gAdd (e2 gMul (eVar 3) (eVar 3)) (e2 gMul (eC (.v (.int 31))) (e2 gIx (eVar 0) (eC (.v (.int 1)))))) (e2 gIx (eVar 0) (eC (.v (.int 2))))) eNil)) (eC (.v (.int 998244353))))) B__law_draw_4)
@[reducible] noncomputable def B__law_draw_6 [HW] : Cs := (sSeq (sSet 3 (e2 gMod (eN gInt (eCons (e2 gAdd (e2 gIx (eVar 0) (eC (.v (.int 1)))) (e2 gMul (eC (.v (.int 7919))) (e2 gIx (eVar 0) (eC (.v (.int 2)))))) eNil)) (eC (.v (.int 1000003))))) B__law_draw_5)
@[reducible] noncomputable def B__law_draw_7 [HW] : Cs := (sSeq (sStore (eVar 0) (eC (.v (.int 2))) (e2 gAdd (e2 gIx (eVar 0) (eC (.v (.int 2)))) (eC (.v (.int 1))))) B__law_draw_6)
@[reducible] noncomputable def B__law_draw [HW] : Cs := (sSeq B__law_draw_2 B__law_draw_7)
noncomputable def F__law_draw [HW] : List D → C D := runF .frz 2 4 B__law_draw
abbrev s__law_word : Stmt := topS 9
abbrev N__law_word : List Str := ["pot", "size", "letters", "k"]
theorem sc__law_word : FnScope N__law_word ["pot", "size"] (defScope s__law_word) := ⟨rfl, rfl, rfl, by decide +kernel, rfl, by decide +kernel, by decide +kernel⟩
@[reducible] noncomputable def B__law_word [HW] : Cs := (sSeq (sSet 2 (eC (.v (.str "abcdefghijklmnopqrstuvwxyz")))) (sRet (eM "str" gJoin (eC (.v (.str ""))) (eCons (eLcG mkV (eRange1 (eCons (eVar 1) eNil)) (.nm 3) bYes (e2 gIx (eVar 2) (eN F__law_draw (eCons (eVar 0) (eCons (eC (.v (.int 26))) eNil)))) [3]) eNil))))
noncomputable def F__law_word [HW] : List D → C D := runF .frz 2 4 B__law_word
abbrev s__law_bumped : Stmt := topS 10
abbrev N__law_bumped : List Str := ["word", "names", "letters", "turn"]
theorem sc__law_bumped : FnScope N__law_bumped ["word", "names"] (defScope s__law_bumped) := ⟨rfl, rfl, rfl, by decide +kernel, rfl, by decide +kernel, by decide +kernel⟩
@[reducible] noncomputable def B__law_bumped_1 [HW] : Cs := (sIf (eB (e2 gIn (eVar 0) (eVar 1))) (sSet 0 (e2 gAdd (eSl (eVar 0) oNo (oYes (e1 gNeg (eC (.v (.int 1)))))) (e2 gIx (eVar 2) (e2 gMod (eN gInt (eCons (e2 gAdd (eM "str" gFind (eVar 2) (eCons (e2 gIx (eVar 0) (e1 gNeg (eC (.v (.int 1))))) eNil)) (eC (.v (.int 1)))) eNil)) (eC (.v (.int 26))))))) sPass)
@[reducible] noncomputable def B__law_bumped_2 [HW] : Cs := B__law_bumped_1
@[reducible] noncomputable def B__law_bumped_3 [HW] : Cs := (sFor (eRange1 (eCons (eN gLen (eCons (eVar 1) eNil)) eNil)) (.nm 3) B__law_bumped_2)
@[reducible] noncomputable def B__law_bumped_4 [HW] : Cs := (sSeq B__law_bumped_3 (sRet (eVar 0)))
@[reducible] noncomputable def B__law_bumped [HW] : Cs := (sSeq (sSet 2 (eC (.v (.str "abcdefghijklmnopqrstuvwxyz")))) B__law_bumped_4)
noncomputable def F__law_bumped [HW] : List D → C D := runF .frz 2 4 B__law_bumped
abbrev s__law_names : Stmt := topS 11
abbrev N__law_names : List Str := ["pot", "count", "letters", "style", "names", "k", "base", "first", "stride", "size", "place"]
theorem sc__law_names : FnScope N__law_names ["pot", "count"] (defScope s__law_names) := ⟨rfl, rfl, rfl, by decide +kernel, rfl, by decide +kernel, by decide +kernel⟩
@[reducible] noncomputable def B__law_names_1 [HW] : Cs := (sExpr (eM "list" gAppend (eVar 4) (eCons (eN F__law_bumped (eCons (eN F__law_word (eCons (eVar 0) (eCons (e2 gAdd (eC (.v (.int 1))) (eN F__law_draw (eCons (eVar 0) (eCons (eC (.v (.int 8))) eNil)))) eNil))) (eCons (eVar 4) eNil))) eNil)))
@[reducible] noncomputable def B__law_names_2 [HW] : Cs := (sFor (eRange1 (eCons (eVar 1) eNil)) (.nm 5) B__law_names_1)
@[reducible] noncomputable def B__law_names_3 [HW] : Cs := (sIf (eB (e2 gEq (eVar 3) (eC (.v (.int 3))))) (sSeq B__law_names_2 (sRet (eVar 4))) sPass)
@[reducible] noncomputable def B__law_names_4 [HW] : Cs := (sIf (eB (e2 gEq (eVar 3) (eC (.v (.int 2))))) (sExpr (eM "list" gAppend (eVar 4) (eCons (eSl (eVar 6) oNo (oYes (e2 gAdd (eC (.v (.int 1))) (e2 gMod (eN gInt (eCons (e2 gAdd (eVar 7) (e2 gMul (eVar 5) (eVar 8))) eNil)) (eC (.v (.int 8))))))) eNil))) (sExpr (eM "list" gAppend (eVar 4) (eCons (e2 gAdd (e2 gAdd (eSl (eVar 6) oNo (oYes (eVar 10))) (e2 gIx (eVar 2) (e2 gMod (eN gInt (eCons (e2 gAdd (eVar 7) (e2 gMul (eVar 5) (eVar 8))) eNil)) (eC (.v (.int 26)))))) (eSl (eVar 6) (oYes (e2 gAdd (eVar 10) (eC (.v (.int 1))))) (oYes (eVar 9)))) eNil))))
@[reducible] noncomputable def B__law_names_5 [HW] : Cs := B__law_names_4
@[reducible] noncomputable def B__law_names_6 [HW] : Cs := (sFor (eRange1 (eCons (eVar 1) eNil)) (.nm 5) B__law_names_5)
@[reducible] noncomputable def B__law_names_7 [HW] : Cs := (sSeq B__law_names_6 (sRet (eVar 4)))
@[reducible] noncomputable def B__law_names_8 [HW] : Cs := (sSeq (sSet 10 (eN F__law_draw (eCons (eVar 0) (eCons (eVar 9) eNil)))) B__law_names_7)
@[reducible] noncomputable def B__law_names_9 [HW] : Cs := (sSeq (sSet 9 (e2 gAdd (eC (.v (.int 1))) (eN F__law_draw (eCons (eVar 0) (eCons (eC (.v (.int 8))) eNil))))) B__law_names_8)
@[reducible] noncomputable def B__law_names_10 [HW] : Cs := (sSeq (sSet 8 (e2 gAdd (eC (.v (.int 1))) (e2 gMul (eC (.v (.int 2))) (eN F__law_draw (eCons (eVar 0) (eCons (eC (.v (.int 6))) eNil)))))) B__law_names_9)
@[reducible] noncomputable def B__law_names_11 [HW] : Cs := (sSeq (sSet 7 (eN F__law_draw (eCons (eVar 0) (eCons (eC (.v (.int 26))) eNil)))) B__law_names_10)
@[reducible] noncomputable def B__law_names_12 [HW] : Cs := (sSeq (sSet 6 (eN F__law_word (eCons (eVar 0) (eCons (eC (.v (.int 8))) eNil)))) B__law_names_11)
@[reducible] noncomputable def B__law_names_13 [HW] : Cs := (sSeq B__law_names_3 B__law_names_12)
@[reducible] noncomputable def B__law_names_14 [HW] : Cs := (sSeq (sSet 4 (eN (gLst mkH) eNil)) B__law_names_13)
@[reducible] noncomputable def B__law_names_15 [HW] : Cs := (sSeq (sSet 3 (eN F__law_draw (eCons (eVar 0) (eCons (eC (.v (.int 4))) eNil)))) B__law_names_14)
@[reducible] noncomputable def B__law_names [HW] : Cs := (sSeq (sSet 2 (eC (.v (.str "abcdefghijklmnopqrstuvwxyz")))) B__law_names_15)
noncomputable def F__law_names [HW] : List D → C D := runF .frz 2 11 B__law_names
abbrev s__law_pot : Stmt := topS 7
abbrev N__law_pot : List Str := ["script", "place", "cell", "seed", "one"]
theorem sc__law_pot : FnScope N__law_pot ["script", "place"] (defScope s__law_pot) := ⟨rfl, rfl, rfl, by decide +kernel, rfl, by decide +kernel, by decide +kernel⟩
@[reducible] noncomputable def B__law_pot_1 [HW] : Cs := (sIf (eB (e2 gLt (eVar 1) (eN gLen (eCons (eVar 0) eNil)))) (sSet 2 (eN gInt (eCons (e2 gIx (eVar 0) (eVar 1)) eNil))) sPass)
@[reducible] noncomputable def B__law_pot_2 [HW] : Cs := (sSeq (sSet 3 (e2 gMod (eN gInt (eCons (e2 gAdd (e2 gMod (eN gInt (eCons (eVar 2) eNil)) (eC (.v (.int 2147483629)))) (e2 gMul (eC (.v (.int 7919))) (eVar 1))) eNil)) (eC (.v (.int 2147483647))))) (sRet (eN (gLst mkH) (eCons (eIf (eB (e2 gGe (eVar 2) (e2 gPow (eC (.v (.int 10))) (eC (.v (.int 18)))))) (eVar 2) (eC (.v (.int 0)))) (eCons (eVar 3) (eCons (eC (.v (.int 0))) eNil))))))
@[reducible] noncomputable def B__law_pot_3 [HW] : Cs := (sSeq B__law_pot_1 B__law_pot_2)
@[reducible] noncomputable def B__law_pot [HW] : Cs := (sSeq (sSet 2 (e2 gAdd (e2 gMul (eC (.v (.int 101))) (eN gSum (eCons (eLcG mkV (eIt (eSl (eVar 0) oNo (oYes (eC (.v (.int 63)))))) (.nm 4) bYes (e2 gMod (eN gInt (eCons (eVar 4) eNil)) (eC (.v (.int 1000003)))) [4]) eNil))) (e2 gMul (eC (.v (.int 7))) (eVar 1)))) B__law_pot_3)
noncomputable def F__law_pot [HW] : List D → C D := runF .own 2 5 B__law_pot
abbrev s__law_ident : Stmt := topS 14
abbrev N__law_ident : List Str := ["pot", "signs", "k"]
theorem sc__law_ident : FnScope N__law_ident ["pot"] (defScope s__law_ident) := ⟨rfl, rfl, rfl, by decide +kernel, rfl, by decide +kernel, by decide +kernel⟩
@[reducible] noncomputable def B__law_ident [HW] : Cs := (sSeq (sSet 1 (eC (.v (.str "abcdefghijklmnopqrstuvwxyz0123456789")))) (sRet (eM "str" gJoin (eC (.v (.str ""))) (eCons (eLcG mkV (eRange1 (eCons (e2 gAdd (eC (.v (.int 1))) (eN F__law_draw (eCons (eVar 0) (eCons (eC (.v (.int 12))) eNil)))) eNil)) (.nm 2) bYes (e2 gIx (eVar 1) (eN F__law_draw (eCons (eVar 0) (eCons (eC (.v (.int 36))) eNil)))) [2]) eNil))))
noncomputable def F__law_ident [HW] : List D → C D := runF .frz 1 3 B__law_ident
abbrev s__law_version : Stmt := topS 15
abbrev N__law_version : List Str := ["pot", "kind"]
theorem sc__law_version : FnScope N__law_version ["pot"] (defScope s__law_version) := ⟨rfl, rfl, rfl, by decide +kernel, rfl, by decide +kernel, by decide +kernel⟩
@[reducible] noncomputable def B__law_version_1 [HW] : Cs := (sIf (eB (e2 gEq (eVar 1) (eC (.v (.int 3))))) (sRet (e2 gAdd (eC (.v (.int 1))) (eN F__law_draw (eCons (eVar 0) (eCons (e2 gPow (eC (.v (.int 10))) (eC (.v (.int 9)))) eNil))))) sPass)
@[reducible] noncomputable def B__law_version_2 [HW] : Cs := (sSeq B__law_version_1 (sRet (e2 gIx (eN (gLst mkV) (eCons (eC (.v (.int 1))) (eCons (e2 gAdd (eC (.v (.int 1))) (eN F__law_draw (eCons (eVar 0) (eCons (eC (.v (.int 12))) eNil)))) (eCons (e2 gPow (eC (.v (.int 10))) (eC (.v (.int 9)))) eNil)))) (eVar 1))))
@[reducible] noncomputable def B__law_version [HW] : Cs := (sSeq (sSet 1 (eN F__law_draw (eCons (eVar 0) (eCons (eC (.v (.int 4))) eNil)))) B__law_version_2)
noncomputable def F__law_version [HW] : List D → C D := runF .frz 1 2 B__law_version
abbrev s__law_some : Stmt := topS 16
abbrev N__law_some : List Str := ["pot", "names", "name"]
theorem sc__law_some : FnScope N__law_some ["pot", "names"] (defScope s__law_some) := ⟨rfl, rfl, rfl, by decide +kernel, rfl, by decide +kernel, by decide +kernel⟩
@[reducible] noncomputable def B__law_some_1 [HW] : Cs := (sIf (eB (e2 gEq (eN F__law_draw (eCons (eVar 0) (eCons (eC (.v (.int 3))) eNil))) (eC (.v (.int 0))))) (sRet (eN gTup eNil)) sPass)
@[reducible] noncomputable def B__law_some [HW] : Cs := (sSeq B__law_some_1 (sRet (eN gTupOf (eCons (eN (gSorted mkV) (eCons (eLcG mkV (eIt (eVar 1)) (.nm 2) (eB (e2 gEq (eN F__law_draw (eCons (eVar 0) (eCons (eC (.v (.int 2))) eNil))) (eC (.v (.int 1))))) (eVar 2) [2]) eNil)) eNil))))
noncomputable def F__law_some [HW] : List D → C D := runF .frz 2 3 B__law_some
abbrev s__law_cause : Stmt := topS 17
abbrev N__law_cause : List Str := ["pot", "names"]
theorem sc__law_cause : FnScope N__law_cause ["pot", "names"] (defScope s__law_cause) := ⟨rfl, rfl, rfl, by decide +kernel, rfl, by decide +kernel, by decide +kernel⟩
@[reducible] noncomputable def B__law_cause_1 [HW] : Cs := (sIf (eB (e2 gEq (eN F__law_draw (eCons (eVar 0) (eCons (eC (.v (.int 3))) eNil))) (eC (.v (.int 0))))) (sRet (eC (.v (.str "")))) sPass)
@[reducible] noncomputable def B__law_cause [HW] : Cs := (sSeq B__law_cause_1 (sRet (e2 gIx (eVar 1) (eN F__law_draw (eCons (eVar 0) (eCons (eN gLen (eCons (eVar 1) eNil)) eNil))))))
noncomputable def F__law_cause [HW] : List D → C D := runF .frz 2 2 B__law_cause
abbrev s__law_stretch : Stmt := topS 12
abbrev N__law_stretch : List Str := ["pot", "first"]
theorem sc__law_stretch : FnScope N__law_stretch ["pot"] (defScope s__law_stretch) := ⟨rfl, rfl, rfl, by decide +kernel, rfl, by decide +kernel, by decide +kernel⟩
@[reducible] noncomputable def B__law_stretch [HW] : Cs := (sSeq (sSet 1 (eN F__law_draw (eCons (eVar 0) (eCons (eC (.v (.int 720))) eNil)))) (sRet (eN gTup (eCons (eVar 1) (eCons (e2 gAdd (e2 gAdd (eVar 1) (eC (.v (.int 1)))) (eN F__law_draw (eCons (eVar 0) (eCons (e2 gSub (eC (.v (.int 720))) (eVar 1)) eNil)))) eNil)))))
noncomputable def F__law_stretch [HW] : List D → C D := runF .frz 1 2 B__law_stretch
abbrev s__law_content : Stmt := topS 13
abbrev N__law_content : List Str := ["pot", "names", "kind", "person", "place", "other", "first", "end"]
theorem sc__law_content : FnScope N__law_content ["pot", "names"] (defScope s__law_content) := ⟨rfl, rfl, rfl, by decide +kernel, rfl, by decide +kernel, by decide +kernel⟩
@[reducible] noncomputable def B__law_content_1 [HW] : Cs := (sIf (eB (e2 gEq (eVar 2) (eC (.v (.int 0))))) (sRet (eC (.v .non))) sPass)
@[reducible] noncomputable def B__law_content_2 [HW] : Cs := (sIf (eB (e2 gEq (eVar 2) (eC (.v (.int 1))))) (sRet (eN gTup (eCons (eC (.v (.str "born"))) (eCons (eVar 3) (eCons (e2 gSub (eN F__law_draw (eCons (eVar 0) (eCons (eC (.v (.int 36720))) eNil))) (eC (.v (.int 36000)))) eNil))))) sPass)
@[reducible] noncomputable def B__law_content_3 [HW] : Cs := (sIf (eB (e2 gEq (eVar 2) (eC (.v (.int 2))))) (sRet (eN gTup (eCons (eC (.v (.str "home"))) (eCons (eVar 3) (eCons (e2 gIx (eVar 1) (eVar 4)) (eCons (eVar 6) (eCons (eVar 7) eNil))))))) sPass)
@[reducible] noncomputable def B__law_content_4 [HW] : Cs := (sIf (eB (e2 gEq (eVar 2) (eC (.v (.int 3))))) (sRet (eN gTup (eCons (eC (.v (.str "merge"))) (eCons (e2 gIx (eVar 1) (eVar 4)) (eCons (e2 gIx (eVar 1) (eVar 5)) (eCons (eVar 6) (eCons (eVar 7) eNil))))))) sPass)
@[reducible] noncomputable def B__law_content_5 [HW] : Cs := (sIf (eB (e2 gEq (eVar 2) (eC (.v (.int 4))))) (sRet (eN gTup (eCons (eC (.v (.str "earns"))) (eCons (eVar 3) (eCons (e2 gAdd (eC (.v (.int 1))) (eN F__law_draw (eCons (eVar 0) (eCons (e2 gPow (eC (.v (.int 10))) (eC (.v (.int 9)))) eNil)))) (eCons (eVar 6) (eCons (eVar 7) eNil))))))) sPass)
@[reducible] noncomputable def B__law_content_6 [HW] : Cs := (sIf (eB (e2 gEq (eVar 2) (eC (.v (.int 5))))) (sRet (eN gTup (eCons (eC (.v (.str "mark"))) (eCons (eVar 3) (eCons (e2 gIx (eVar 1) (eVar 4)) (eCons (eVar 6) (eCons (eVar 7) eNil))))))) sPass)
@[reducible] noncomputable def B__law_content_7 [HW] : Cs := (sIf (eB (e2 gEq (eVar 2) (eC (.v (.int 6))))) (sRet (eN gTup (eCons (eC (.v (.str "claim"))) (eCons (eVar 3) (eCons (e2 gIx (eVar 1) (eVar 4)) (eCons (eVar 6) eNil)))))) sPass)
@[reducible] noncomputable def B__law_content_8 [HW] : Cs := (sSeq B__law_content_7 (sRet (eN gTup (eCons (eC (.v (.str "ruling"))) (eCons (eVar 3) (eCons (e2 gIx (eVar 1) (eVar 4)) (eCons (eN F__law_draw (eCons (eVar 0) (eCons (e2 gAdd (e2 gPow (eC (.v (.int 10))) (eC (.v (.int 9)))) (eC (.v (.int 1)))) eNil))) (eCons (eVar 6) (eCons (eVar 7) eNil)))))))))
@[reducible] noncomputable def B__law_content_9 [HW] : Cs := (sSeq B__law_content_6 B__law_content_8)
@[reducible] noncomputable def B__law_content_10 [HW] : Cs := (sSeq B__law_content_5 B__law_content_9)
@[reducible] noncomputable def B__law_content_11 [HW] : Cs := (sSeq B__law_content_4 B__law_content_10)
@[reducible] noncomputable def B__law_content_12 [HW] : Cs := (sSeq B__law_content_3 B__law_content_11)
@[reducible] noncomputable def B__law_content_13 [HW] : Cs := (sSeq B__law_content_2 B__law_content_12)
@[reducible] noncomputable def B__law_content_14 [HW] : Cs := (sSeq B__law_content_1 B__law_content_13)
@[reducible] noncomputable def B__law_content_15 [HW] : Cs := (sSeq (sAsg (.tp [(.nm 6), (.nm 7)]) (eN F__law_stretch (eCons (eVar 0) eNil))) B__law_content_14)
@[reducible] noncomputable def B__law_content_16 [HW] : Cs := (sSeq (sSet 5 (e2 gMod (eN gInt (eCons (e2 gAdd (e2 gAdd (eVar 4) (eC (.v (.int 1)))) (eN F__law_draw (eCons (eVar 0) (eCons (e2 gSub (eN gLen (eCons (eVar 1) eNil)) (eC (.v (.int 1)))) eNil)))) eNil)) (eN gLen (eCons (eVar 1) eNil)))) B__law_content_15)
@[reducible] noncomputable def B__law_content_17 [HW] : Cs := (sSeq (sSet 4 (eN F__law_draw (eCons (eVar 0) (eCons (eN gLen (eCons (eVar 1) eNil)) eNil)))) B__law_content_16)
@[reducible] noncomputable def B__law_content_18 [HW] : Cs := (sSeq (sSet 3 (e2 gIx (eVar 1) (eN F__law_draw (eCons (eVar 0) (eCons (eN gLen (eCons (eVar 1) eNil)) eNil))))) B__law_content_17)
@[reducible] noncomputable def B__law_content [HW] : Cs := (sSeq (sSet 2 (eN F__law_draw (eCons (eVar 0) (eCons (eC (.v (.int 8))) eNil)))) B__law_content_18)
noncomputable def F__law_content [HW] : List D → C D := runF .frz 2 8 B__law_content
abbrev s__law_note : Stmt := topS 18
abbrev N__law_note : List Str := ["pot", "names", "ident", "version", "persons", "cause"]
theorem sc__law_note : FnScope N__law_note ["pot", "names"] (defScope s__law_note) := ⟨rfl, rfl, rfl, by decide +kernel, rfl, by decide +kernel, by decide +kernel⟩
@[reducible] noncomputable def B__law_note_1 [HW] : Cs := (sSeq (sSet 5 (eN F__law_cause (eCons (eVar 0) (eCons (eVar 1) eNil)))) (sRet (eN gTup (eCons (eVar 2) (eCons (eVar 3) (eCons (eVar 4) (eCons (eVar 5) (eCons (eN F__law_content (eCons (eVar 0) (eCons (eVar 1) eNil))) eNil))))))))
@[reducible] noncomputable def B__law_note_2 [HW] : Cs := (sSeq (sSet 4 (eN F__law_some (eCons (eVar 0) (eCons (eVar 1) eNil)))) B__law_note_1)
@[reducible] noncomputable def B__law_note_3 [HW] : Cs := (sSeq (sSet 3 (eN F__law_version (eCons (eVar 0) eNil))) B__law_note_2)
@[reducible] noncomputable def B__law_note [HW] : Cs := (sSeq (sSet 2 (eN F__law_ident (eCons (eVar 0) eNil))) B__law_note_3)
noncomputable def F__law_note [HW] : List D → C D := runF .frz 2 6 B__law_note
abbrev s__law_near : Stmt := topS 19
abbrev N__law_near : List Str := ["pot", "names", "note", "ident", "version", "persons", "cause", "content", "field"]
theorem sc__law_near : FnScope N__law_near ["pot", "names", "note"] (defScope s__law_near) := ⟨rfl, rfl, rfl, by decide +kernel, rfl, by decide +kernel, by decide +kernel⟩
@[reducible] noncomputable def B__law_near_1 [HW] : Cs := (sIf (eB (e2 gEq (eVar 8) (eC (.v (.int 0))))) (sSet 3 (eN F__law_ident (eCons (eVar 0) eNil))) sPass)
@[reducible] noncomputable def B__law_near_2 [HW] : Cs := (sIf (eB (e2 gEq (eVar 8) (eC (.v (.int 1))))) (sSet 4 (eN F__law_version (eCons (eVar 0) eNil))) sPass)
@[reducible] noncomputable def B__law_near_3 [HW] : Cs := (sIf (eB (e2 gEq (eVar 8) (eC (.v (.int 2))))) (sSet 5 (eN F__law_some (eCons (eVar 0) (eCons (eVar 1) eNil)))) sPass)
@[reducible] noncomputable def B__law_near_4 [HW] : Cs := (sIf (eB (e2 gEq (eVar 8) (eC (.v (.int 3))))) (sSet 6 (eN F__law_cause (eCons (eVar 0) (eCons (eVar 1) eNil)))) sPass)
@[reducible] noncomputable def B__law_near_5 [HW] : Cs := (sIf (eB (e2 gEq (eVar 8) (eC (.v (.int 4))))) (sSet 7 (eN F__law_content (eCons (eVar 0) (eCons (eVar 1) eNil)))) sPass)
@[reducible] noncomputable def B__law_near_6 [HW] : Cs := (sSeq B__law_near_5 (sRet (eN gTup (eCons (eVar 3) (eCons (eVar 4) (eCons (eVar 5) (eCons (eVar 6) (eCons (eVar 7) eNil))))))))
@[reducible] noncomputable def B__law_near_7 [HW] : Cs := (sSeq B__law_near_4 B__law_near_6)
@[reducible] noncomputable def B__law_near_8 [HW] : Cs := (sSeq B__law_near_3 B__law_near_7)
@[reducible] noncomputable def B__law_near_9 [HW] : Cs := (sSeq B__law_near_2 B__law_near_8)
@[reducible] noncomputable def B__law_near_10 [HW] : Cs := (sSeq B__law_near_1 B__law_near_9)
@[reducible] noncomputable def B__law_near_11 [HW] : Cs := (sSeq (sSet 8 (eN F__law_draw (eCons (eVar 0) (eCons (eC (.v (.int 5))) eNil)))) B__law_near_10)
@[reducible] noncomputable def B__law_near [HW] : Cs := (sSeq (sAsg (.tp [(.nm 3), (.nm 4), (.nm 5), (.nm 6), (.nm 7)]) (eVar 2)) B__law_near_11)
noncomputable def F__law_near [HW] : List D → C D := runF .frz 3 9 B__law_near
abbrev s__law_pool : Stmt := topS 20
abbrev N__law_pool : List Str := ["script", "names", "pot", "pool", "k"]
theorem sc__law_pool : FnScope N__law_pool ["script"] (defScope s__law_pool) := ⟨rfl, rfl, rfl, by decide +kernel, rfl, by decide +kernel, by decide +kernel⟩
@[reducible] noncomputable def B__law_pool_1 [HW] : Cs := (sIf (eB (e2 gEq (eN F__law_draw (eCons (eVar 2) (eCons (eC (.v (.int 3))) eNil))) (eC (.v (.int 0))))) (sExpr (eM "list" gAppend (eVar 3) (eCons (eN F__law_note (eCons (eVar 2) (eCons (eVar 1) eNil))) eNil))) (sExpr (eM "list" gAppend (eVar 3) (eCons (eN F__law_near (eCons (eVar 2) (eCons (eVar 1) (eCons (e2 gIx (eVar 3) (eN F__law_draw (eCons (eVar 2) (eCons (eN gLen (eCons (eVar 3) eNil)) eNil)))) eNil)))) eNil))))
@[reducible] noncomputable def B__law_pool_2 [HW] : Cs := B__law_pool_1
@[reducible] noncomputable def B__law_pool_3 [HW] : Cs := (sFor (eRange1 (eCons (eN F__law_draw (eCons (eVar 2) (eCons (eC (.v (.int 5))) eNil))) eNil)) (.nm 4) B__law_pool_2)
@[reducible] noncomputable def B__law_pool_4 [HW] : Cs := (sSeq B__law_pool_3 (sRet (eVar 3)))
@[reducible] noncomputable def B__law_pool_5 [HW] : Cs := (sSeq (sSet 3 (eN (gLst mkH) (eCons (eN F__law_note (eCons (eVar 2) (eCons (eVar 1) eNil))) eNil))) B__law_pool_4)
@[reducible] noncomputable def B__law_pool_6 [HW] : Cs := (sSeq (sSet 2 (eN F__law_pot (eCons (eVar 0) (eCons (eC (.v (.int 1))) eNil)))) B__law_pool_5)
@[reducible] noncomputable def B__law_pool [HW] : Cs := (sSeq (sSet 1 (eN F__law_names (eCons (eN F__law_pot (eCons (eVar 0) (eCons (eC (.v (.int 0))) eNil))) (eCons (eC (.v (.int 6))) eNil)))) B__law_pool_6)
noncomputable def F__law_pool [HW] : List D → C D := runF .frz 1 5 B__law_pool
abbrev s__law_repeated : Stmt := topS 26
abbrev N__law_repeated : List Str := ["pot", "journal", "notes", "entry"]
theorem sc__law_repeated : FnScope N__law_repeated ["pot", "journal"] (defScope s__law_repeated) := ⟨rfl, rfl, rfl, by decide +kernel, rfl, by decide +kernel, by decide +kernel⟩
@[reducible] noncomputable def B__law_repeated_1 [HW] : Cs := (sIf (bOr (eB (e2 gNe (eN F__law_draw (eCons (eVar 0) (eCons (eC (.v (.int 16))) eNil))) (eC (.v (.int 0))))) (eB (e2 gEq (eN gLen (eCons (eVar 1) eNil)) (eC (.v (.int 0)))))) (sRet (eN (gListOf mkV) (eCons (eVar 1) eNil))) sPass)
@[reducible] noncomputable def B__law_repeated_2 [HW] : Cs := (sSeq B__law_repeated_1 (sRet (e2 (gRepL mkV) (eVar 1) (e2 gDiv (eC (.v (.int 396))) (eN gMax2 (eCons (eVar 2) (eCons (e2 gSub (eN gLen (eCons (eVar 1) eNil)) (eVar 2)) eNil)))))))
@[reducible] noncomputable def B__law_repeated [HW] : Cs := (sSeq (sSet 2 (eN gLen (eCons (eLcG mkV (eIt (eVar 1)) (.nm 3) (eB (e2 gEq (e2 gIx (eVar 3) (eC (.v (.int 0)))) (eC (.v (.str "learn"))))) (eVar 3) [3]) eNil))) B__law_repeated_2)
noncomputable def F__law_repeated [HW] : List D → C D := runF .frz 2 4 B__law_repeated
abbrev s__split : Stmt := topS 4
abbrev N__split : List Str := ["journal", "days", "parts", "word", "content"]
theorem sc__split : FnScope N__split ["journal"] (defScope s__split) := ⟨rfl, rfl, rfl, by decide +kernel, rfl, by decide +kernel, by decide +kernel⟩
@[reducible] noncomputable def B__split_1 [HW] : Cs := (sIf (eB (e2 gEq (eVar 3) (eC (.v (.str "run"))))) (sSeq (sExpr (eM "list" gAppend (eVar 1) (eCons (eVar 4) eNil))) (sExpr (eM "list" gAppend (eVar 2) (eCons (eN (gLst mkH) eNil) eNil)))) (sExpr (eM "list" gAppend (e2 gIx (eVar 2) (e1 gNeg (eC (.v (.int 1))))) (eCons (eVar 4) eNil))))
@[reducible] noncomputable def B__split_2 [HW] : Cs := B__split_1
@[reducible] noncomputable def B__split_3 [HW] : Cs := (sFor (eIt (eVar 0)) (.tp [(.nm 3), (.nm 4)]) B__split_2)
@[reducible] noncomputable def B__split_4 [HW] : Cs := (sSeq B__split_3 (sRet (eN gTup (eCons (eVar 1) (eCons (eVar 2) eNil)))))
@[reducible] noncomputable def B__split_5 [HW] : Cs := (sSeq (sSet 2 (eN (gLst mkH) (eCons (eN (gLst mkH) eNil) eNil))) B__split_4)
@[reducible] noncomputable def B__split [HW] : Cs := (sSeq (sSet 1 (eN (gLst mkH) eNil)) B__split_5)
noncomputable def F__split [HW] : List D → C D := runF .dfr 1 5 B__split
abbrev s__counts : Stmt := topS 5
abbrev N__counts : List Str := ["notes", "found", "note"]
theorem sc__counts : FnScope N__counts ["notes"] (defScope s__counts) := ⟨rfl, rfl, rfl, by decide +kernel, rfl, by decide +kernel, by decide +kernel⟩
@[reducible] noncomputable def B__counts_1 [HW] : Cs := (sNPutD (eVar 1) (eVar 2) (e2 gAdd (eNGet2 (eVar 1) (eVar 2) (eC (.v (.int 0)))) (eC (.v (.int 1)))))
@[reducible] noncomputable def B__counts_2 [HW] : Cs := (sFor (eIt (eVar 0)) (.nm 2) B__counts_1)
@[reducible] noncomputable def B__counts_3 [HW] : Cs := (sSeq B__counts_2 (sRet (eVar 1)))
@[reducible] noncomputable def B__counts [HW] : Cs := (sSeq (sSet 1 eDNewN) B__counts_3)
noncomputable def F__counts [HW] : List D → C D := runF .frz 1 3 B__counts
abbrev s_stretch_like : Stmt := topS 1
abbrev N_stretch_like : List Str := ["one", "two", "days", "parts", "other_days", "other_parts", "part"]
theorem sc_stretch_like : FnScope N_stretch_like ["one", "two"] (defScope s_stretch_like) := ⟨rfl, rfl, rfl, by decide +kernel, rfl, by decide +kernel, by decide +kernel⟩
@[reducible] noncomputable def B_stretch_like_1 [HW] : Cs := (sIf (eB (e2 gNe (eVar 2) (eVar 4))) (sRet (eC (.v (.bl false)))) sPass)
@[reducible] noncomputable def B_stretch_like_2 [HW] : Cs := (sSeq B_stretch_like_1 (sRet (e2 gEqA (eLcG mkV (eIt (eVar 3)) (.nm 6) bYes (eN F__counts (eCons (eVar 6) eNil)) [6]) (eLcG mkV (eIt (eVar 5)) (.nm 6) bYes (eN F__counts (eCons (eVar 6) eNil)) [6]))))
@[reducible] noncomputable def B_stretch_like_3 [HW] : Cs := (sSeq (sAsg (.tp [(.nm 4), (.nm 5)]) (eN F__split (eCons (eVar 1) eNil))) B_stretch_like_2)
@[reducible] noncomputable def B_stretch_like [HW] : Cs := (sSeq (sAsg (.tp [(.nm 2), (.nm 3)]) (eN F__split (eCons (eVar 0) eNil))) B_stretch_like_3)
noncomputable def F_stretch_like [HW] : List D → C D := runF .frz 2 7 B_stretch_like
abbrev s_run_like : Stmt := topS 2
abbrev N_run_like : List Str := ["one", "two", "days", "parts", "other_days", "other_parts", "notes", "other_notes", "part", "note"]
theorem sc_run_like : FnScope N_run_like ["one", "two"] (defScope s_run_like) := ⟨rfl, rfl, rfl, by decide +kernel, rfl, by decide +kernel, by decide +kernel⟩
@[reducible] noncomputable def B_run_like_1 [HW] : Cs := (sIf (eB (e2 gNe (eVar 2) (eVar 4))) (sRet (eC (.v (.bl false)))) sPass)
@[reducible] noncomputable def B_run_like_2 [HW] : Cs := (sSeq (sSet 7 (eLc2 mkV (eIt (eVar 5)) (.nm 8) bYes (eIt (eVar 8)) (.nm 9) bYes (eVar 9) [8, 9] [9])) (sRet (e2 gEqA (eN F__counts (eCons (eVar 6) eNil)) (eN F__counts (eCons (eVar 7) eNil)))))
@[reducible] noncomputable def B_run_like_3 [HW] : Cs := (sSeq (sSet 6 (eLc2 mkV (eIt (eVar 3)) (.nm 8) bYes (eIt (eVar 8)) (.nm 9) bYes (eVar 9) [8, 9] [9])) B_run_like_2)
@[reducible] noncomputable def B_run_like_4 [HW] : Cs := (sSeq B_run_like_1 B_run_like_3)
@[reducible] noncomputable def B_run_like_5 [HW] : Cs := (sSeq (sAsg (.tp [(.nm 4), (.nm 5)]) (eN F__split (eCons (eVar 1) eNil))) B_run_like_4)
@[reducible] noncomputable def B_run_like [HW] : Cs := (sSeq (sAsg (.tp [(.nm 2), (.nm 3)]) (eN F__split (eCons (eVar 0) eNil))) B_run_like_5)
noncomputable def F_run_like [HW] : List D → C D := runF .frz 2 10 B_run_like
abbrev s_alike : Stmt := topS 3
abbrev N_alike : List Str := ["one", "two", "over"]
theorem sc_alike : FnScope N_alike ["one", "two", "over"] (defScope s_alike) := ⟨rfl, rfl, rfl, by decide +kernel, rfl, by decide +kernel, by decide +kernel⟩
@[reducible] noncomputable def B_alike_1 [HW] : Cs := (sIf (eB (e2 gEq (eVar 2) (eC (.v (.str "stretch"))))) (sRet (eN F_stretch_like (eCons (eVar 0) (eCons (eVar 1) eNil)))) sPass)
@[reducible] noncomputable def B_alike [HW] : Cs := (sSeq B_alike_1 (sRet (eN F_run_like (eCons (eVar 0) (eCons (eVar 1) eNil)))))
noncomputable def F_alike [HW] : List D → C D := runF .frz 3 3 B_alike
abbrev s__law_answers : Stmt := topS 30
abbrev N__law_answers : List Str := ["left", "right", "due", "first", "second", "told", "answer"]
theorem sc__law_answers : FnScope N__law_answers ["left", "right", "due"] (defScope s__law_answers) := ⟨rfl, rfl, rfl, by decide +kernel, rfl, by decide +kernel, by decide +kernel⟩
@[reducible] noncomputable def B__law_answers_1 [HW] : Cs := (sIf (bNot (eT (eN gIsi (eCons (eVar 6) (eCons (eC (.v (.ty "bool"))) eNil))))) (sRet (eC (.v (.bl false)))) sPass)
@[reducible] noncomputable def B__law_answers_2 [HW] : Cs := B__law_answers_1
@[reducible] noncomputable def B__law_answers_3 [HW] : Cs := (sFor (eIt (eVar 5)) (.nm 6) B__law_answers_2)
@[reducible] noncomputable def B__law_answers_4 [HW] : Cs := (sSeq B__law_answers_3 (sRet (eAndV (e2 gEq (eVar 5) (e2 gAdd (eVar 2) (eVar 2))) (eAndV (e2 gEq (eVar 3) (eVar 0)) (e2 gEq (eVar 4) (eVar 1))))))
@[reducible] noncomputable def B__law_answers_5 [HW] : Cs := (sSeq (sSet 5 (e2 gAdd (eVar 5) (eN (gLst mkV) (eCons (eN F_alike (eCons (eVar 3) (eCons (eVar 4) (eCons (eC (.v (.str "stretch"))) eNil)))) (eCons (eN F_alike (eCons (eVar 3) (eCons (eVar 4) (eCons (eC (.v (.str "runs"))) eNil)))) eNil))))) B__law_answers_4)
@[reducible] noncomputable def B__law_answers_6 [HW] : Cs := (sSeq (sSet 5 (eN (gLst mkV) (eCons (eN F_stretch_like (eCons (eVar 3) (eCons (eVar 4) eNil))) (eCons (eN F_run_like (eCons (eVar 3) (eCons (eVar 4) eNil))) eNil)))) B__law_answers_5)
@[reducible] noncomputable def B__law_answers_7 [HW] : Cs := (sSeq (sSet 4 (eN (gListOf mkV) (eCons (eVar 1) eNil))) B__law_answers_6)
@[reducible] noncomputable def B__law_answers [HW] : Cs := (sSeq (sSet 3 (eN (gListOf mkV) (eCons (eVar 0) eNil))) B__law_answers_7)
noncomputable def F__law_answers [HW] : List D → C D := runF .frz 3 7 B__law_answers
abbrev s__law_fixed : Stmt := topS 31
abbrev N__law_fixed : List Str := ["pool", "tail", "day", "one", "other", "cut"]
theorem sc__law_fixed : FnScope N__law_fixed ["pool", "tail", "day"] (defScope s__law_fixed) := ⟨rfl, rfl, rfl, by decide +kernel, rfl, by decide +kernel, by decide +kernel⟩
@[reducible] noncomputable def B__law_fixed_1 [HW] : Cs := (sIf (bNot (eT (eN F__law_answers (eCons (eVar 1) (eCons (eVar 1) (eCons (eN (gLst mkV) (eCons (eC (.v (.bl true))) (eCons (eC (.v (.bl true))) eNil))) eNil)))))) (sRet (eC (.v (.bl false)))) sPass)
@[reducible] noncomputable def B__law_fixed_2 [HW] : Cs := (sIf (bNot (eT (eN F__law_answers (eCons (e2 gAdd (e2 gAdd (eVar 3) (eVar 4)) (eVar 1)) (eCons (e2 gAdd (e2 gAdd (eVar 4) (eVar 3)) (eVar 1)) (eCons (eN (gLst mkV) (eCons (eC (.v (.bl true))) (eCons (eC (.v (.bl true))) eNil))) eNil)))))) (sRet (eC (.v (.bl false)))) sPass)
@[reducible] noncomputable def B__law_fixed_3 [HW] : Cs := (sIf (bNot (eT (eN F__law_answers (eCons (e2 gAdd (e2 gAdd (eVar 3) (eVar 5)) (eVar 1)) (eCons (e2 gAdd (e2 gAdd (eVar 5) (eVar 3)) (eVar 1)) (eCons (eN (gLst mkV) (eCons (eC (.v (.bl false))) (eCons (eC (.v (.bl true))) eNil))) eNil)))))) (sRet (eC (.v (.bl false)))) sPass)
@[reducible] noncomputable def B__law_fixed_4 [HW] : Cs := (sIf (bNot (eT (eN F__law_answers (eCons (e2 gAdd (e2 gAdd (eVar 3) (eVar 5)) (eVar 1)) (eCons (e2 gAdd (eVar 5) (eVar 1)) (eCons (eN (gLst mkV) (eCons (eC (.v (.bl false))) (eCons (eC (.v (.bl false))) eNil))) eNil)))))) (sRet (eC (.v (.bl false)))) sPass)
@[reducible] noncomputable def B__law_fixed_5 [HW] : Cs := (sIf (bNot (eT (eN F__law_answers (eCons (e2 gAdd (eVar 5) (eVar 1)) (eCons (eVar 1) (eCons (eN (gLst mkV) (eCons (eC (.v (.bl false))) (eCons (eC (.v (.bl false))) eNil))) eNil)))))) (sRet (eC (.v (.bl false)))) sPass)
@[reducible] noncomputable def B__law_fixed_6 [HW] : Cs := (sSeq B__law_fixed_5 (sRet (eN F__law_answers (eCons (e2 gAdd (eVar 1) (eVar 3)) (eCons (eVar 1) (eCons (eN (gLst mkV) (eCons (eC (.v (.bl false))) (eCons (eC (.v (.bl false))) eNil))) eNil))))))
@[reducible] noncomputable def B__law_fixed_7 [HW] : Cs := (sSeq B__law_fixed_4 B__law_fixed_6)
@[reducible] noncomputable def B__law_fixed_8 [HW] : Cs := (sSeq B__law_fixed_3 B__law_fixed_7)
@[reducible] noncomputable def B__law_fixed_9 [HW] : Cs := (sSeq B__law_fixed_2 B__law_fixed_8)
@[reducible] noncomputable def B__law_fixed_10 [HW] : Cs := (sSeq B__law_fixed_1 B__law_fixed_9)
@[reducible] noncomputable def B__law_fixed_11 [HW] : Cs := (sSeq (sSet 5 (eN (gLst mkV) (eCons (eN gTup (eCons (eC (.v (.str "run"))) (eCons (eVar 2) eNil))) eNil))) B__law_fixed_10)
@[reducible] noncomputable def B__law_fixed_12 [HW] : Cs := (sSeq (sSet 4 (eN (gLst mkV) (eCons (eN gTup (eCons (eC (.v (.str "learn"))) (eCons (e2 gIx (eVar 0) (e1 gNeg (eC (.v (.int 1))))) eNil))) eNil))) B__law_fixed_11)
@[reducible] noncomputable def B__law_fixed [HW] : Cs := (sSeq (sSet 3 (eN (gLst mkV) (eCons (eN gTup (eCons (eC (.v (.str "learn"))) (eCons (e2 gIx (eVar 0) (eC (.v (.int 0)))) eNil))) eNil))) B__law_fixed_12)
noncomputable def F__law_fixed [HW] : List D → C D := runF .frz 3 6 B__law_fixed
abbrev s__law_day : Stmt := topS 21
abbrev N__law_day : List Str := ["pot"]
theorem sc__law_day : FnScope N__law_day ["pot"] (defScope s__law_day) := ⟨rfl, rfl, rfl, by decide +kernel, rfl, by decide +kernel, by decide +kernel⟩
@[reducible] noncomputable def B__law_day_1 [HW] : Cs := (sIf (eB (e2 gEq (eN F__law_draw (eCons (eVar 0) (eCons (eC (.v (.int 3))) eNil))) (eC (.v (.int 0))))) (sRet (eN F__law_draw (eCons (eVar 0) (eCons (eC (.v (.int 721))) eNil)))) sPass)
@[reducible] noncomputable def B__law_day [HW] : Cs := (sSeq B__law_day_1 (sRet (eN F__law_draw (eCons (eVar 0) (eCons (eC (.v (.int 9))) eNil)))))
noncomputable def F__law_day [HW] : List D → C D := runF .frz 1 1 B__law_day
abbrev s__law_entry : Stmt := topS 22
abbrev N__law_entry : List Str := ["pot", "pool"]
theorem sc__law_entry : FnScope N__law_entry ["pot", "pool"] (defScope s__law_entry) := ⟨rfl, rfl, rfl, by decide +kernel, rfl, by decide +kernel, by decide +kernel⟩
@[reducible] noncomputable def B__law_entry_1 [HW] : Cs := (sIf (eB (e2 gEq (eN F__law_draw (eCons (eVar 0) (eCons (eC (.v (.int 3))) eNil))) (eC (.v (.int 0))))) (sRet (eN gTup (eCons (eC (.v (.str "run"))) (eCons (eN F__law_day (eCons (eVar 0) eNil)) eNil)))) sPass)
@[reducible] noncomputable def B__law_entry [HW] : Cs := (sSeq B__law_entry_1 (sRet (eN gTup (eCons (eC (.v (.str "learn"))) (eCons (e2 gIx (eVar 1) (eN F__law_draw (eCons (eVar 0) (eCons (eN gLen (eCons (eVar 1) eNil)) eNil)))) eNil)))))
noncomputable def F__law_entry [HW] : List D → C D := runF .frz 2 2 B__law_entry
abbrev s__law_journal : Stmt := topS 23
abbrev N__law_journal : List Str := ["pot", "pool", "k"]
theorem sc__law_journal : FnScope N__law_journal ["pot", "pool"] (defScope s__law_journal) := ⟨rfl, rfl, rfl, by decide +kernel, rfl, by decide +kernel, by decide +kernel⟩
@[reducible] noncomputable def B__law_journal [HW] : Cs := (sRet (eLcG mkV (eRange1 (eCons (eN F__law_draw (eCons (eVar 0) (eCons (eC (.v (.int 13))) eNil))) eNil)) (.nm 2) bYes (eN F__law_entry (eCons (eVar 0) (eCons (eVar 1) eNil))) [2]))
noncomputable def F__law_journal [HW] : List D → C D := runF .frz 2 3 B__law_journal
abbrev s__law_flipped : Stmt := topS 24
abbrev N__law_flipped : List Str := ["journal", "place", "low", "high"]
theorem sc__law_flipped : FnScope N__law_flipped ["journal", "place"] (defScope s__law_flipped) := ⟨rfl, rfl, rfl, by decide +kernel, rfl, by decide +kernel, by decide +kernel⟩
@[reducible] noncomputable def B__law_flipped_1 [HW] : Cs := (sSet 2 (e2 gSub (eVar 2) (eC (.v (.int 1)))))
@[reducible] noncomputable def B__law_flipped_2 [HW] : Cs := (sWhile (fun _ _ => 300000) (bAnd (eB (e2 gGt (eVar 2) (eC (.v (.int 0))))) (eB (e2 gEq (e2 gIx (e2 gIx (eVar 0) (e2 gSub (eVar 2) (eC (.v (.int 1))))) (eC (.v (.int 0)))) (eC (.v (.str "learn")))))) B__law_flipped_1)
@[reducible] noncomputable def B__law_flipped_3 [HW] : Cs := (sSet 3 (e2 gAdd (eVar 3) (eC (.v (.int 1)))))
@[reducible] noncomputable def B__law_flipped_4 [HW] : Cs := (sWhile (fun _ _ => 300000) (bAnd (eB (e2 gLt (eVar 3) (eN gLen (eCons (eVar 0) eNil)))) (eB (e2 gEq (e2 gIx (e2 gIx (eVar 0) (eVar 3)) (eC (.v (.int 0)))) (eC (.v (.str "learn")))))) B__law_flipped_3)
@[reducible] noncomputable def B__law_flipped_5 [HW] : Cs := (sSeq B__law_flipped_4 (sRet (e2 gAdd (e2 gAdd (eSl (eVar 0) oNo (oYes (eVar 2))) (e1 (gRevL mkV) (eSl (eVar 0) (oYes (eVar 2)) (oYes (eVar 3))))) (eSl (eVar 0) (oYes (eVar 3)) oNo))))
@[reducible] noncomputable def B__law_flipped_6 [HW] : Cs := (sSeq (sSet 3 (eVar 1)) B__law_flipped_5)
@[reducible] noncomputable def B__law_flipped_7 [HW] : Cs := (sSeq B__law_flipped_2 B__law_flipped_6)
@[reducible] noncomputable def B__law_flipped [HW] : Cs := (sSeq (sSet 2 (eVar 1)) B__law_flipped_7)
noncomputable def F__law_flipped [HW] : List D → C D := runF .frz 2 4 B__law_flipped
abbrev s__law_turned : Stmt := topS 25
abbrev N__law_turned : List Str := ["pot", "pool", "journal", "kinds", "size", "kind", "place", "other", "rest"]
theorem sc__law_turned : FnScope N__law_turned ["pot", "pool", "journal", "kinds"] (defScope s__law_turned) := ⟨rfl, rfl, rfl, by decide +kernel, rfl, by decide +kernel, by decide +kernel⟩
@[reducible] noncomputable def B__law_turned_1 [HW] : Cs := (sIf (eB (e2 gEq (eVar 4) (eC (.v (.int 0))))) (sRet (eIf (eB (e2 gEq (eVar 5) (eC (.v (.int 5))))) (eN (gLst mkV) (eCons (eN F__law_entry (eCons (eVar 0) (eCons (eVar 1) eNil))) eNil)) (eN (gLst mkV) eNil))) sPass)
@[reducible] noncomputable def B__law_turned_2 [HW] : Cs := (sIf (eB (e2 gEq (eVar 5) (eC (.v (.int 0))))) (sSet 7 (eN gMin2 (eCons (e2 gAdd (eVar 6) (eC (.v (.int 1)))) (eCons (e2 gSub (eVar 4) (eC (.v (.int 1)))) eNil)))) sPass)
@[reducible] noncomputable def B__law_turned_3 [HW] : Cs := (sSeq (sStore (eVar 8) (eVar 7) (e2 gIx (eVar 2) (eVar 6))) (sRet (eVar 8)))
@[reducible] noncomputable def B__law_turned_4 [HW] : Cs := (sSeq (sStore (eVar 8) (eVar 6) (e2 gIx (eVar 2) (eVar 7))) B__law_turned_3)
@[reducible] noncomputable def B__law_turned_5 [HW] : Cs := (sIf (eB (e2 gLt (eVar 5) (eC (.v (.int 2))))) (sSeq (sSet 8 (eN (gListOf mkH) (eCons (eVar 2) eNil))) B__law_turned_4) sPass)
@[reducible] noncomputable def B__law_turned_6 [HW] : Cs := (sIf (eB (e2 gEq (eVar 5) (eC (.v (.int 2))))) (sRet (eVar 8)) sPass)
@[reducible] noncomputable def B__law_turned_7 [HW] : Cs := (sIf (eB (e2 gEq (eVar 5) (eC (.v (.int 3))))) (sRet (e2 gAdd (e2 gAdd (eSl (eVar 2) oNo (oYes (eVar 7))) (eN (gLst mkV) (eCons (e2 gIx (eVar 2) (eVar 6)) eNil))) (eSl (eVar 2) (oYes (eVar 7)) oNo))) sPass)
@[reducible] noncomputable def B__law_turned_8 [HW] : Cs := (sIf (eB (e2 gEq (eVar 5) (eC (.v (.int 4))))) (sRet (e2 gAdd (e2 gAdd (eSl (eVar 8) oNo (oYes (eVar 7))) (eN (gLst mkV) (eCons (e2 gIx (eVar 2) (eVar 6)) eNil))) (eSl (eVar 8) (oYes (eVar 7)) oNo))) sPass)
@[reducible] noncomputable def B__law_turned_9 [HW] : Cs := (sIf (eB (e2 gEq (eVar 5) (eC (.v (.int 5))))) (sRet (e2 gAdd (e2 gAdd (eSl (eVar 2) oNo (oYes (eVar 6))) (eN (gLst mkV) (eCons (eN F__law_entry (eCons (eVar 0) (eCons (eVar 1) eNil))) eNil))) (eSl (eVar 2) (oYes (e2 gAdd (eVar 6) (eC (.v (.int 1))))) oNo))) sPass)
@[reducible] noncomputable def B__law_turned_10 [HW] : Cs := (sIf (eB (e2 gEq (eVar 5) (eC (.v (.int 6))))) (sRet (eN F__law_flipped (eCons (eVar 2) (eCons (eVar 6) eNil)))) sPass)
@[reducible] noncomputable def B__law_turned_11 [HW] : Cs := (sSeq B__law_turned_10 (sRet (e1 (gRevL mkV) (eVar 2))))
@[reducible] noncomputable def B__law_turned_12 [HW] : Cs := (sSeq B__law_turned_9 B__law_turned_11)
@[reducible] noncomputable def B__law_turned_13 [HW] : Cs := (sSeq B__law_turned_8 B__law_turned_12)
@[reducible] noncomputable def B__law_turned_14 [HW] : Cs := (sSeq B__law_turned_7 B__law_turned_13)
@[reducible] noncomputable def B__law_turned_15 [HW] : Cs := (sSeq B__law_turned_6 B__law_turned_14)
@[reducible] noncomputable def B__law_turned_16 [HW] : Cs := (sSeq B__law_turned_5 B__law_turned_15)
@[reducible] noncomputable def B__law_turned_17 [HW] : Cs := (sSeq (sSet 8 (e2 gAddH (eSl (eVar 2) oNo (oYes (eVar 6))) (eSl (eVar 2) (oYes (e2 gAdd (eVar 6) (eC (.v (.int 1))))) oNo))) B__law_turned_16)
@[reducible] noncomputable def B__law_turned_18 [HW] : Cs := (sSeq B__law_turned_2 B__law_turned_17)
@[reducible] noncomputable def B__law_turned_19 [HW] : Cs := (sSeq (sSet 7 (eN F__law_draw (eCons (eVar 0) (eCons (eVar 4) eNil)))) B__law_turned_18)
@[reducible] noncomputable def B__law_turned_20 [HW] : Cs := (sSeq (sSet 6 (eN F__law_draw (eCons (eVar 0) (eCons (eVar 4) eNil)))) B__law_turned_19)
@[reducible] noncomputable def B__law_turned_21 [HW] : Cs := (sSeq B__law_turned_1 B__law_turned_20)
@[reducible] noncomputable def B__law_turned_22 [HW] : Cs := (sSeq (sSet 5 (e2 gIx (eVar 3) (eN F__law_draw (eCons (eVar 0) (eCons (eN gLen (eCons (eVar 3) eNil)) eNil))))) B__law_turned_21)
@[reducible] noncomputable def B__law_turned [HW] : Cs := (sSeq (sSet 4 (eN gLen (eCons (eVar 2) eNil))) B__law_turned_22)
noncomputable def F__law_turned [HW] : List D → C D := runF .frz 4 9 B__law_turned
abbrev s__law_parts : Stmt := topS 28
abbrev N__law_parts : List Str := ["journal", "days", "parts", "word", "value"]
theorem sc__law_parts : FnScope N__law_parts ["journal"] (defScope s__law_parts) := ⟨rfl, rfl, rfl, by decide +kernel, rfl, by decide +kernel, by decide +kernel⟩
@[reducible] noncomputable def B__law_parts_1 [HW] : Cs := (sIf (eB (e2 gEq (eVar 3) (eC (.v (.str "run"))))) (sSeq (sExpr (eM "list" gAppend (eVar 1) (eCons (eVar 4) eNil))) (sExpr (eM "list" gAppend (eVar 2) (eCons (eN (gLst mkH) eNil) eNil)))) (sExpr (eM "list" gAppend (e2 gIx (eVar 2) (e1 gNeg (eC (.v (.int 1))))) (eCons (eVar 4) eNil))))
@[reducible] noncomputable def B__law_parts_2 [HW] : Cs := B__law_parts_1
@[reducible] noncomputable def B__law_parts_3 [HW] : Cs := (sFor (eIt (eVar 0)) (.tp [(.nm 3), (.nm 4)]) B__law_parts_2)
@[reducible] noncomputable def B__law_parts_4 [HW] : Cs := (sSeq B__law_parts_3 (sRet (eN (gLst mkV) (eCons (eVar 1) (eCons (eVar 2) eNil)))))
@[reducible] noncomputable def B__law_parts_5 [HW] : Cs := (sSeq (sSet 2 (eN (gLst mkH) (eCons (eN (gLst mkH) eNil) eNil))) B__law_parts_4)
@[reducible] noncomputable def B__law_parts [HW] : Cs := (sSeq (sSet 1 (eN (gLst mkH) eNil)) B__law_parts_5)
noncomputable def F__law_parts [HW] : List D → C D := runF .dfr 1 5 B__law_parts
abbrev s__law_counted : Stmt := topS 27
abbrev N__law_counted : List Str := ["notes", "counts", "note"]
theorem sc__law_counted : FnScope N__law_counted ["notes"] (defScope s__law_counted) := ⟨rfl, rfl, rfl, by decide +kernel, rfl, by decide +kernel, by decide +kernel⟩
@[reducible] noncomputable def B__law_counted_1 [HW] : Cs := (sNPutD (eVar 1) (eVar 2) (e2 gAdd (eNGet2 (eVar 1) (eVar 2) (eC (.v (.int 0)))) (eC (.v (.int 1)))))
@[reducible] noncomputable def B__law_counted_2 [HW] : Cs := (sFor (eIt (eVar 0)) (.nm 2) B__law_counted_1)
@[reducible] noncomputable def B__law_counted_3 [HW] : Cs := (sSeq B__law_counted_2 (sRet (eVar 1)))
@[reducible] noncomputable def B__law_counted [HW] : Cs := (sSeq (sSet 1 eDNewN) B__law_counted_3)
noncomputable def F__law_counted [HW] : List D → C D := runF .frz 1 3 B__law_counted
abbrev s__law_due : Stmt := topS 29
abbrev N__law_due : List Str := ["left", "right", "first", "second", "same", "k", "mine", "others", "entry"]
theorem sc__law_due : FnScope N__law_due ["left", "right"] (defScope s__law_due) := ⟨rfl, rfl, rfl, by decide +kernel, rfl, by decide +kernel, by decide +kernel⟩
@[reducible] noncomputable def B__law_due_1 [HW] : Cs := (sIf (eB (e2 gNeA (e2 gIx (eVar 2) (eC (.v (.int 0)))) (e2 gIx (eVar 3) (eC (.v (.int 0)))))) (sRet (eN (gLst mkV) (eCons (eC (.v (.bl false))) (eCons (eC (.v (.bl false))) eNil)))) sPass)
@[reducible] noncomputable def B__law_due_2 [HW] : Cs := (sIf (eB (e2 gNeA (eN F__law_counted (eCons (e2 gIx (e2 gIx (eVar 2) (eC (.v (.int 1)))) (eVar 5)) eNil)) (eN F__law_counted (eCons (e2 gIx (e2 gIx (eVar 3) (eC (.v (.int 1)))) (eVar 5)) eNil)))) (sSet 4 (eC (.v (.bl false)))) sPass)
@[reducible] noncomputable def B__law_due_3 [HW] : Cs := B__law_due_2
@[reducible] noncomputable def B__law_due_4 [HW] : Cs := (sFor (eRange1 (eCons (eN gLen (eCons (e2 gIx (eVar 2) (eC (.v (.int 1)))) eNil)) eNil)) (.nm 5) B__law_due_3)
@[reducible] noncomputable def B__law_due_5 [HW] : Cs := (sSeq (sSet 7 (eLcG mkV (eIt (eVar 1)) (.nm 8) (eB (e2 gEq (e2 gIx (eVar 8) (eC (.v (.int 0)))) (eC (.v (.str "learn"))))) (e2 gIx (eVar 8) (eC (.v (.int 1)))) [8])) (sRet (eN (gLst mkV) (eCons (eVar 4) (eCons (e2 gEqA (eN F__law_counted (eCons (eVar 6) eNil)) (eN F__law_counted (eCons (eVar 7) eNil))) eNil)))))
@[reducible] noncomputable def B__law_due_6 [HW] : Cs := (sSeq (sSet 6 (eLcG mkV (eIt (eVar 0)) (.nm 8) (eB (e2 gEq (e2 gIx (eVar 8) (eC (.v (.int 0)))) (eC (.v (.str "learn"))))) (e2 gIx (eVar 8) (eC (.v (.int 1)))) [8])) B__law_due_5)
@[reducible] noncomputable def B__law_due_7 [HW] : Cs := (sSeq B__law_due_4 B__law_due_6)
@[reducible] noncomputable def B__law_due_8 [HW] : Cs := (sSeq (sSet 4 (eC (.v (.bl true)))) B__law_due_7)
@[reducible] noncomputable def B__law_due_9 [HW] : Cs := (sSeq B__law_due_1 B__law_due_8)
@[reducible] noncomputable def B__law_due_10 [HW] : Cs := (sSeq (sSet 3 (eN F__law_parts (eCons (eVar 1) eNil))) B__law_due_9)
@[reducible] noncomputable def B__law_due [HW] : Cs := (sSeq (sSet 2 (eN F__law_parts (eCons (eVar 0) eNil))) B__law_due_10)
noncomputable def F__law_due [HW] : List D → C D := runF .frz 2 9 B__law_due
abbrev s_law : Stmt := topS 32
abbrev N_law : List Str := ["script", "pool", "pot", "left", "right", "kinds", "turn", "tail", "pairs", "first", "second"]
theorem sc_law : FnScope N_law ["script"] (defScope s_law) := ⟨rfl, rfl, rfl, by decide +kernel, rfl, by decide +kernel, by decide +kernel⟩
@[reducible] noncomputable def B_law_1 [HW] : Cs := (sSet 4 (eN F__law_turned (eCons (eVar 2) (eCons (eVar 1) (eCons (eVar 4) (eCons (eVar 5) eNil))))))
@[reducible] noncomputable def B_law_2 [HW] : Cs := (sFor (eRange1 (eCons (e2 gAdd (eC (.v (.int 1))) (eN F__law_draw (eCons (eVar 2) (eCons (eC (.v (.int 3))) eNil)))) eNil)) (.nm 6) B_law_1)
@[reducible] noncomputable def B_law_3 [HW] : Cs := (sSeq (sSet 5 (e2 gIx (eN (gLst mkV) (eCons (eN (gLst mkV) (eCons (eC (.v (.int 6))) eNil)) (eCons (eN (gLst mkV) (eCons (eC (.v (.int 0))) (eCons (eC (.v (.int 6))) eNil))) (eCons (eN (gLst mkV) (eCons (eC (.v (.int 0))) (eCons (eC (.v (.int 1))) (eCons (eC (.v (.int 4))) (eCons (eC (.v (.int 6))) eNil))))) (eCons (eN (gLst mkV) (eCons (eC (.v (.int 0))) (eCons (eC (.v (.int 1))) (eCons (eC (.v (.int 2))) (eCons (eC (.v (.int 3))) (eCons (eC (.v (.int 4))) (eCons (eC (.v (.int 5))) (eCons (eC (.v (.int 6))) (eCons (eC (.v (.int 7))) eNil))))))))) eNil))))) (eN F__law_draw (eCons (eVar 2) (eCons (eC (.v (.int 4))) eNil))))) B_law_2)
@[reducible] noncomputable def B_law_4 [HW] : Cs := (sIf (eB (e2 gEq (eN F__law_draw (eCons (eVar 2) (eCons (eC (.v (.int 8))) eNil))) (eC (.v (.int 0))))) (sSet 4 (eN F__law_journal (eCons (eVar 2) (eCons (eVar 1) eNil)))) (sSeq (sSet 4 (eN (gListOf mkV) (eCons (eVar 3) eNil))) B_law_3))
@[reducible] noncomputable def B_law_5 [HW] : Cs := (sIf (bNot (eT (eN F__law_answers (eCons (eVar 9) (eCons (eVar 10) (eCons (eN F__law_due (eCons (eVar 9) (eCons (eVar 10) eNil))) eNil)))))) (sRet (eC (.v (.bl false)))) sPass)
@[reducible] noncomputable def B_law_6 [HW] : Cs := B_law_5
@[reducible] noncomputable def B_law_7 [HW] : Cs := (sFor (eIt (eVar 8)) (.tp [(.nm 9), (.nm 10)]) B_law_6)
@[reducible] noncomputable def B_law_8 [HW] : Cs := (sSeq B_law_7 (sRet (eN F__law_fixed (eCons (eVar 1) (eCons (eVar 7) (eCons (eN F__law_day (eCons (eVar 2) eNil)) eNil))))))
@[reducible] noncomputable def B_law_9 [HW] : Cs := (sSeq (sSet 8 (eN (gLst mkV) (eCons (eN gTup (eCons (eVar 3) (eCons (eVar 4) eNil))) (eCons (eN gTup (eCons (eVar 4) (eCons (eVar 3) eNil))) (eCons (eN gTup (eCons (eVar 7) (eCons (e2 gAdd (eSl (eVar 7) (oYes (eC (.v (.int 1)))) oNo) (eSl (eVar 7) oNo (oYes (eC (.v (.int 1)))))) eNil))) (eCons (eN gTup (eCons (eVar 7) (eCons (eN (gLst mkV) eNil) eNil))) (eCons (eN gTup (eCons (eN (gLst mkV) eNil) (eCons (eSl (eVar 4) oNo (oYes (eC (.v (.int 24))))) eNil))) eNil))))))) B_law_8)
@[reducible] noncomputable def B_law_10 [HW] : Cs := (sSeq (sSet 7 (eSl (eVar 3) oNo (oYes (eC (.v (.int 24)))))) B_law_9)
@[reducible] noncomputable def B_law_11 [HW] : Cs := (sSeq B_law_4 B_law_10)
@[reducible] noncomputable def B_law_12 [HW] : Cs := (sSeq (sSet 3 (eN F__law_repeated (eCons (eVar 2) (eCons (eN F__law_journal (eCons (eN F__law_pot (eCons (eVar 0) (eCons (eC (.v (.int 2))) eNil))) (eCons (eVar 1) eNil))) eNil)))) B_law_11)
@[reducible] noncomputable def B_law_13 [HW] : Cs := (sSeq (sSet 2 (eN F__law_pot (eCons (eVar 0) (eCons (eC (.v (.int 3))) eNil)))) B_law_12)
@[reducible] noncomputable def B_law [HW] : Cs := (sSeq (sSet 1 (eN F__law_pool (eCons (eVar 0) eNil))) B_law_13)
noncomputable def F_law [HW] : List D → C D := runF .frz 1 11 B_law
end Law
namespace Law
open PySem PySem.Spec PyProof.Rows L2 DL
open NKD (eqN eqNs look)
variable [HW]
local macro_rules | `(tactic| walk_at "mem") => `(tactic| first
  | assumption
  | rfl
  | (with_reducible exact get_new)
  | ((with_reducible apply get_set); walk_at "mem")
  | ((with_reducible apply get_set_ne); (· first | assumption | omega); walk_at "mem")
  | ((with_reducible apply get_app); walk_at "mem")
  | fail)
local macro_rules | `(tactic| walk_at "go1") => `(tactic| first
  | (with_reducible refine s_seq ?_) | (with_reducible refine s_set ?_) | (with_reducible refine s_ret ?_) | (with_reducible refine s_retN ?_) | (with_reducible refine s_expr ?_) | (with_reducible refine s_if ?_)
  | (with_reducible refine s_asg ?_) | (with_reducible refine s_store ?_) | (with_reducible refine s_pass ?_) | (with_reducible refine s_for ?_) | (with_reducible refine s_break ?_) | (with_reducible refine s_cont ?_)
  | ((with_reducible apply s_aug); (· with_unfolding_all exact rfl))
  | (with_reducible refine p_e2 ?_) | (with_reducible refine p_e1 ?_) | (with_reducible refine p_eN ?_) | (with_reducible refine p_cons ?_) | (with_reducible refine p_nil ?_) | (with_reducible refine p_c ?_)
  | ((with_reducible apply p_var); (· with_unfolding_all exact rfl))
  | ((with_reducible refine p_eM ?_))
  | (with_reducible refine p_eB ?_) | (with_reducible refine p_eT ?_) | (with_reducible refine p_bAnd ?_) | (with_reducible refine p_bOr ?_) | (with_reducible refine p_bNot ?_) | (with_reducible refine p_bIsN ?_) | (with_reducible refine p_bNotN ?_)
  | (with_reducible refine p_eIf ?_) | (with_reducible refine p_eAndV ?_) | (with_reducible refine p_eOrV ?_) | (with_reducible refine p_eNotV ?_) | (with_reducible refine p_chain ?_)
  | (with_reducible refine p_add ?_) | (with_reducible refine p_sub ?_) | ((with_reducible refine p_mod ?_ ?_); (· first | assumption | omega)) | (with_reducible refine p_neg ?_)
  | ((with_reducible refine p_mul ?_ ?_); (· first | assumption | (with_reducible exact pmul_r (by omega) (by omega)) | (with_reducible exact pmul_l (by omega) (by omega))))
  | ((with_reducible refine p_div ?_ ?_); (· first | assumption | (with_reducible exact pdiv_n (by omega) (by omega))))
  | ((with_reducible refine p_pow ?_ ?_); (· unfold CPow; decide); try dsimp only [Int.reduceToNat, Int.reducePow])
  | (dsimp only [Int.reduceToNat, List.set_cons_zero, List.set_cons_succ, List.length_cons, List.length_nil, List.cons_append, List.nil_append, Nat.reduceAdd, Int.toNat_natCast, Int.cast_ofNat_Int, isNon])
  | ((with_reducible refine p_eqR ?_ ?_); (· exact okEq_LsV fun _ => rfl)) | ((with_reducible refine p_neR ?_ ?_); (· exact okEq_LsV fun _ => rfl))
  | (with_reducible refine p_eqIR ?_) | (with_reducible refine p_neIR ?_) | (with_reducible refine p_eqSR ?_) | (with_reducible refine p_neSR ?_)
  | (with_reducible refine p_lt ?_) | (with_reducible refine p_le ?_) | (with_reducible refine p_gt ?_) | (with_reducible refine p_ge ?_)
  | (with_reducible refine p_eqI ?_) | (with_reducible refine p_neI ?_) | (with_reducible refine p_eqS ?_) | (with_reducible refine p_neS ?_) | (with_reducible refine p_isN ?_) | (with_reducible refine p_notN ?_)
  | ((with_reducible apply p_ixHLs); (· walk_at "mem"); (· first | assumption | omega); (· first | assumption | omega))
  | ((with_reducible apply p_ixH); (· walk_at "mem"); (· with_unfolding_all exact rfl))
  | ((with_reducible apply p_isi); (· first | rfl | exact tyN_h ‹_›); (· first | exact kit_int_int | exact kit_int_bool | exact kit_int_str | exact kit_int_list | exact kit_int_tuple | exact kit_int_dict | exact kit_bool_int | exact kit_bool_bool | exact kit_bool_str | exact kit_bool_list | exact kit_bool_tuple | exact kit_bool_dict | exact kit_str_int | exact kit_str_bool | exact kit_str_str | exact kit_str_list | exact kit_str_tuple | exact kit_str_dict | exact kit_list_int | exact kit_list_bool | exact kit_list_str | exact kit_list_list | exact kit_list_tuple | exact kit_list_dict | exact kit_tuple_int | exact kit_tuple_bool | exact kit_tuple_str | exact kit_tuple_list | exact kit_tuple_tuple | exact kit_tuple_dict | exact kit_dict_int | exact kit_dict_bool | exact kit_dict_str | exact kit_dict_list | exact kit_dict_tuple | exact kit_dict_dict | exact kit_NoneType_int | exact kit_NoneType_bool | exact kit_NoneType_str | exact kit_NoneType_list | exact kit_NoneType_tuple | exact kit_NoneType_dict))
  | ((with_reducible refine p_ixLs ?_ ?_ ?_); (· first | assumption | omega); (· first | assumption | omega))
  | ((with_reducible refine p_ixLI ?_ ?_ ?_); (· first | assumption | omega); (· first | assumption | omega))
  | ((with_reducible apply p_ixS); (· with_unfolding_all exact rfl); (· with_unfolding_all exact rfl))
  | (with_reducible refine p_oNo ?_) | (with_reducible refine p_oYes ?_) | (with_reducible refine p_eSl ?_) | (with_reducible refine p_slS ?_)
  | ((with_reducible apply p_lenHLs); (· walk_at "mem"))
  | ((with_reducible apply p_lenH); (· walk_at "mem"))
  | (with_reducible refine p_lenLs ?_)
  | ((with_reducible apply p_len); (· with_unfolding_all exact rfl))
  | ((with_reducible refine p_addS ?_ ?_); (· first | assumption | (simp only [len_app, len_c]; omega)))
  | ((with_reducible apply p_append); (· walk_at "mem"); (· first | assumption | omega | (simp; omega)))
  | ((with_reducible refine p_ty ?_ ?_); (· first | rfl | (simp [tyOk, *]; done)))
  | ((with_reducible apply p_listV); (· rfl)) | ((with_reducible apply p_revLV); (· rfl)) | ((with_reducible apply p_slL); (· rfl))
  | (with_reducible refine p_abs ?_) | (with_reducible refine p_intI ?_) | (with_reducible refine p_intB ?_) | (with_reducible refine p_max2 ?_) | (with_reducible refine p_min2 ?_)
  | ((with_reducible refine p_tup ?_ ?_); (· first | decide | (simp; done)))
  | ((with_reducible refine p_lstV ?_ ?_); (· (simp; done)))
  | ((with_reducible refine p_lstH ?_ ?_); (· (simp; done)))
  | (with_reducible refine p_mkV ?_) | (with_reducible refine p_mkH ?_) | (with_reducible refine p_bYes ?_)
  | (with_reducible refine p_lcG ?_) | (with_reducible refine p_eIt ?_) | (with_reducible refine p_eRange1 ?_) | (with_reducible refine p_eRange2 ?_) | (with_reducible refine p_eEnum ?_)
  | (with_reducible refine s_put ?_) | (with_reducible refine p_mc ?_) | (with_reducible refine p_strS ?_) | (with_reducible refine p_fmtS ?_) | (with_reducible refine p_fsC ?_) | (with_reducible refine p_fsN ?_) | (with_reducible refine p_find ?_) | (with_reducible refine p_tupOfL ?_) | (with_reducible refine p_make ?_)
  | ((with_reducible refine p_strI ?_ ?_); (· exact log_int (by omega))) | ((with_reducible refine p_fmtI ?_ ?_); (· exact log_int (by omega)))
  | ((with_reducible refine Exists.intro _ (And.intro rfl ?_)))
  | ((with_reducible show SP _ _); fail)
  | ((with_reducible apply p_store); (· walk_at "mem"); (· with_unfolding_all exact rfl))
  | (with_reducible refine p_tr ?_) | (with_reducible refine p_tt ?_) | (with_reducible refine p_nt ?_) | (with_reducible refine p_nf ?_) | (with_reducible refine p_ff ?_)
  | (dsimp only [Int.reduceToNat, List.set_cons_zero, List.set_cons_succ, List.length_cons, List.length_nil, List.cons_append, List.nil_append, Nat.reduceAdd, Int.toNat_natCast, Int.cast_ofNat_Int, isNon])
  | (rw [List.set_set])
  | (rw [set_new])
  | (rw [Ls_len])
  | (with_reducible refine ⟨_, truD_bl, ?_⟩))
local macro_rules | `(tactic| walk_at "split") => `(tactic| (first | (with_reducible refine p_dec (fun h => ?_) (fun h => ?_)) | (with_reducible refine p_ndec (fun h => ?_) (fun h => ?_)) | (with_reducible refine beq_true_eq (fun h => ?_) (fun h => ?_)) | fail))
local macro_rules | `(tactic| walk_at "gos") => `(tactic| repeat' (first | walk_at "go1" | walk_at "split" | fail))
local macro_rules | `(tactic| walk_at "def") => `(tactic| ((refine p_runF rfl ?_); simp only [List.map_cons, List.map_nil, List.cons_append, List.nil_append, List.replicate_succ, List.replicate_zero, Nat.reduceSub]))
local macro_rules | `(tactic| walk_at "go") => `(tactic| repeat walk_at "go1")
abbrev Pd (c s t : Int) : D := .lst [I c, I s, I t]
theorem hb_pd {L : Nat} {c s t : Int} : hb L (Pd c s t) = true := by simp [hb, hbs]
theorem fin_v {M : Mem} {k : Nat} {x : V} {c s t : Int} {E : Exn → Mem → Prop} {Q : D → Mem → Prop} (q : Q (.v x) (M.set k (Pd c s t))) : P (finish .frz M (M.set k (Pd c s t)) (.v x)) E Q :=
  p_finV (fun z => by cases z) ((CellsOk.refl M).set hb_pd) (by simp [List.take_set]) q
theorem draw_spec {M : Mem} {k : Nat} {c s t size : Int} {E : Exn → Mem → Prop} {Q : D → Mem → Prop} (hM : M[k]? = some (Pd c s t)) (h0 : 0 < size) (h1 : size ≤ 1073741823)
    (q : ∀ r c' s' t', 0 ≤ r → r < size → Q (I r) (M.set k (Pd c' s' t'))) : P (F__law_draw [.h k, I size] M) E Q := by
  have fin : ∀ (r c' s' t' : Int), 0 ≤ r → r < size → P (finish .frz M (M.set k (Pd c' s' t')) (I r)) E Q := fun r c' s' t' hr0 hr1 => fin_v (q r c' s' t' hr0 hr1)
  unfold F__law_draw
  walk_at "def"
  unfold B__law_draw
  walk_at "gos"
  all_goals exact fin _ _ _ _ (Int.emod_nonneg _ (by omega)) (Int.emod_lt_of_pos _ h0)
theorem pd_self {M : Mem} {k : Nat} {c s t : Int} (h : M[k]? = some (Pd c s t)) : M = M.set k (Pd c s t) := set_at h
theorem join_ones : ∀ cs : List Nat, (Str.join "" (cs.map fun c => (⟨#[c]⟩ : Str))).length = cs.length
  | [] => rfl
  | [c] => rfl
  | c :: d :: r => by
    have ih := join_ones (d :: r)
    rw [List.map_cons, List.map_cons, join2, len_app, len_app]
    rw [List.map_cons] at ih
    rw [ih]
    show 1 + 0 + (r.length + 1) = r.length + 1 + 1
    omega
theorem join_onesP {cs : List Nat} {y : D} {M : Mem} {E : Exn → Mem → Prop} {Q : D → Mem → Prop} (hl : cs.length ≤ 100) (h : y = .lst (cs.map fun c => Tx ⟨#[c]⟩)) (q : ∀ w : Str, w.length = cs.length → Q (Tx w) M) : P (gJoin (Tx "") [y] M) E Q := by
  refine p_join (ss := cs.map fun c => (⟨#[c]⟩ : Str)) (by rw [h, List.map_map]; rfl) ?_ (q _ (join_ones cs))
  have : ((cs.map fun c => (⟨#[c]⟩ : Str)).map (·.length)).sum = cs.length := by
    clear h hl q
    induction cs with
    | nil => rfl
    | cons c r ih => rw [List.map_cons, List.map_cons, List.sum_cons, ih, List.length_cons]; show 1 + r.length = _; omega
  rw [this]
  show cs.length + (cs.map _).length * 0 ≤ _
  omega
theorem alpha_at {r : Int} (h0 : 0 ≤ r) (h1 : r < 26) : ∃ c, atI ("abcdefghijklmnopqrstuvwxyz" : Str).cps.toList r = some c := by
  have h2 : r < ((("abcdefghijklmnopqrstuvwxyz" : Str).cps.toList).length : Int) := by rw [show (("abcdefghijklmnopqrstuvwxyz" : Str).cps.toList).length = 26 from rfl]; omega
  rw [atI_of h0 h2]
  exact ⟨_, List.getElem?_eq_getElem (by omega)⟩
theorem p_alpha {r : Int} {M : Mem} {E : Exn → Mem → Prop} {Q : D → Mem → Prop} (h0 : 0 ≤ r) (h1 : r < 26) (q : ∀ c, Q (Tx ⟨#[c]⟩) M) : P (gIx (Tx "abcdefghijklmnopqrstuvwxyz") (I r) M) E Q := by
  obtain ⟨c, hc⟩ := alpha_at h0 h1
  exact p_ixT hc (q c)
theorem sign_at {r : Int} (h0 : 0 ≤ r) (h1 : r < 36) : ∃ c, atI ("abcdefghijklmnopqrstuvwxyz0123456789" : Str).cps.toList r = some c := by
  have h2 : r < ((("abcdefghijklmnopqrstuvwxyz0123456789" : Str).cps.toList).length : Int) := by rw [show (("abcdefghijklmnopqrstuvwxyz0123456789" : Str).cps.toList).length = 36 from rfl]; omega
  rw [atI_of h0 h2]
  exact ⟨_, List.getElem?_eq_getElem (by omega)⟩
theorem p_sign {r : Int} {M : Mem} {E : Exn → Mem → Prop} {Q : D → Mem → Prop} (h0 : 0 ≤ r) (h1 : r < 36) (q : ∀ c, Q (Tx ⟨#[c]⟩) M) : P (gIx (Tx "abcdefghijklmnopqrstuvwxyz0123456789") (I r) M) E Q := by
  obtain ⟨c, hc⟩ := sign_at h0 h1
  exact p_ixT hc (q c)
theorem chars_app {cs : List Nat} {c : Nat} : (cs.map fun c => Tx ⟨#[c]⟩) ++ [Tx ⟨#[c]⟩] = (cs ++ [c]).map fun c => Tx ⟨#[c]⟩ := by rw [List.map_append]; rfl
theorem word_spec {M : Mem} {k : Nat} {c s t size : Int} {E : Exn → Mem → Prop} {Q : D → Mem → Prop} (hM : M[k]? = some (Pd c s t)) (h0 : 0 ≤ size) (h1 : size ≤ 20)
    (q : ∀ (w : Str) c' s' t', (w.length : Int) = size → Q (Tx w) (M.set k (Pd c' s' t'))) : P (F__law_word [.h k, I size] M) E Q := by
  unfold F__law_word
  walk_at "def"
  unfold B__law_word
  walk_at "gos"
  refine ⟨by omega, by rw [rangeD_len]; omega, ?_⟩
  refine p_lcL (fun i acc M1 => ∃ (cs : List Nat) (c s t : Int), acc = (cs.map fun c => Tx ⟨#[c]⟩) ∧ cs.length = i ∧ M1 = M.set k (Pd c s t)) ⟨[], c, s, t, rfl, rfl, pd_self hM⟩ (fun _ _ _ _ => trivial) ?_ ?_
  · rintro i d _ _ hd ⟨cs, c1, s1, t1, rfl, hl, rfl⟩
    obtain ⟨rfl, hi⟩ := rangeD_get hd
    refine ⟨_, rfl, ?_⟩
    walk_at "gos"
    refine draw_spec (get_set hM) (by omega) (by omega) (fun r c s t r0 r1 => ?_)
    refine p_alpha r0 r1 (fun c => ?_)
    exact ⟨cs ++ [c], _, _, _, chars_app, by simp [hl], by rw [List.set_set]⟩
  · rintro _ _ ⟨cs, c1, s1, t1, rfl, hl, rfl⟩
    rw [rangeD_len] at hl
    walk_at "gos"
    refine join_onesP (by omega) rfl (fun w hw => ?_)
    exact fin_v (q w _ _ _ (by omega))
theorem ident_spec {M : Mem} {k : Nat} {c s t : Int} {E : Exn → Mem → Prop} {Q : D → Mem → Prop} (hM : M[k]? = some (Pd c s t))
    (q : ∀ (w : Str) c' s' t', w.length ≤ 24 → Q (Tx w) (M.set k (Pd c' s' t'))) : P (F__law_ident [.h k] M) E Q := by
  unfold F__law_ident
  walk_at "def"
  unfold B__law_ident
  walk_at "gos"
  refine draw_spec hM (by omega) (by omega) (fun r c s t r0 r1 => ?_)
  walk_at "gos"
  refine ⟨by omega, by rw [rangeD_len]; omega, ?_⟩
  refine p_lcL (fun i acc M1 => ∃ (cs : List Nat) (c s t : Int), acc = (cs.map fun c => Tx ⟨#[c]⟩) ∧ cs.length = i ∧ M1 = M.set k (Pd c s t)) ⟨[], c, s, t, rfl, rfl, rfl⟩ (fun _ _ _ _ => trivial) ?_ ?_
  · rintro i d _ _ hd ⟨cs, c1, s1, t1, rfl, hl, rfl⟩
    obtain ⟨rfl, hi⟩ := rangeD_get hd
    refine ⟨_, rfl, ?_⟩
    walk_at "gos"
    refine draw_spec (get_set hM) (by omega) (by omega) (fun r c s t r0 r1 => ?_)
    refine p_sign r0 r1 (fun c => ?_)
    exact ⟨cs ++ [c], _, _, _, chars_app, by simp [hl], by rw [List.set_set]⟩
  · rintro _ _ ⟨cs, c1, s1, t1, rfl, hl, rfl⟩
    rw [rangeD_len] at hl
    walk_at "gos"
    refine join_onesP (by omega) rfl (fun w hw => ?_)
    exact fin_v (q w _ _ _ (by omega))
theorem p_inM {M : Mem} {j : Nat} {ws : List Str} {w : Str} {E : Exn → Mem → Prop} {Q : D → Mem → Prop} (h : M[j]? = some (.lst (ws.map Tx))) (q : ∀ b, Q (Bo b) M) : P (gIn (Tx w) (.h j) M) E Q :=
  p_inL (lstOf_h h) rfl (okEq_all fun d hd => by
    obtain ⟨w, _, rfl⟩ := List.mem_map.mp hd
    exact ⟨rfl, by unfold dep; omega⟩) (q _)
theorem p_lastT {w : Str} {M : Mem} {E : Exn → Mem → Prop} {Q : D → Mem → Prop} (h : 1 ≤ w.length) (q : ∀ c, Q (Tx ⟨#[c]⟩) M) : P (gIx (Tx w) (I (-1)) M) E Q := by
  have h2 : 1 ≤ w.cps.toList.length := by simpa [Str.length] using h
  have : ∃ c, atI w.cps.toList (-1) = some c := by
    unfold atI ixN
    rw [if_neg (by omega), if_pos (by omega)]
    exact ⟨_, List.getElem?_eq_getElem (by omega)⟩
  obtain ⟨c, hc⟩ := this
  exact p_ixT hc (q c)
theorem cut_last {w : Str} (h : 1 ≤ w.length) : (cutS w none (some (-1))).length + 1 ≤ w.length := by
  have e : w.length = w.cps.toList.length := by simp [Str.length]
  have hc : (cutS w none (some (-1))).length ≤ w.cps.toList.length - 1 := by
    unfold cutS
    show (List.toArray _).size ≤ _
    simp [HT.sIx]
    have e2 : w.cps.size = w.length := rfl
    omega
  omega
theorem bumped_spec {M : Mem} {j : Nat} {ws : List Str} {w : Str} {E : Exn → Mem → Prop} {Q : D → Mem → Prop} (hM : M[j]? = some (.lst (ws.map Tx))) (h0 : 1 ≤ w.length) (h1 : w.length ≤ 24) (hw : ws.length ≤ 100)
    (q : ∀ w : Str, w.length ≤ 24 → Q (Tx w) M) : P (F__law_bumped [Tx w, .h j] M) E Q := by
  unfold F__law_bumped
  walk_at "def"
  unfold B__law_bumped
  walk_at "gos"
  refine ⟨by simp; omega, ?_⟩
  refine s_forL (fun _ ρ M1 => ∃ (w : Str) (t : Option D), ρ = [some (Tx w), some (.h j), some (Tx "abcdefghijklmnopqrstuvwxyz"), t] ∧ M1 = M ∧ 1 ≤ w.length ∧ w.length ≤ 24) ⟨w, none, rfl, rfl, h0, h1⟩ (fun _ _ _ _ => trivial) ?_ ?_
  · rintro i d _ _ hd ⟨w, t, rfl, rfl, a0, a1⟩
    refine ⟨_, rfl, ?_⟩
    walk_at "gos"
    refine p_inM hM (fun b => ?_)
    walk_at "gos"
    · refine p_lastT a0 (fun c => ?_)
      walk_at "gos"
      refine p_alpha (Int.emod_nonneg _ (by omega)) (Int.emod_lt_of_pos _ (by omega)) (fun c2 => ?_)
      have h3 := cut_last a0
      refine p_addS (by rw [len_c]; omega) ?_
      exact ⟨_, _, rfl, rfl, by rw [len_app, len_c]; omega, by rw [len_app, len_c]; omega⟩
    · exact ⟨_, _, rfl, rfl, a0, a1⟩
  · rintro _ _ ⟨w, t, rfl, rfl, a0, a1⟩
    walk_at "gos"
    exact p_finY (q w a1)
theorem names_fin {c0 s0 t0 c s t : Int} {E : Exn → Mem → Prop} {Q : D → Mem → Prop} {ws : List Str} (q : Q (.lst (ws.map Tx)) [Pd c s t]) : P (finish .frz [Pd c0 s0 t0] [Pd c s t, .lst (ws.map Tx)] (.h 1)) E Q :=
  p_finF (Nat.le_refl _) rfl (by
    have := ((CellsOk.refl [Pd c0 s0 t0]).set (k := 0) (hb_pd (L := 1) (c := c) (s := s) (t := t))).app (L := [.lst (ws.map Tx)]) (Nat.le_refl _)
    exact this) (hb_lst fun d hd => by
      obtain ⟨w, _, rfl⟩ := List.mem_map.mp hd
      exact hb_v) rfl q
theorem cut_le {w : Str} {lo hi : Option Int} : (cutS w lo hi).length ≤ w.length := by
  have e : w.length = w.cps.toList.length := by simp [Str.length]
  rw [e]
  unfold cutS
  show (List.toArray _).size ≤ _
  simp
  omega
theorem names_spec {c s t : Int} {E : Exn → Mem → Prop} {Q : D → Mem → Prop} (q : ∀ (ws : List Str) c s t, ws.length = 6 → (∀ w ∈ ws, w.length ≤ 24) → Q (.lst (ws.map Tx)) [Pd c s t]) : P (F__law_names [.h 0, I 6] [Pd c s t]) E Q := by
  have app : ∀ (ws : List Str) (w : Str), ws.map Tx ++ [Tx w] = (ws ++ [w]).map Tx := fun ws w => by rw [List.map_append]; rfl
  have mem : ∀ (ws : List Str) (w : Str), (∀ w ∈ ws, w.length ≤ 24) → w.length ≤ 24 → ∀ v ∈ ws ++ [w], v.length ≤ 24 := fun ws w h1 h2 v hv => by
    rcases List.mem_append.mp hv with h8 | h8
    · exact h1 v h8
    · rw [List.mem_singleton.mp h8]; exact h2
  unfold F__law_names
  walk_at "def"
  unfold B__law_names
  walk_at "gos"
  refine draw_spec rfl (by omega) (by omega) (fun r c s t r0 r1 => ?_)
  walk_at "gos"
  · refine ⟨by omega, ?_⟩
    refine s_forL (fun i ρ M => ∃ (ws : List Str) (u : Option D) (c s t : Int), ρ = [some (.h 0), some (I 6), some (Tx "abcdefghijklmnopqrstuvwxyz"), some (I r), some (.h 1), u, none, none, none, none, none] ∧ M = [Pd c s t, .lst (ws.map Tx)] ∧ ws.length = i ∧ ∀ w ∈ ws, w.length ≤ 24) ⟨[], none, _, _, _, rfl, rfl, rfl, by simp⟩ (fun _ _ _ _ => trivial) ?_ ?_
    · rintro i d _ _ hd ⟨ws, u, c, s, t, rfl, rfl, hl, hw⟩
      obtain ⟨rfl, hi⟩ := rangeD_get hd
      refine ⟨_, rfl, ?_⟩
      walk_at "gos"
      refine draw_spec rfl (by omega) (by omega) (fun r2 c s t r20 r21 => ?_)
      walk_at "gos"
      refine word_spec rfl (by omega) (by omega) (fun w c s t hw1 => ?_)
      walk_at "gos"
      refine bumped_spec (ws := ws) rfl (by omega) (by omega) (by omega) (fun w2 hw2 => ?_)
      walk_at "gos"
      exact ⟨ws ++ [w2], _, _, _, _, rfl, by rw [← app]; rfl, by simp [hl], mem _ _ hw hw2⟩
    · rintro _ _ ⟨ws, u, c, s, t, rfl, rfl, hl, hw⟩
      rw [rangeD_len] at hl
      walk_at "gos"
      exact names_fin (q ws _ _ _ hl hw)
  · refine word_spec rfl (by omega) (by omega) (fun base c s t hb => ?_)
    walk_at "gos"
    refine draw_spec rfl (by omega) (by omega) (fun first c s t f0 f1 => ?_)
    walk_at "gos"
    refine draw_spec rfl (by omega) (by omega) (fun st c s t st0 st1 => ?_)
    walk_at "gos"
    refine draw_spec rfl (by omega) (by omega) (fun sz c s t z0 z1 => ?_)
    walk_at "gos"
    refine draw_spec rfl (by omega) (by omega) (fun pl c s t p0 p1 => ?_)
    walk_at "gos"
    refine ⟨by omega, ?_⟩
    refine s_forL (fun i ρ M => ∃ (ws : List Str) (u : Option D), ρ = [some (.h 0), some (I 6), some (Tx "abcdefghijklmnopqrstuvwxyz"), some (I r), some (.h 1), u, some (Tx base), some (I first), some (I (1 + 2 * st)), some (I (1 + sz)), some (I pl)] ∧ M = [Pd c s t, .lst (ws.map Tx)] ∧ ws.length = i ∧ ∀ w ∈ ws, w.length ≤ 24) ⟨[], none, rfl, rfl, rfl, by simp⟩ (fun _ _ _ _ => trivial) ?_ ?_
    · rintro i d _ _ hd ⟨ws, u, rfl, rfl, hl, hw⟩
      obtain ⟨rfl, hi⟩ := rangeD_get hd
      refine ⟨_, rfl, ?_⟩
      have hcl : ∀ lo hi, (cutS base lo hi).length ≤ 8 := fun lo hi => Nat.le_trans cut_le (by omega)
      walk_at "gos"
      · exact ⟨ws ++ [_], _, rfl, by rw [← app]; rfl, by simp [hl], mem _ _ hw (Nat.le_trans (hcl _ _) (by omega))⟩
      · refine p_alpha (Int.emod_nonneg _ (by omega)) (Int.emod_lt_of_pos _ (by omega)) (fun c2 => ?_)
        have h1 := hcl none (some pl)
        have h2 := hcl (some (pl + 1)) (some (1 + sz))
        walk_at "gos"
        exact ⟨ws ++ [_], _, rfl, by rw [← app]; rfl, by simp [hl], mem _ _ hw (by rw [len_app, len_app, len_c]; omega)⟩
    · rintro _ _ ⟨ws, u, rfl, rfl, hl, hw⟩
      rw [rangeD_len] at hl
      walk_at "gos"
      exact names_fin (q ws _ _ _ hl hw)
local macro_rules | `(tactic| walk_at "draw") => `(tactic| (refine draw_spec (by first | assumption | rfl | exact get_set ‹_› | exact get_app ‹_› | exact get_app (get_set ‹_›)) (by omega) (by omega) ?_; rintro r c s t r0 r1))
/-! models -/
inductive Pa where
  | s (x : Str)
  | i (n : Int)
def PaD : Pa → D
  | .s x => Tx x
  | .i n => I n
def PaOk : Pa → Prop
  | .s x => x.length ≤ 24
  | .i n => n.natAbs < 2 ^ 40
structure Nt where
  ident : Str
  version : Int
  names : List Str
  cause : Str
  content : Option (List Pa)
def ctD : Option (List Pa) → D
  | none => No
  | some ps => .tup (ps.map PaD)
def CtOk : Option (List Pa) → Prop
  | none => True
  | some ps => 1 ≤ ps.length ∧ ps.length ≤ 8 ∧ ∀ p ∈ ps, PaOk p
def ND (n : Nt) : D := .tup [Tx n.ident, I n.version, .tup (n.names.map Tx), Tx n.cause, ctD n.content]
structure NtOk (n : Nt) : Prop where
  id : n.ident.length ≤ 24
  ver : n.version.natAbs < 2 ^ 40
  nl : n.names.length ≤ 6
  nm : ∀ s ∈ n.names, s.length ≤ 24
  ca : n.cause.length ≤ 24
  ct : CtOk n.content
inductive En where
  | run (i : Int)
  | note (n : Nt)
def ED : En → D
  | .run i => .tup [Tx "run", I i]
  | .note n => .tup [Tx "learn", ND n]
def EnOk : En → Prop
  | .run i => i.natAbs < 2 ^ 40
  | .note n => NtOk n
def JD (es : List En) : D := .lst (es.map ED)
def JOk (es : List En) : Prop := es.length ≤ 60 ∧ ∀ e ∈ es, EnOk e
theorem hbs_tx {L : Nat} (ss : List Str) : hbs L (ss.map Tx) = true := hbs_of fun d hd => by
  obtain ⟨w, _, rfl⟩ := List.mem_map.mp hd
  exact hb_v
theorem hb_pa {L : Nat} (p : Pa) : hb L (PaD p) = true := by cases p <;> exact hb_v
theorem hb_ct {L : Nat} (c : Option (List Pa)) : hb L (ctD c) = true := by
  cases c with
  | none => exact hb_v
  | some ps =>
    refine hb_tup fun d hd => ?_
    obtain ⟨p, _, rfl⟩ := List.mem_map.mp hd
    exact hb_pa p
theorem hb_nd {L : Nat} (n : Nt) : hb L (ND n) = true := by
  unfold ND
  simp only [hb, hbs, hbs_tx, hb_ct, Bool.and_self]
theorem hb_ed {L : Nat} (e : En) : hb L (ED e) = true := by
  cases e with
  | run i => simp [ED, hb, hbs]
  | note n => simp [ED, hb, hbs, hb_nd]
theorem hb_jd {L : Nat} (es : List En) : hb L (JD es) = true := hb_lst fun d hd => by
  obtain ⟨p, _, rfl⟩ := List.mem_map.mp hd
  exact hb_ed p
theorem fin_d {M : Mem} {k : Nat} {d : D} {c s t : Int} {E : Exn → Mem → Prop} {Q : D → Mem → Prop} (hd : noH d = true) (hv : ∀ L, hb L d = true) (q : Q d (M.set k (Pd c s t))) : P (finish .frz M (M.set k (Pd c s t)) d) E Q :=
  p_finD (fun z => by cases z) hd ((CellsOk.refl M).set hb_pd) (hv _) (by simp [List.take_set]) q
section
variable {M : Mem} {k : Nat} {c s t : Int} {E : Exn → Mem → Prop} {Q : D → Mem → Prop} {w : Nat → Str}
theorem p_w6 {r : Int} {M : Mem} {Q : D → Mem → Prop} (h0 : 0 ≤ r) (h1 : r < 6) (q : ∀ i, Q (Tx (w i)) M) : P (gIx (.lst (Ls 6 fun i => Tx (w i))) (I r) M) E Q := p_ixLs h0 (by omega) (q _)
theorem version_spec (hM : M[k]? = some (Pd c s t)) (q : ∀ v c s t, 0 ≤ v → v ≤ 1000000000 → Q (I v) (M.set k (Pd c s t))) : P (F__law_version [.h k] M) E Q := by
  unfold F__law_version
  walk_at "def"
  unfold B__law_version
  walk_at "gos"
  refine draw_spec hM (by omega) (by omega) (fun r c s t r0 r1 => ?_)
  walk_at "gos"
  · refine draw_spec (get_set hM) (by omega) (by omega) (fun r2 c s t r20 r21 => ?_)
    walk_at "gos"
    exact fin_v (q _ _ _ _ (by omega) (by omega))
  · refine draw_spec (get_set hM) (by omega) (by omega) (fun r2 c s t r20 r21 => ?_)
    walk_at "gos"
    have : r = 0 ∨ r = 1 ∨ r = 2 := by omega
    rcases this with rfl | rfl | rfl
    · exact p_ixS rfl rfl (fin_v (q _ _ _ _ (by omega) (by omega)))
    · exact p_ixS rfl rfl (fin_v (q _ _ _ _ (by omega) (by omega)))
    · exact p_ixS rfl rfl (fin_v (q _ _ _ _ (by decide) (by decide)))
theorem some_spec (hM : M[k]? = some (Pd c s t)) (hw : ∀ i, (w i).length ≤ 24) (q : ∀ (ss : List Str) c s t, ss.length ≤ 6 → (∀ x ∈ ss, x.length ≤ 24) → Q (.tup (ss.map Tx)) (M.set k (Pd c s t))) :
    P (F__law_some [.h k, .lst (Ls 6 fun i => Tx (w i))] M) E Q := by
  unfold F__law_some
  walk_at "def"
  unfold B__law_some
  walk_at "gos"
  refine draw_spec hM (by omega) (by omega) (fun r c s t r0 r1 => ?_)
  walk_at "gos"
  · exact fin_d rfl (fun _ => rfl) (q [] _ _ _ (by simp) (by simp))
  · refine ⟨by simp, ?_⟩
    refine p_lcL (fun i acc M1 => ∃ (ss : List Str) (c s t : Int), acc = ss.map Tx ∧ ss.length ≤ i ∧ (∀ x ∈ ss, x.length ≤ 24) ∧ M1 = M.set k (Pd c s t)) ⟨[], c, s, t, rfl, Nat.le_refl _, by simp, rfl⟩ (fun _ _ _ _ => trivial) ?_ ?_
    · rintro i d _ _ hd ⟨ss, c1, s1, t1, rfl, hl, hs, rfl⟩
      obtain ⟨hi, rfl⟩ := Ls_get_of hd
      refine ⟨_, rfl, ?_⟩
      walk_at "gos"
      refine draw_spec (get_set hM) (by omega) (by omega) (fun r2 c s t r20 r21 => ?_)
      walk_at "gos"
      · exact ⟨ss ++ [w i], _, _, _, by rw [List.map_append]; rfl, by simp; omega, fun x hx => by
          rcases List.mem_append.mp hx with h8 | h8
          · exact hs x h8
          · rw [List.mem_singleton.mp h8]; exact hw i, by first | rw [List.set_set] | rfl⟩
      · exact ⟨ss, _, _, _, rfl, by omega, hs, by first | rw [List.set_set] | rfl⟩
    · rintro _ _ ⟨ss, c1, s1, t1, rfl, hl, hs, rfl⟩
      rw [Ls_len] at hl
      walk_at "gos"
      refine p_sortedS (by omega) ?_
      walk_at "gos"
      exact fin_d rfl (fun _ => by unfold hb; exact hbs_tx _) (q (sortS ss) _ _ _ (by rw [sortS_len]; exact hl) fun x hx => hs x (sortS_mem.mp hx))
theorem cause_spec (hM : M[k]? = some (Pd c s t)) (hw : ∀ i, (w i).length ≤ 24) (q : ∀ (x : Str) c s t, x.length ≤ 24 → Q (Tx x) (M.set k (Pd c s t))) :
    P (F__law_cause [.h k, .lst (Ls 6 fun i => Tx (w i))] M) E Q := by
  unfold F__law_cause
  walk_at "def"
  unfold B__law_cause
  walk_at "gos"
  refine draw_spec hM (by omega) (by omega) (fun r c s t r0 r1 => ?_)
  walk_at "gos"
  · exact fin_v (q _ _ _ _ (by decide))
  · refine draw_spec (get_set hM) (by omega) (by omega) (fun r2 c s t r20 r21 => ?_)
    walk_at "gos"
    exact fin_v (q _ _ _ _ (hw _))
theorem stretch_spec (hM : M[k]? = some (Pd c s t)) (q : ∀ a b c s t, 0 ≤ a → a < b → b ≤ 720 → Q (.tup [I a, I b]) (M.set k (Pd c s t))) : P (F__law_stretch [.h k] M) E Q := by
  unfold F__law_stretch
  walk_at "def"
  unfold B__law_stretch
  walk_at "gos"
  refine draw_spec hM (by omega) (by omega) (fun r c s t r0 r1 => ?_)
  walk_at "gos"
  refine draw_spec (get_set hM) (by omega) (by omega) (fun r2 c s t r20 r21 => ?_)
  walk_at "gos"
  exact fin_d rfl (fun _ => rfl) (q _ _ _ _ _ (by omega) (by omega) (by omega))
end
local macro_rules | `(tactic| walk_at "gd") => `(tactic| repeat' (first | walk_at "go1" | walk_at "split" | walk_at "draw" | ((with_reducible refine stretch_spec (get_set ‹_›) ?_); rintro a b c s t a0 a1 a2) | fail))
local macro_rules | `(tactic| walk_at "pa") => `(tactic| first | exact ‹∀ i, Str.length _ ≤ 24› _ | (show Str.length _ ≤ 24; decide) | (show Int.natAbs _ < 2 ^ 40; omega))
theorem ct3 {a b c : Pa} (ha : PaOk a) (hb : PaOk b) (hc : PaOk c) : CtOk (some [a, b, c]) := ⟨by simp, by simp, by
  intro p hp; simp only [List.mem_cons, List.not_mem_nil, or_false] at hp; rcases hp with rfl | rfl | rfl <;> assumption⟩
theorem ct4 {a b c d : Pa} (ha : PaOk a) (hb : PaOk b) (hc : PaOk c) (hd : PaOk d) : CtOk (some [a, b, c, d]) := ⟨by simp, by simp, by
  intro p hp; simp only [List.mem_cons, List.not_mem_nil, or_false] at hp; rcases hp with rfl | rfl | rfl | rfl <;> assumption⟩
theorem ct5 {a b c d e : Pa} (ha : PaOk a) (hb : PaOk b) (hc : PaOk c) (hd : PaOk d) (he : PaOk e) : CtOk (some [a, b, c, d, e]) := ⟨by simp, by simp, by
  intro p hp; simp only [List.mem_cons, List.not_mem_nil, or_false] at hp; rcases hp with rfl | rfl | rfl | rfl | rfl <;> assumption⟩
theorem ct6 {a b c d e f : Pa} (ha : PaOk a) (hb : PaOk b) (hc : PaOk c) (hd : PaOk d) (he : PaOk e) (hf : PaOk f) : CtOk (some [a, b, c, d, e, f]) := ⟨by simp, by simp, by
  intro p hp; simp only [List.mem_cons, List.not_mem_nil, or_false] at hp; rcases hp with rfl | rfl | rfl | rfl | rfl | rfl <;> assumption⟩
section
variable {M : Mem} {k : Nat} {c s t : Int} {E : Exn → Mem → Prop} {Q : D → Mem → Prop} {w : Nat → Str}
theorem content_spec (hM : M[k]? = some (Pd c s t)) (hw : ∀ i, (w i).length ≤ 24) (q : ∀ ct c s t, CtOk ct → Q (ctD ct) (M.set k (Pd c s t))) :
    P (F__law_content [.h k, .lst (Ls 6 fun i => Tx (w i))] M) E Q := by
  unfold F__law_content
  walk_at "def"
  unfold B__law_content
  walk_at "gd"
  all_goals first
    | exact fin_v (q none _ _ _ trivial)
    | exact fin_d rfl (fun _ => rfl) (q (some [.s _, .s _, .i _]) _ _ _ (ct3 (by walk_at "pa") (by walk_at "pa") (by walk_at "pa")))
    | exact fin_d rfl (fun _ => rfl) (q (some [.s _, .s _, .s _, .i _]) _ _ _ (ct4 (by walk_at "pa") (by walk_at "pa") (by walk_at "pa") (by walk_at "pa")))
    | exact fin_d rfl (fun _ => rfl) (q (some [.s _, .s _, .s _, .i _, .i _]) _ _ _ (ct5 (by walk_at "pa") (by walk_at "pa") (by walk_at "pa") (by walk_at "pa") (by walk_at "pa")))
    | exact fin_d rfl (fun _ => rfl) (q (some [.s _, .s _, .i _, .i _, .i _]) _ _ _ (ct5 (by walk_at "pa") (by walk_at "pa") (by walk_at "pa") (by walk_at "pa") (by walk_at "pa")))
    | exact fin_d rfl (fun _ => rfl) (q (some [.s _, .s _, .s _, .i _, .i _, .i _]) _ _ _ (ct6 (by walk_at "pa") (by walk_at "pa") (by walk_at "pa") (by walk_at "pa") (by walk_at "pa") (by walk_at "pa")))
theorem note_spec (hM : M[k]? = some (Pd c s t)) (hw : ∀ i, (w i).length ≤ 24) (q : ∀ n c s t, NtOk n → Q (ND n) (M.set k (Pd c s t))) :
    P (F__law_note [.h k, .lst (Ls 6 fun i => Tx (w i))] M) E Q := by
  unfold F__law_note
  walk_at "def"
  unfold B__law_note
  walk_at "gos"
  refine ident_spec hM (fun id c s t hid => ?_)
  walk_at "gos"
  refine version_spec (get_set hM) (fun v c s t v0 v1 => ?_)
  walk_at "gos"
  refine some_spec (get_set hM) hw (fun ss c s t hl hs => ?_)
  walk_at "gos"
  refine cause_spec (get_set hM) hw (fun ca c s t hc => ?_)
  walk_at "gos"
  refine content_spec (get_set hM) hw (fun ct c s t hct => ?_)
  walk_at "gos"
  exact fin_d rfl (fun _ => hb_nd ⟨id, v, ss, ca, ct⟩) (q ⟨id, v, ss, ca, ct⟩ _ _ _ ⟨hid, by show v.natAbs < _; omega, hl, hs, hc, hct⟩)
end
/-! pots -/
theorem p_sumLs {M : Mem} {E : Exn → Mem → Prop} {Q : D → Mem → Prop} {n : Nat} {f : Nat → Int} (q : Q (I (Ls n f).sum) M) : P (gSum [.lst (Ls n fun i => I (f i))] M) E Q := p_sum rfl (by
  rw [show (Ls n fun i => I (f i)) = (Ls n f).map I from (Ls_map I).symm]
  exact intsOf_map) q
theorem fin_pd {M : Mem} {c s t : Int} {E : Exn → Mem → Prop} {Q : D → Mem → Prop} (q : Q (.h M.length) (M ++ [Pd c s t])) : P (finish .own M (M ++ [Pd c s t]) (.h M.length)) E Q :=
  p_finO (Nat.le_refl _) get_new ((CellsOk.refl M).app (Nat.le_refl _)) hb_pd (by simp) q
theorem pot_spec {ns : List Int} {place : Int} {M : Mem} {E : Exn → Mem → Prop} {Q : D → Mem → Prop} (p0 : 0 ≤ place) (hp : place ≤ 10) (q : ∀ c s t, Q (.h M.length) (M ++ [Pd c s t])) : P (F__law_pot [.ro (ns.map fun i => .v (.int i)), I place] M) E Q := by
  unfold F__law_pot
  walk_at "def"
  unfold B__law_pot
  walk_at "gos"
  rw [show (some (63 : Int)) = some ((63 : Nat) : Int) from rfl, cutG_hi, ← List.map_take]
  generalize hc : ns.take 63 = cs
  have hl : cs.length ≤ 63 := by subst hc; simp; omega
  refine ⟨by simp; omega, ?_⟩
  refine p_lcR (fun i => I (cs.getD i 0 % 1000003)) trivial ?_ ?_
  · intro i d hd
    rw [List.getElem?_map] at hd
    obtain ⟨c, h1, rfl⟩ := Option.map_eq_some_iff.mp hd
    refine ⟨_, rfl, ?_⟩
    walk_at "gos"
    exact ⟨by simp [List.getD, h1], rfl⟩
  · rw [List.length_map]
    walk_at "gos"
    refine p_sumLs ?_
    generalize (Ls cs.length fun i => cs.getD i 0 % 1000003).sum = sm
    walk_at "gos"
    · rename_i h
      refine p_ixS (d := I (ns.getD place.toNat 0)) rfl ?_ ?_
      · have e : (fun i => D.v (.int i)) = I := rfl
        rw [e]
        exact atI_mapI p0 h
      · walk_at "gos"
        all_goals exact fin_pd (q _ _ _)
    all_goals exact fin_pd (q _ _ _)
/-! lists of entries, by what they are -/
def JK (n : Nat) (es : List En) : Prop := es.length ≤ n ∧ ∀ e ∈ es, EnOk e
theorem cm {M : Mem} {k : Nat} {c s t : Int} {L : Mem} : ((M.set k (Pd c s t)) ++ L).take M.length = M.set k (Pd c s t) := by
  rw [List.take_append_of_le_length (by simp), List.take_of_length_le (by simp)]
theorem ck {M : Mem} {k : Nat} {c s t : Int} (L : Mem) : CellsOk M ((M.set k (Pd c s t)) ++ L) := ((CellsOk.refl M).set hb_pd).app (by simp)
theorem fin_dl {M L : Mem} {k : Nat} {d : D} {c s t : Int} {E : Exn → Mem → Prop} {Q : D → Mem → Prop} (hd : noH d = true) (hv : ∀ L, hb L d = true) (q : Q d (M.set k (Pd c s t))) : P (finish .frz M (M.set k (Pd c s t) ++ L) d) E Q :=
  p_finD (fun z => by cases z) hd (ck L) (hv _) cm q
theorem fin_hl {M L : Mem} {k j : Nat} {d : D} {c s t : Int} {E : Exn → Mem → Prop} {Q : D → Mem → Prop} (hj : (M.set k (Pd c s t) ++ L)[j]? = some d) (hk : M.length ≤ j) (hv : ∀ L, hb L d = true) (q : Q d (M.set k (Pd c s t))) : P (finish .frz M (M.set k (Pd c s t) ++ L) (.h j)) E Q :=
  p_finF hk hj (ck L) (hv _) cm q
section
variable {M : Mem} {k : Nat} {c s t : Int} {E : Exn → Mem → Prop} {Q : D → Mem → Prop} {w : Nat → Str}
theorem near_spec {n : Nt} (ok : NtOk n) (hM : M[k]? = some (Pd c s t)) (hw : ∀ i, (w i).length ≤ 24) (q : ∀ n c s t, NtOk n → Q (ND n) (M.set k (Pd c s t))) :
    P (F__law_near [.h k, .lst (Ls 6 fun i => Tx (w i)), ND n] M) E Q := by
  unfold F__law_near
  walk_at "def"
  unfold B__law_near
  refine s_seq (s_asg ?_)
  walk_at "gos"
  refine draw_spec hM (by omega) (by omega) (fun r c s t r0 r1 => ?_)
  refine s_seq ?_
  refine SP.cut (fun ρ M1 => ∃ (m : Nt) (c s t : Int), NtOk m ∧ ρ = [some (.h k), some (.lst (Ls 6 fun i => Tx (w i))), some (ND n), some (Tx m.ident), some (I m.version), some (.tup (m.names.map Tx)), some (Tx m.cause), some (ctD m.content), some (I r)] ∧ M1 = M.set k (Pd c s t)) ?_ ?_
  · walk_at "gos"
    · refine ident_spec (get_set hM) (fun id c s t hid => ?_)
      exact ⟨⟨id, n.version, n.names, n.cause, n.content⟩, _, _, _, ⟨hid, ok.ver, ok.nl, ok.nm, ok.ca, ok.ct⟩, rfl, List.set_set ..⟩
    · exact ⟨n, _, _, _, ok, rfl, rfl⟩
  rintro _ _ ⟨m, c, s, t, om, rfl, rfl⟩
  refine s_seq ?_
  refine SP.cut (fun ρ M1 => ∃ (m : Nt) (c s t : Int), NtOk m ∧ ρ = [some (.h k), some (.lst (Ls 6 fun i => Tx (w i))), some (ND n), some (Tx m.ident), some (I m.version), some (.tup (m.names.map Tx)), some (Tx m.cause), some (ctD m.content), some (I r)] ∧ M1 = M.set k (Pd c s t)) ?_ ?_
  · walk_at "gos"
    · refine version_spec (get_set hM) (fun v c s t v0 v1 => ?_)
      exact ⟨⟨m.ident, v, m.names, m.cause, m.content⟩, _, _, _, ⟨om.id, by show v.natAbs < _; omega, om.nl, om.nm, om.ca, om.ct⟩, rfl, List.set_set ..⟩
    · exact ⟨m, _, _, _, om, rfl, rfl⟩
  rintro _ _ ⟨m, c, s, t, om, rfl, rfl⟩
  refine s_seq ?_
  refine SP.cut (fun ρ M1 => ∃ (m : Nt) (c s t : Int), NtOk m ∧ ρ = [some (.h k), some (.lst (Ls 6 fun i => Tx (w i))), some (ND n), some (Tx m.ident), some (I m.version), some (.tup (m.names.map Tx)), some (Tx m.cause), some (ctD m.content), some (I r)] ∧ M1 = M.set k (Pd c s t)) ?_ ?_
  · walk_at "gos"
    · refine some_spec (get_set hM) hw (fun ss c s t hl hs => ?_)
      exact ⟨⟨m.ident, m.version, ss, m.cause, m.content⟩, _, _, _, ⟨om.id, om.ver, hl, hs, om.ca, om.ct⟩, rfl, List.set_set ..⟩
    · exact ⟨m, _, _, _, om, rfl, rfl⟩
  rintro _ _ ⟨m, c, s, t, om, rfl, rfl⟩
  refine s_seq ?_
  refine SP.cut (fun ρ M1 => ∃ (m : Nt) (c s t : Int), NtOk m ∧ ρ = [some (.h k), some (.lst (Ls 6 fun i => Tx (w i))), some (ND n), some (Tx m.ident), some (I m.version), some (.tup (m.names.map Tx)), some (Tx m.cause), some (ctD m.content), some (I r)] ∧ M1 = M.set k (Pd c s t)) ?_ ?_
  · walk_at "gos"
    · refine cause_spec (get_set hM) hw (fun ca c s t hc => ?_)
      exact ⟨⟨m.ident, m.version, m.names, ca, m.content⟩, _, _, _, ⟨om.id, om.ver, om.nl, om.nm, hc, om.ct⟩, rfl, List.set_set ..⟩
    · exact ⟨m, _, _, _, om, rfl, rfl⟩
  rintro _ _ ⟨m, c, s, t, om, rfl, rfl⟩
  refine s_seq ?_
  refine SP.cut (fun ρ M1 => ∃ (m : Nt) (c s t : Int), NtOk m ∧ ρ = [some (.h k), some (.lst (Ls 6 fun i => Tx (w i))), some (ND n), some (Tx m.ident), some (I m.version), some (.tup (m.names.map Tx)), some (Tx m.cause), some (ctD m.content), some (I r)] ∧ M1 = M.set k (Pd c s t)) ?_ ?_
  · walk_at "gos"
    · refine content_spec (get_set hM) hw (fun ct c s t hct => ?_)
      exact ⟨⟨m.ident, m.version, m.names, m.cause, ct⟩, _, _, _, ⟨om.id, om.ver, om.nl, om.nm, om.ca, hct⟩, rfl, List.set_set ..⟩
    · exact ⟨m, _, _, _, om, rfl, rfl⟩
  rintro _ _ ⟨m, c, s, t, om, rfl, rfl⟩
  walk_at "gos"
  exact fin_d rfl (fun _ => hb_nd m) (q m _ _ _ om)
abbrev PL (ns : List Nt) : D := .lst (ns.map ND)
def PK (ns : List Nt) : Prop := 1 ≤ ns.length ∧ ns.length ≤ 5 ∧ ∀ n ∈ ns, NtOk n
theorem hb_pl {L : Nat} (ns : List Nt) : hb L (PL ns) = true := hb_lst fun d hd => by
  obtain ⟨p, _, rfl⟩ := List.mem_map.mp hd
  exact hb_nd p
theorem p_pool {ns : List Nt} {x : D} {i : Int} (h : seqOf M x = some (ns.map ND)) (hn : ∀ n ∈ ns, NtOk n) (h0 : 0 ≤ i) (h1 : i < (ns.length : Int)) (q : ∀ n, NtOk n → Q (ND n) M) : P (gIx x (I i) M) E Q := by
  obtain ⟨n, h2, h3⟩ := atI_map (xs := ns) ND h0 h1
  exact p_ixS h h3 (q n (hn n h2))
theorem pool_spec {sc : D} (hp : ∀ (place : Int) (M : Mem) (Q : D → Mem → Prop), 0 ≤ place → place ≤ 10 → (∀ c s t, Q (.h M.length) (M ++ [Pd c s t])) → P (F__law_pot [sc, I place] M) NoE Q) (q : ∀ ns, PK ns → Q (PL ns) []) : P (F__law_pool [sc] []) NoE Q := by
  unfold F__law_pool
  walk_at "def"
  unfold B__law_pool
  walk_at "gos"
  refine hp _ _ _ (by omega) (by omega) (fun c s t => ?_)
  walk_at "gos"
  refine names_spec (fun ws c s t hl6 hw => ?_)
  obtain ⟨w, ew, hw'⟩ : ∃ w : Nat → Str, (ws.map Tx = Ls 6 fun i => Tx (w i)) ∧ ∀ i, (w i).length ≤ 24 := by
    refine ⟨fun i => ws.getD i "", ?_, fun i => ?_⟩
    · have h := congrArg (List.map Tx) (Ls_list (xs := ws) "")
      rw [Ls_map, hl6] at h
      exact h
    · show (ws.getD i "").length ≤ 24
      by_cases hi : i < ws.length
      · rw [List.getD_eq_getElem?_getD, List.getElem?_eq_getElem hi]
        exact hw _ (List.getElem_mem hi)
      · rw [List.getD_eq_getElem?_getD, List.getElem?_eq_none (by omega)]
        exact Nat.zero_le _
  rw [ew]
  clear ew hw hl6
  walk_at "gos"
  refine hp _ _ _ (by omega) (by omega) (fun c2 s2 t2 => ?_)
  walk_at "gos"
  refine note_spec rfl hw' (fun n c2 s2 t2 hn => ?_)
  walk_at "gos"
  refine draw_spec rfl (by omega) (by omega) (fun r c2 s2 t2 r0 r1 => ?_)
  walk_at "gos"
  refine ⟨by omega, ?_⟩
  refine s_forL (fun i ρ M => ∃ (ns : List Nt) (u : Option D) (c2 s2 t2 : Int), ρ = [some sc, some (.lst (Ls 6 fun i => Tx (w i))), some (.h 1), some (.h 2), u] ∧ M = [Pd c s t, Pd c2 s2 t2, PL ns] ∧ ns.length = i + 1 ∧ ∀ n ∈ ns, NtOk n) ⟨[n], none, _, _, _, rfl, rfl, rfl, by simpa using hn⟩ (fun _ _ _ _ => trivial) ?_ ?_
  · rintro i d _ _ hd ⟨ns, u, c2, s2, t2, rfl, rfl, hl, hns⟩
    obtain ⟨rfl, hi⟩ := rangeD_get hd
    refine ⟨_, rfl, ?_⟩
    have app : ∀ m, NtOk m → ∀ x ∈ ns ++ [m], NtOk x := fun m hm x hx => by
      rcases List.mem_append.mp hx with h8 | h8
      · exact hns x h8
      · rw [List.mem_singleton.mp h8]; exact hm
    walk_at "gos"
    refine draw_spec rfl (by omega) (by omega) (fun r2 c2 s2 t2 r20 r21 => ?_)
    walk_at "gos"
    · refine note_spec rfl hw' (fun m c2 s2 t2 hm => ?_)
      walk_at "gos"
      exact ⟨ns ++ [m], _, c2, s2, t2, rfl, by simp [PL], by simp [hl], app m hm⟩
    · rw [List.length_map]
      refine draw_spec rfl (by omega) (by omega) (fun r3 c2 s2 t2 r30 r31 => ?_)
      refine p_pool (ns := ns) rfl hns r30 r31 (fun m hm => ?_)
      walk_at "gos"
      refine near_spec hm rfl hw' (fun m c2 s2 t2 hm => ?_)
      walk_at "gos"
      exact ⟨ns ++ [m], _, c2, s2, t2, rfl, by simp [PL], by simp [hl], app m hm⟩
  · rintro _ _ ⟨ns, u, c2, s2, t2, rfl, rfl, hl, hns⟩
    rw [rangeD_len] at hl
    walk_at "gos"
    exact p_finF (Nat.zero_le _) rfl (CellsOk.app (CellsOk.refl []) (L := _) (Nat.le_refl _)) (hb_pl ns) rfl (q ns ⟨by omega, by omega, hns⟩)
theorem day_spec (hM : M[k]? = some (Pd c s t)) (q : ∀ i c s t, i.natAbs < 2 ^ 40 → Q (I i) (M.set k (Pd c s t))) : P (F__law_day [.h k] M) E Q := by
  unfold F__law_day
  walk_at "def"
  unfold B__law_day
  walk_at "gos"
  refine draw_spec hM (by omega) (by omega) (fun r c s t r0 r1 => ?_)
  walk_at "gos"
  · refine draw_spec (get_set hM) (by omega) (by omega) (fun r2 c s t r20 r21 => ?_)
    walk_at "gos"
    exact fin_v (q _ _ _ _ (by omega))
  · refine draw_spec (get_set hM) (by omega) (by omega) (fun r2 c s t r20 r21 => ?_)
    walk_at "gos"
    exact fin_v (q _ _ _ _ (by omega))
theorem entry_spec {ns : List Nt} (hn : PK ns) (hM : M[k]? = some (Pd c s t)) (q : ∀ e c s t, EnOk e → Q (ED e) (M.set k (Pd c s t))) : P (F__law_entry [.h k, PL ns] M) E Q := by
  obtain ⟨n0, n1, hns⟩ := hn
  unfold F__law_entry
  walk_at "def"
  unfold B__law_entry
  walk_at "gos"
  refine draw_spec hM (by omega) (by omega) (fun r c s t r0 r1 => ?_)
  walk_at "gos"
  · refine day_spec (get_set hM) (fun i c s t hi => ?_)
    walk_at "gos"
    exact fin_d rfl (fun _ => rfl) (q (.run i) _ _ _ hi)
  · rw [List.length_map]
    refine draw_spec (get_set hM) (by omega) (by omega) (fun r3 c s t r30 r31 => ?_)
    refine p_pool (ns := ns) rfl hns r30 r31 (fun m hm => ?_)
    walk_at "gos"
    exact fin_d rfl (fun _ => hb_ed (.note m)) (q (.note m) _ _ _ hm)
theorem journal_spec {ns : List Nt} (hn : PK ns) (hM : M[k]? = some (Pd c s t)) (q : ∀ es c s t, JK 12 es → Q (JD es) (M.set k (Pd c s t))) : P (F__law_journal [.h k, PL ns] M) E Q := by
  unfold F__law_journal
  walk_at "def"
  unfold B__law_journal
  walk_at "gos"
  refine draw_spec hM (by omega) (by omega) (fun n c s t n0 n1 => ?_)
  walk_at "gos"
  refine ⟨by omega, by rw [rangeD_len]; omega, ?_⟩
  refine p_lcL (fun i acc M1 => ∃ (es : List En) (c s t : Int), acc = es.map ED ∧ es.length = i ∧ (∀ x ∈ es, EnOk x) ∧ M1 = M.set k (Pd c s t)) ⟨[], c, s, t, rfl, rfl, by simp, rfl⟩ (fun _ _ _ _ => trivial) ?_ ?_
  · rintro i d _ _ hd ⟨es, c1, s1, t1, rfl, hl, hs, rfl⟩
    obtain ⟨rfl, hi⟩ := rangeD_get hd
    refine ⟨_, rfl, ?_⟩
    walk_at "gos"
    refine entry_spec hn (get_set hM) (fun e c s t he => ?_)
    exact ⟨es ++ [e], _, _, _, by rw [List.map_append]; rfl, by simp; omega, fun x hx => by
        rcases List.mem_append.mp hx with h8 | h8
        · exact hs x h8
        · rw [List.mem_singleton.mp h8]; exact he, by first | rw [List.set_set] | rfl⟩
  · rintro _ _ ⟨es, c1, s1, t1, rfl, hl, hs, rfl⟩
    rw [rangeD_len] at hl
    walk_at "gos"
    exact fin_d rfl (fun _ => hb_jd es) (q es _ _ _ ⟨by omega, hs⟩)
end
local macro_rules | `(tactic| walk_at "len") => `(tactic| (simp only [len_app, l_emp, l_dot, l_sp, l_co, l_da, l_st, l_ov, l_ss, l_le, l_ru]; omega))
local macro_rules | `(tactic| walk_at "gw") => `(tactic| repeat' (first | walk_at "go1" | ((with_reducible refine p_append get_new ?_ ?_); (· first | (simp; done) | (simp; omega))) | walk_at "split" | ((with_reducible refine p_addS ?_ ?_); (· walk_at "len")) | ((with_reducible refine And.intro ?_ ?_); (· walk_at "len")) | fail))
theorem take_map {α β : Type} {f : α → β} {l : List α} {i : Nat} {x : α} (h : l[i]? = some x) : (l.take (i + 1)).map f = (l.take i).map f ++ [f x] := by
  rw [List.take_add_one, h, List.map_append]; rfl
theorem get_map {α β : Type} {f : α → β} {l : List α} {i : Nat} {d : β} (h : (l.map f)[i]? = some d) : ∃ x, l[i]? = some x ∧ x ∈ l ∧ d = f x := by
  rw [List.getElem?_map] at h
  obtain ⟨x, h1, h2⟩ := Option.map_eq_some_iff.mp h
  exact ⟨x, h1, List.mem_of_getElem? h1, h2.symm⟩
theorem cutG_mem {α : Type} {xs : List α} {lo hi : Option Int} {x : α} (h : x ∈ cutG xs lo hi) : x ∈ xs := by
  unfold cutG at h
  exact List.mem_of_mem_drop (List.mem_of_mem_take h)
theorem JK.cut {n : Nat} {es : List En} (h : JK n es) (lo hi : Option Int) : JK n (cutG es lo hi) := ⟨Nat.le_trans (cutG_len _ _ _) h.1, fun e he => h.2 e (cutG_mem he)⟩
theorem JK.app {n m : Nat} {es fs : List En} (h : JK n es) (h2 : JK m fs) : JK (n + m) (es ++ fs) := ⟨by rw [List.length_append]; have := h.1; have := h2.1; omega, fun e he => by
  rcases List.mem_append.mp he with h8 | h8
  · exact h.2 e h8
  · exact h2.2 e h8⟩
theorem JK.one {e : En} (h : EnOk e) : JK 1 [e] := ⟨Nat.le_refl _, fun x hx => by rw [List.mem_singleton.mp hx]; exact h⟩
theorem JK.nil {n : Nat} : JK n [] := ⟨Nat.zero_le _, fun x hx => by simp at hx⟩
theorem JK.rev {n : Nat} {es : List En} (h : JK n es) : JK n es.reverse := ⟨by rw [List.length_reverse]; exact h.1, fun e he => h.2 e (List.mem_reverse.mp he)⟩
theorem JK.mono {n m : Nat} {es : List En} (h : JK n es) (l : n ≤ m) : JK m es := ⟨Nat.le_trans h.1 l, h.2⟩
theorem JK.set {n : Nat} {es : List En} (h : JK n es) {e : En} (he : EnOk e) (j : Nat) : JK n (es.set j e) := ⟨by rw [List.length_set]; exact h.1, fun x hx => by
  rcases List.mem_or_eq_of_mem_set hx with h8 | h8
  · exact h.2 x h8
  · rw [h8]; exact he⟩
def repE (n : Nat) (es : List En) : List En := (List.replicate n es).flatten
theorem repE_map (n : Nat) (es : List En) : repD n (es.map ED) = (repE n es).map ED := by
  unfold repD repE
  rw [List.map_flatten, List.map_replicate]
theorem JK.rep {n : Nat} {es : List En} (h : JK n es) (m : Nat) : JK (n * m) (repE m es) := by
  refine ⟨?_, fun e he => ?_⟩
  · have e := congrArg List.length (repE_map m es)
    rw [repD_len, List.length_map, List.length_map] at e
    rw [← e]
    exact Nat.mul_le_mul_right _ h.1
  · unfold repE at he
    obtain ⟨l, h1, h2⟩ := List.mem_flatten.mp he
    rw [(List.mem_replicate.mp h1).2] at h2
    exact h.2 e h2
section
variable {M : Mem} {k : Nat} {c s t : Int} {E : Exn → Mem → Prop} {Q : D → Mem → Prop} {w : Nat → Str}
theorem p_addE {xs ys : List En} (h : xs.length + ys.length ≤ 16777216) (q : Q (JD (xs ++ ys)) M) : P (gAdd (JD xs) (JD ys) M) E Q :=
  p_addL (by simpa using h) (by rw [← List.map_append]; exact q)
theorem p_ent {es : List En} {x : D} {i : Int} (h : seqOf M x = some (es.map ED)) (h0 : 0 ≤ i) (h1 : i < (es.length : Int)) (q : ∀ e ∈ es, Q (ED e) M) : P (gIx x (I i) M) E Q := by
  obtain ⟨e, h2, h3⟩ := atI_map (xs := es) ED h0 h1
  exact p_ixS h h3 (q e h2)
def wordE : En → Str
  | .run _ => "run"
  | .note _ => "learn"
theorem p_word {e : En} (q : Q (Tx (wordE e)) M) : P (gIx (ED e) (I 0) M) E Q := by
  cases e with
  | run i => exact p_ixS rfl rfl q
  | note n => exact p_ixS rfl rfl q
theorem repeated_spec {es : List En} (hes : JK 12 es) (hM : M[k]? = some (Pd c s t)) (q : ∀ es c s t, JK 5000 es → Q (JD es) (M.set k (Pd c s t))) : P (F__law_repeated [.h k, JD es] M) E Q := by
  have hl := hes.1
  unfold F__law_repeated
  walk_at "def"
  unfold B__law_repeated
  refine s_seq ?_
  refine SP.cut (fun ρ M1 => ∃ (m : Nat), ρ = [some (.h k), some (JD es), some (I m), none] ∧ M1 = M ∧ m ≤ es.length) ?_ ?_
  · walk_at "gos"
    refine ⟨by simp; omega, ?_⟩
    refine p_lcL (fun i acc M1 => acc.length ≤ i ∧ M1 = M) ⟨Nat.le_refl _, rfl⟩ (fun _ _ _ _ => trivial) ?_ ?_
    · rintro i d acc _ hd ⟨ha, rfl⟩
      obtain ⟨e, h1, h2, rfl⟩ := get_map hd
      refine ⟨_, rfl, ?_⟩
      walk_at "gos"
      refine p_word ?_
      walk_at "gos"
      · exact ⟨by simp; omega, rfl⟩
      · exact ⟨by omega, rfl⟩
    · rintro acc _ ⟨ha, rfl⟩
      rw [List.length_map] at ha
      walk_at "gos"
      first | exact ⟨rfl, ha⟩ | exact ⟨_, rfl, rfl, ha⟩
  rintro _ _ ⟨m, rfl, rfl, hm⟩
  walk_at "gos"
  refine draw_spec hM (by omega) (by omega) (fun r c s t r0 r1 => ?_)
  walk_at "gos"
  · exact fin_d rfl (fun _ => hb_jd es) (q es _ _ _ (hes.mono (by omega)))
  · exact fin_d rfl (fun _ => hb_jd es) (q es _ _ _ (hes.mono (by omega)))
  · rename_i hz
    rw [List.length_map] at hz ⊢
    have hm2 : ∃ j : Int, (if (es.length : Int) - (m : Int) > (m : Int) then (es.length : Int) - (m : Int) else (m : Int)) = j ∧ 0 < j ∧ j ≤ 12 := by
      split
      · exact ⟨_, rfl, by omega, by omega⟩
      · exact ⟨_, rfl, by omega, by omega⟩
    obtain ⟨j, ej, j0, j1⟩ := hm2
    rw [ej]
    refine p_div (pdiv_n (by omega) (by omega)) ?_
    have d0 : 0 ≤ (396 : Int) / j := Int.ediv_nonneg (by omega) (by omega)
    have d1 : (396 : Int) / j ≤ 396 := Int.ediv_le_self _ (by omega)
    generalize (396 : Int) / j = d at *
    refine p_rep (ds := es.map ED) rfl d0 (by omega) ?_ ?_
    · rw [List.length_map]
      have h1 : d.toNat ≤ 396 := by omega
      exact Nat.le_trans (Nat.mul_le_mul hl h1) (by decide)
    · rw [repE_map]
      refine fin_d rfl (fun _ => hb_jd _) (q (repE d.toNat es) _ _ _ ((hes.rep _).mono ?_))
      have h1 : d.toNat ≤ 396 := by omega
      exact Nat.le_trans (Nat.mul_le_mul_left _ h1) (by decide)
theorem flipped_spec {n : Nat} {es : List En} {place : Int} (hes : JK n es) (hn : n ≤ 200000) (p0 : 0 ≤ place) (p1 : place < (es.length : Int)) (q : ∀ es, JK (n + n + n) es → Q (JD es) M) : P (F__law_flipped [JD es, I place] M) E Q := by
  have hl := hes.1
  unfold F__law_flipped
  walk_at "def"
  unfold B__law_flipped
  refine s_seq (s_set ?_)
  walk_at "gos"
  refine SP.cut (fun ρ M1 => ∃ low : Int, ρ = [some (JD es), some (I place), some (I low), none] ∧ M = M1 ∧ 0 ≤ low ∧ low ≤ place) ?_ ?_
  · refine s_while (fun m ρ M1 => ∃ low : Int, m = low.toNat ∧ ρ = [some (JD es), some (I place), some (I low), none] ∧ M = M1 ∧ 0 ≤ low ∧ low ≤ place) place.toNat (by show _ < 300000; omega) ⟨place, rfl, rfl, rfl, p0, Int.le_refl _⟩ ?_
    rintro m _ _ ⟨low, rfl, rfl, rfl, l0, l1⟩
    walk_at "gos"
    · refine p_ent (es := es) rfl (by omega) (by omega) (fun e he => ?_)
      refine p_c (p_word ?_)
      walk_at "gos"
      · exact ⟨(low - 1).toNat, by omega, low - 1, rfl, rfl, rfl, by omega, by omega⟩
      · exact ⟨rfl, l0, l1⟩
    · exact ⟨rfl, l0, l1⟩
  rintro _ _ ⟨low, rfl, rfl, l0, l1⟩
  walk_at "gos"
  refine SP.cut (fun ρ M1 => ∃ high : Int, ρ = [some (JD es), some (I place), some (I low), some (I high)] ∧ M = M1) ?_ ?_
  · refine s_while (fun m ρ M1 => ∃ high : Int, m = ((es.length : Int) - high).toNat ∧ ρ = [some (JD es), some (I place), some (I low), some (I high)] ∧ M = M1 ∧ 0 ≤ high) ((es.length : Int) - place).toNat (by show _ < 300000; omega) ⟨place, rfl, rfl, rfl, p0⟩ ?_
    rintro m _ _ ⟨high, rfl, rfl, rfl, l0⟩
    walk_at "gos"
    · rename_i h
      rw [List.length_map] at h
      refine p_ent (es := es) rfl (by omega) (by omega) (fun e he => ?_)
      refine p_c (p_word ?_)
      walk_at "gos"
      · exact ⟨((es.length : Int) - (high + 1)).toNat, by omega, high + 1, rfl, rfl, rfl, by omega⟩
      · exact rfl
    · exact rfl
  rintro _ _ ⟨high, rfl, rfl⟩
  walk_at "gos"
  have c1 := cutG_len es none (some low)
  have c2 := cutG_len es (some low) (some high)
  have c3 := cutG_len es (some high) none
  simp only [cutG_map, ← List.map_reverse]
  refine p_addE (xs := cutG es none (some low)) (ys := (cutG es (some low) (some high)).reverse) (by simp; omega) ?_
  walk_at "gos"
  simp only [cutG_map]
  refine p_addE (xs := cutG es none (some low) ++ (cutG es (some low) (some high)).reverse) (ys := cutG es (some high) none) (by simp; omega) ?_
  exact p_finD (fun z => by cases z) rfl (CellsOk.refl _) (hb_jd _) List.take_length (q _ (((hes.cut _ _).app (hes.cut _ _).rev).app (hes.cut _ _)))
end
section
variable {M : Mem} {k : Nat} {c s t : Int} {E : Exn → Mem → Prop} {Q : D → Mem → Prop} {w : Nat → Str}
theorem ix_of {n : Nat} {z : Int} (h0 : 0 ≤ z) (h1 : z < (n : Int)) : ixN n z = some z.toNat := by
  unfold ixN
  rw [if_pos h0, if_pos h1]
theorem turned_tail {n : Nat} {ns : List Nt} {es rest : List En} {d3 c0 : D} {kd place other : Int} (hns : PK ns) (hes : JK n es) (hrest : JK (n + n) rest) (hn : n ≤ 200000) (p0 : 0 ≤ place) (p1 : place < (es.length : Int)) (o0 : 0 ≤ other) (o1 : other < (es.length : Int)) (hM : M[k]? = some c0)
    (q : ∀ es c s t, JK (n + n + n + n + 1) es → Q (JD es) (M.set k (Pd c s t))) :
    SP (B__law_turned_16 [some (.h k), some (PL ns), some (JD es), some d3, some (I (es.length : Int)), some (I kd), some (I place), some (I other), some (.h M.length)] (M.set k (Pd c s t) ++ [JD rest]))
      (fun _ M1 => P (finish .frz M M1 No) E Q) (fun d M1 => P (finish .frz M M1 d) E Q) (fun _ _ => False) (fun _ _ => False) (fun x _ M1 => E x M1) := by
  have hl := hes.1
  have hl2 := hrest.1
  have g1 : (M.set k (Pd c s t) ++ [JD rest])[M.length]? = some (.lst (rest.map ED)) := by
    have := @get_new (M.set k (Pd c s t)) (JD rest)
    rw [List.length_set] at this
    exact this
  have cl : ∀ (xs : List En) lo hi, (cutG xs lo hi).length ≤ xs.length := fun xs lo hi => cutG_len xs lo hi
  have hk : k < (M.set k (Pd c s t)).length := by rw [List.length_set]; exact (List.getElem?_eq_some_iff.mp hM).1
  unfold B__law_turned_16
  walk_at "gos"
  · refine p_listH (ds := es.map ED) rfl ?_
    walk_at "gos"
    refine p_ent (es := es) rfl o0 o1 (fun e1 h1 => ?_)
    walk_at "gos"
    refine p_store (j := place.toNat) get_new (ix_of p0 (by simpa using p1)) ?_
    rw [set_new]
    walk_at "gos"
    refine p_ent (es := es) rfl p0 p1 (fun e2 h2 => ?_)
    walk_at "gos"
    refine p_store (j := other.toNat) get_new (ix_of o0 (by simpa using o1)) ?_
    rw [set_new]
    walk_at "gos"
    have e : ((es.map ED).set place.toNat (ED e1)).set other.toNat (ED e2) = ((es.set place.toNat e1).set other.toNat e2).map ED := by rw [List.map_set, List.map_set]
    rw [e, List.append_assoc]
    refine fin_hl (j := (M.set k (Pd c s t) ++ [JD rest]).length) (d := JD ((es.set place.toNat e1).set other.toNat e2)) ?_ (by simp) (fun _ => hb_jd _) (q _ _ _ _ (((hes.set (hes.2 _ h1) _).set (hes.2 _ h2) _).mono (by omega)))
    rw [← List.append_assoc]
    exact get_new
  · exact fin_hl (d := JD rest) g1 (Nat.le_refl _) (fun _ => hb_jd _) (q _ _ _ _ (hrest.mono (by omega)))
  · refine p_ent (es := es) rfl p0 p1 (fun e1 h1 => ?_)
    walk_at "gos"
    have c1 := cl es none (some other)
    have c2 := cl es (some other) none
    simp only [cutG_map]
    refine p_addE (xs := cutG es none (some other)) (ys := [e1]) (by simp; omega) ?_
    walk_at "gos"
    simp only [cutG_map]
    refine p_addE (xs := cutG es none (some other) ++ [e1]) (ys := cutG es (some other) none) (by simp; omega) ?_
    exact fin_dl rfl (fun _ => hb_jd _) (q _ _ _ _ ((((hes.cut _ _).app (JK.one (hes.2 _ h1))).app (hes.cut _ _)).mono (by omega)))
  · refine p_slL (lstOf_h g1) ?_
    walk_at "gos"
    refine p_ent (es := es) rfl p0 p1 (fun e1 h1 => ?_)
    walk_at "gos"
    have c1 := cl rest none (some other)
    have c2 := cl rest (some other) none
    simp only [cutG_map]
    refine p_addE (xs := cutG rest none (some other)) (ys := [e1]) (by simp; omega) ?_
    walk_at "gos"
    refine p_slL (lstOf_h g1) ?_
    simp only [cutG_map]
    refine p_addE (xs := cutG rest none (some other) ++ [e1]) (ys := cutG rest (some other) none) (by simp; omega) ?_
    exact fin_dl rfl (fun _ => hb_jd _) (q _ _ _ _ ((((hrest.cut _ _).app (JK.one (hes.2 _ h1))).app (hrest.cut _ _)).mono (by omega)))
  · refine entry_spec hns (get_app (get_set hM)) (fun e1 c s t h1 => ?_)
    rw [set_app hk, List.set_set]
    walk_at "gos"
    have c1 := cl es none (some place)
    have c2 := cl es (some (place + 1)) none
    simp only [cutG_map]
    refine p_addE (xs := cutG es none (some place)) (ys := [e1]) (by simp; omega) ?_
    walk_at "gos"
    simp only [cutG_map]
    refine p_addE (xs := cutG es none (some place) ++ [e1]) (ys := cutG es (some (place + 1)) none) (by simp; omega) ?_
    exact fin_dl rfl (fun _ => hb_jd _) (q _ _ _ _ ((((hes.cut _ _).app (JK.one h1)).app (hes.cut _ _)).mono (by omega)))
  · refine flipped_spec hes hn p0 p1 (fun fs hf => ?_)
    exact fin_dl rfl (fun _ => hb_jd _) (q _ _ _ _ (hf.mono (by omega)))
  · rw [← List.map_reverse]
    exact fin_dl rfl (fun _ => hb_jd es.reverse) (q _ _ _ _ (hes.rev.mono (by omega)))
theorem turned_spec {n : Nat} {ns : List Nt} {es : List En} {ks : List Int} (hns : PK ns) (hes : JK n es) (hn : n ≤ 200000) (k0 : 1 ≤ ks.length) (k1 : ks.length ≤ 100) (hM : M[k]? = some (Pd c s t))
    (q : ∀ es c s t, JK (n + n + n + n + 1) es → Q (JD es) (M.set k (Pd c s t))) : P (F__law_turned [.h k, PL ns, JD es, .lst (ks.map I)] M) E Q := by
  have hl := hes.1
  unfold F__law_turned
  walk_at "def"
  unfold B__law_turned
  walk_at "gos"
  rw [List.length_map, List.length_map]
  refine draw_spec hM (by omega) (by omega) (fun r c s t r0 r1 => ?_)
  refine p_ixLI r0 (by rw [List.length_map]; exact r1) ?_
  generalize ks.getD r.toNat 0 = kd
  walk_at "gos"
  · refine entry_spec hns (get_set hM) (fun e c s t he => ?_)
    walk_at "gos"
    exact fin_d rfl (fun _ => hb_jd [e]) (q [e] _ _ _ ((JK.one he).mono (by omega)))
  · exact fin_d rfl (fun _ => hb_jd []) (q [] _ _ _ JK.nil)
  · rename_i hz
    have hz : es.length ≠ 0 := fun z => hz (by rw [z]; rfl)
    refine draw_spec (get_set hM) (by omega) (by omega) (fun place c s t p0 p1 => ?_)
    walk_at "gos"
    refine draw_spec (get_set hM) (by omega) (by omega) (fun other c s t o0 o1 => ?_)
    have c1 := cutG_len es none (some place)
    have c2 := cutG_len es (some (place + 1)) none
    have hr := (hes.cut none (some place)).app (hes.cut (some (place + 1)) none)
    walk_at "gos"
    · simp only [cutG_map]
      refine p_addH (xs := (cutG es none (some place)).map ED) (ys := (cutG es (some (place + 1)) none).map ED) rfl rfl (by simp; omega) ?_
      rw [← List.map_append, List.length_set]
      have ho : ∃ o : Int, (if (es.length : Int) - 1 < place + 1 then (es.length : Int) - 1 else place + 1) = o ∧ 0 ≤ o ∧ o < (es.length : Int) := by
        split
        · exact ⟨_, rfl, by omega, by omega⟩
        · exact ⟨_, rfl, by omega, by omega⟩
      obtain ⟨o, eo, oo0, oo1⟩ := ho
      rw [eo]
      exact turned_tail hns hes hr hn p0 p1 oo0 oo1 hM q
    · simp only [cutG_map]
      refine p_addH (xs := (cutG es none (some place)).map ED) (ys := (cutG es (some (place + 1)) none).map ED) rfl rfl (by simp; omega) ?_
      rw [← List.map_append, List.length_set]
      exact turned_tail hns hes hr hn p0 p1 o0 o1 hM q
end
/-! days and parts of a journal -/
structure Sp where
  ds : List Int
  p0 : List Nt
  rs : List (List Nt)
def addLast (rs : List (List Nt)) (n : Nt) : List (List Nt) := rs.dropLast ++ [(rs.getLast?.getD []) ++ [n]]
def stepS (s : Sp) : En → Sp
  | .run i => ⟨s.ds ++ [i], s.p0, s.rs ++ [[]]⟩
  | .note n => match s.rs with
    | [] => ⟨s.ds, s.p0 ++ [n], []⟩
    | r :: rs => ⟨s.ds, s.p0, addLast (r :: rs) n⟩
def spl (es : List En) : Sp := es.foldl stepS ⟨[], [], []⟩
theorem spl_snoc (es : List En) (e : En) : spl (es ++ [e]) = stepS (spl es) e := by
  unfold spl; rw [List.foldl_append]; rfl
theorem addLast_snoc (r : List (List Nt)) (l : List Nt) (n : Nt) : addLast (r ++ [l]) n = r ++ [l ++ [n]] := by
  unfold addLast
  rw [List.dropLast_concat, List.getLast?_concat]; rfl
/-- sizes -/
def SpOk (i : Nat) (s : Sp) : Prop := s.ds.length ≤ i ∧ s.p0.length ≤ i ∧ s.rs.length ≤ i ∧ ∀ p ∈ s.rs, p.length ≤ i
theorem SpOk.step {i : Nat} {s : Sp} (h : SpOk i s) (e : En) : SpOk (i + 1) (stepS s e) := by
  obtain ⟨h1, h2, h3, h4⟩ := h
  cases e with
  | run j =>
    refine ⟨by show (s.ds ++ [j]).length ≤ _; simp; omega, by show s.p0.length ≤ _; omega, by show (s.rs ++ [[]]).length ≤ _; simp; omega, fun p hp => ?_⟩
    rcases List.mem_append.mp (show p ∈ s.rs ++ [[]] from hp) with h8 | h8
    · have := h4 p h8; omega
    · rw [List.mem_singleton.mp h8]; simp
  | note n =>
    obtain ⟨ds, p0, rs⟩ := s
    rcases List.eq_nil_or_concat rs with e | ⟨r, l, e⟩
    · subst e
      exact ⟨by show ds.length ≤ _; have : ds.length ≤ i := h1; omega, by show (p0 ++ [n]).length ≤ _; have : p0.length ≤ i := h2; simp; omega, Nat.zero_le _, fun p hp => by simp [stepS] at hp⟩
    · rw [List.concat_eq_append] at e
      subst e
      have e2 : stepS ⟨ds, p0, r ++ [l]⟩ (.note n) = ⟨ds, p0, r ++ [l ++ [n]]⟩ := by
        rw [← addLast_snoc]
        cases r <;> rfl
      rw [e2]
      have h3 : (r ++ [l]).length ≤ i := h3
      rw [List.length_append] at h3
      refine ⟨by show ds.length ≤ _; have : ds.length ≤ i := h1; omega, by show p0.length ≤ _; have : p0.length ≤ i := h2; omega, by show (r ++ [l ++ [n]]).length ≤ _; rw [List.length_append]; simp at h3 ⊢; omega, fun p hp => ?_⟩
      rcases List.mem_append.mp (show p ∈ r ++ [l ++ [n]] from hp) with h8 | h8
      · have := h4 p (List.mem_append_left _ h8); omega
      · rw [List.mem_singleton.mp h8]
        have := h4 l (List.mem_append_right _ (List.mem_singleton.mpr rfl))
        simp; omega
theorem step_note {ds : List Int} {p0 : List Nt} {r : List (List Nt)} {l : List Nt} {n : Nt} : stepS ⟨ds, p0, r ++ [l]⟩ (.note n) = ⟨ds, p0, r ++ [l ++ [n]]⟩ := by
  rw [← addLast_snoc]
  cases r <;> rfl
/-- the cells of the parts -/
def hs (L m : Nat) : List D := .h (L + 1) :: (List.range m).map fun j => .h (L + 3 + j)
theorem hs_succ (L m : Nat) : hs L (m + 1) = hs L m ++ [.h (L + 3 + m)] := by
  unfold hs
  rw [List.range_succ, List.map_append]; rfl
theorem hs_len (L m : Nat) : (hs L m).length = m + 1 := by simp [hs]
theorem atI_last {α : Type} {xs : List α} {x : α} : atI (xs ++ [x]) (-1) = some x := by
  unfold atI ixN
  rw [if_neg (by omega), if_pos (by simp; omega)]
  show (xs ++ [x])[_]? = some x
  have e : ((-1 : Int) + (xs ++ [x]).length).toNat = xs.length := by simp; omega
  rw [e]
  simp
def memS (M : Mem) (s : Sp) : Mem := M ++ (.lst (s.ds.map I) :: PL s.p0 :: .lst (hs M.length s.rs.length) :: s.rs.map PL)
theorem setA {M X : Mem} {i : Nat} {d : D} : (M ++ X).set (M.length + i) d = M ++ X.set i d := by
  rw [List.set_append_right _ _ (by omega), Nat.add_sub_cancel_left]
theorem getA {M X : Mem} {i : Nat} : (M ++ X)[M.length + i]? = X[i]? := by
  rw [List.getElem?_append_right (by omega), Nat.add_sub_cancel_left]
section
variable {M : Mem} {k : Nat} {E : Exn → Mem → Prop} {Q : D → Mem → Prop}
theorem mem_d {s : Sp} : (memS M s)[M.length]? = some (.lst (s.ds.map I)) := by
  have := getA (M := M) (X := .lst (s.ds.map I) :: PL s.p0 :: .lst (hs M.length s.rs.length) :: s.rs.map PL) (i := 0)
  exact this
theorem mem_h {s : Sp} : (memS M s)[M.length + 2]? = some (.lst (hs M.length s.rs.length)) := getA
theorem mem_0 {s : Sp} : (memS M s)[M.length + 1]? = some (.lst (s.p0.map ND)) := getA
theorem mem_r {s : Sp} {j : Nat} {p : List Nt} (h : s.rs[j]? = some p) : (memS M s)[M.length + (3 + j)]? = some (.lst (p.map ND)) := by
  unfold memS
  rw [getA, Nat.add_comm 3 j]
  show (s.rs.map PL)[j]? = _
  rw [List.getElem?_map, h]; rfl
theorem tyOk_h {M : Mem} {k : Nat} {ds : List D} (h : M[k]? = some (.lst ds)) : tyOk "list" M (.h k) = true := by unfold tyOk; simp only [h]; rfl
theorem set_d {s : Sp} {j : Int} : (memS M s).set M.length (.lst (s.ds.map I ++ [I j])) = memS M ⟨s.ds ++ [j], s.p0, s.rs⟩ := by
  have := setA (M := M) (X := .lst (s.ds.map I) :: PL s.p0 :: .lst (hs M.length s.rs.length) :: s.rs.map PL) (i := 0) (d := .lst (s.ds.map I ++ [I j]))
  refine Eq.trans this ?_
  unfold memS
  rw [List.map_append]; rfl
theorem mem_len {s : Sp} : (memS M s).length = M.length + 3 + s.rs.length := by
  unfold memS; simp; omega
theorem set_h {s : Sp} : (memS M s ++ [D.lst []]).set (M.length + 2) (D.lst (hs M.length s.rs.length ++ [D.h (memS M s).length])) = memS M ⟨s.ds, s.p0, s.rs ++ [[]]⟩ := by
  rw [mem_len]
  unfold memS
  rw [List.append_assoc, setA]
  show _ = M ++ (.lst (s.ds.map I) :: PL s.p0 :: .lst (hs M.length (s.rs ++ [[]]).length) :: (s.rs ++ [[]]).map PL)
  rw [List.length_append, List.map_append, show s.rs.length + ([[]] : List (List Nt)).length = s.rs.length + 1 from rfl, hs_succ]
  rfl
theorem set_0 {ds : List Int} {p0 : List Nt} {n : Nt} : (memS M ⟨ds, p0, []⟩).set (M.length + 1) (.lst (p0.map ND ++ [ND n])) = memS M ⟨ds, p0 ++ [n], []⟩ := by
  unfold memS
  rw [setA]
  show _ = M ++ (.lst (ds.map I) :: PL (p0 ++ [n]) :: _)
  rw [show PL (p0 ++ [n]) = .lst (p0.map ND ++ [ND n]) by simp [PL]]
  rfl
theorem set_r {ds : List Int} {p0 l : List Nt} {r : List (List Nt)} {n : Nt} : (memS M ⟨ds, p0, r ++ [l]⟩).set (M.length + (3 + r.length)) (.lst (l.map ND ++ [ND n])) = memS M ⟨ds, p0, r ++ [l ++ [n]]⟩ := by
  unfold memS
  rw [setA, Nat.add_comm 3]
  show M ++ (.lst (ds.map I) :: PL p0 :: .lst (hs M.length (r ++ [l]).length) :: ((r ++ [l]).map PL).set r.length (.lst (l.map ND ++ [ND n]))) = _
  have e : ((r ++ [l]).map PL).set r.length (.lst (l.map ND ++ [ND n])) = (r ++ [l ++ [n]]).map PL := by
    rw [List.map_append, List.map_append]
    have := set_new (M := r.map PL) (c := PL l) (d := .lst (l.map ND ++ [ND n]))
    rw [List.length_map] at this
    refine Eq.trans this ?_
    simp [PL]
  rw [e, List.length_append, List.length_append]
  rfl
theorem split_loop {n : Nat} {es : List En} (hes : JK n es) (hn : n ≤ 2000000) {nx : DL.Env → Mem → Prop} {rt : D → Mem → Prop} {bk ct : DL.Env → Mem → Prop} {er : Exn → DL.Env → Mem → Prop}
    (q : ∀ t u, nx [some (JD es), some (.h M.length), some (.h (M.length + 2)), t, u] (memS M (spl es))) :
    SP (B__split_3 [some (JD es), some (.h M.length), some (.h (M.length + 2)), none, none] (memS M ⟨[], [], []⟩)) nx rt bk ct er := by
  have hl := hes.1
  unfold B__split_3
  walk_at "gos"
  refine s_forL (fun i ρ M1 => ∃ t u, ρ = [some (JD es), some (.h M.length), some (.h (M.length + 2)), t, u] ∧ M1 = memS M (spl (es.take i)) ∧ SpOk i (spl (es.take i))) ⟨none, none, rfl, rfl, by simp [SpOk, spl]⟩ (fun _ _ _ _ => trivial) ?_ ?_
  · rintro i d _ _ hd ⟨t, u, rfl, rfl, hk⟩
    obtain ⟨e, h1, h2, rfl⟩ := get_map hd
    have hi : i < es.length := (List.getElem?_eq_some_iff.mp h1).1
    have et : spl (es.take (i + 1)) = stepS (spl (es.take i)) e := by
      rw [List.take_add_one, h1]
      exact spl_snoc _ _
    have hk2 := hk.step e
    rw [et]
    generalize spl (es.take i) = s at *
    obtain ⟨k1, k2, k3, k4⟩ := hk
    cases e with
    | run j =>
      refine ⟨_, rfl, ?_⟩
      walk_at "gos"
      refine p_ty (tyOk_h mem_d) ?_
      walk_at "gos"
      refine p_append mem_d (by rw [List.length_map]; omega) ?_
      rw [set_d]
      walk_at "gos"
      refine p_ty (tyOk_h mem_h) ?_
      walk_at "gos"
      refine p_append (get_app mem_h) (by rw [hs_len]; show s.rs.length + 1 < _; omega) ?_
      refine ⟨_, _, rfl, ?_, hk2⟩
      exact set_h (s := ⟨s.ds ++ [j], s.p0, s.rs⟩)
    | note m =>
      refine ⟨_, rfl, ?_⟩
      walk_at "gos"
      · rename_i h; exact absurd h (by decide)
      · obtain ⟨ds, p0, rs⟩ := s
        rcases List.eq_nil_or_concat rs with e | ⟨r, l, e⟩
        · subst e
          refine p_ixH mem_h (d := .h (M.length + 1)) rfl ?_
          refine p_ty (tyOk_h mem_0) ?_
          walk_at "gos"
          refine p_append mem_0 (by rw [List.length_map]; have : p0.length ≤ i := k2; omega) ?_
          exact ⟨_, _, rfl, set_0, hk2⟩
        · rw [List.concat_eq_append] at e
          subst e
          have hl1 : (r ++ [l])[r.length]? = some l := by simp
          have hh : hs M.length (r ++ [l]).length = hs M.length r.length ++ [.h (M.length + (3 + r.length))] := by
            rw [List.length_append, show r.length + [l].length = r.length + 1 from rfl, hs_succ, Nat.add_assoc]
          refine p_ixH mem_h (by show atI (hs M.length (r ++ [l]).length) (-1) = _; rw [hh]; exact atI_last) ?_
          refine p_ty (tyOk_h (mem_r hl1)) ?_
          walk_at "gos"
          have := k4 l (List.mem_append_right _ (List.mem_singleton.mpr rfl))
          refine p_append (mem_r hl1) (by rw [List.length_map]; omega) ?_
          refine ⟨_, _, rfl, ?_, hk2⟩
          rw [step_note]
          exact set_r
  · rintro _ _ ⟨t, u, rfl, rfl, hk⟩
    rw [List.length_map, List.take_length]
    exact q t u
end
section
variable {M : Mem} {k : Nat} {E : Exn → Mem → Prop} {Q : D → Mem → Prop}
theorem melt_cell {n f : Nat} {M1 : Mem} {k : Nat} {c : D} (hk : n ≤ k) (hc : M1[k]? = some c) (hv : hb n c = true) : melt n M1 (f + 2) (.h k) = some c := by
  unfold melt
  have : hb n (.h k) = false := by unfold hb; exact decide_eq_false (by omega)
  rw [if_neg (by rw [this]; decide)]
  simp only [hc]
  exact melt_hb hv
theorem meltL_all {g : D → Option D} : ∀ {hs ds : List D}, hs.length = ds.length → (∀ (i : Nat) (h d : D), hs[i]? = some h → ds[i]? = some d → g h = some d) → meltL g hs = some ds
  | [], [], _, _ => rfl
  | [], _ :: _, h, _ => by simp at h
  | _ :: _, [], h, _ => by simp at h
  | h :: hs, d :: ds, hl, hg => by
    unfold meltL
    rw [hg 0 h d rfl rfl]
    simp only
    rw [meltL_all (hs := hs) (ds := ds) (by simpa using hl) fun i h d h1 h2 => hg (i + 1) h d h1 h2]
def PsD (s : Sp) : D := .lst ((s.p0 :: s.rs).map PL)
def DsD (s : Sp) : D := .lst (s.ds.map I)
theorem hb_ds {L : Nat} (s : Sp) : hb L (DsD s) = true := hb_lst fun d hd => by
  obtain ⟨p, _, rfl⟩ := List.mem_map.mp hd
  exact hb_v
theorem hb_ps {L : Nat} (s : Sp) : hb L (PsD s) = true := hb_lst fun d hd => by
  obtain ⟨p, _, rfl⟩ := List.mem_map.mp hd
  exact hb_pl p
theorem melt_parts {s : Sp} {f : Nat} : melt M.length (memS M s) (f + 4) (.h (M.length + 2)) = some (PsD s) := by
  unfold melt
  have e1 : hb M.length (.h (M.length + 2)) = false := by unfold hb; exact decide_eq_false (by omega)
  rw [if_neg (by rw [e1]; decide)]
  simp only [mem_h]
  unfold melt
  have e2 : hb M.length (.lst (hs M.length s.rs.length)) = false := by
    unfold hb hs hbs
    have : hb M.length (.h (M.length + 1)) = false := by unfold hb; exact decide_eq_false (by omega)
    rw [this]; rfl
  rw [if_neg (by rw [e2]; decide)]
  have hm : meltL (melt M.length (memS M s) (f + 2)) (hs M.length s.rs.length) = some ((s.p0 :: s.rs).map PL) := by
    refine meltL_all (by rw [hs_len]; simp) fun i h d h1 h2 => ?_
    cases i with
    | zero =>
      cases h1; cases h2
      exact melt_cell (by omega) mem_0 (hb_pl s.p0)
    | succ i =>
      unfold hs at h1
      rw [List.getElem?_cons_succ, List.getElem?_map] at h1
      rw [List.map_cons, List.getElem?_cons_succ, List.getElem?_map] at h2
      obtain ⟨p, h3, rfl⟩ := Option.map_eq_some_iff.mp h2
      have hi := (List.getElem?_eq_some_iff.mp h3).1
      rw [List.getElem?_range hi] at h1
      cases h1
      refine melt_cell (by omega) ?_ (hb_pl p)
      rw [Nat.add_assoc]
      exact mem_r h3
  simp only [hm]
  rfl
theorem melt_days {s : Sp} {f : Nat} : melt M.length (memS M s) (f + 2) (.h M.length) = some (DsD s) := melt_cell (Nat.le_refl _) mem_d (hb_ds s)
theorem fin_two {s : Sp} {mk : List D → D} (hmk : mk = D.tup ∨ mk = D.lst) (q : Q (mk [DsD s, PsD s]) M) : P (finish .dfr M (memS M s) (mk [.h M.length, .h (M.length + 2)])) E Q := by
  have hm : meltL (melt M.length (memS M s) 7) [.h M.length, .h (M.length + 2)] = some [DsD s, PsD s] := by
    refine meltL_all rfl fun i h d h1 h2 => ?_
    cases i with
    | zero => cases h1; cases h2; exact melt_days (f := 5)
    | succ i =>
      cases i with
      | zero => cases h1; cases h2; exact melt_parts (f := 3)
      | succ i => simp at h1
  refine p_finM (d' := mk [DsD s, PsD s]) ?_ ((CellsOk.refl M).app (Nat.le_refl _)) (by unfold memS; simp) q
  have e1 : hb M.length (.h M.length) = false := by unfold hb; exact decide_eq_false (by omega)
  rcases hmk with e | e
  · subst e
    unfold melt
    have e2 : hb M.length (.tup [.h M.length, .h (M.length + 2)]) = false := by unfold hb hbs; rw [e1]; rfl
    rw [if_neg (by rw [e2]; decide)]
    simp only [hm]
  · subst e
    unfold melt
    have e2 : hb M.length (.lst [.h M.length, .h (M.length + 2)]) = false := by unfold hb hbs; rw [e1]; rfl
    rw [if_neg (by rw [e2]; decide)]
    simp only [hm]
theorem mem_nil : (M ++ [D.lst []] ++ [D.lst []] ++ [D.lst [.h (M.length + 1)]]) = memS M ⟨[], [], []⟩ := by
  unfold memS
  rw [List.append_assoc, List.append_assoc]; rfl
theorem split_spec {n : Nat} {es : List En} (hes : JK n es) (hn : n ≤ 2000000) (q : Q (.tup [DsD (spl es), PsD (spl es)]) M) : P (F__split [JD es] M) E Q := by
  unfold F__split
  walk_at "def"
  unfold B__split
  refine s_seq ?_
  refine SP.cut (fun ρ M1 => ρ = [some (JD es), some (.h M.length), none, none, none] ∧ M1 = M ++ [.lst []]) ?_ ?_
  · walk_at "gos"
    exact ⟨rfl, rfl⟩
  rintro _ _ ⟨rfl, rfl⟩
  refine s_seq ?_
  refine SP.cut (fun ρ M1 => ρ = [some (JD es), some (.h M.length), some (.h (M.length + 2)), none, none] ∧ M1 = memS M ⟨[], [], []⟩) ?_ ?_
  · walk_at "gos"
    refine ⟨by simp, ?_⟩
    rw [← mem_nil]
    simp
  rintro _ _ ⟨rfl, rfl⟩
  refine s_seq ?_
  refine split_loop hes hn fun t u => ?_
  walk_at "gos"
  exact fin_two (mk := .tup) (.inl rfl) q
theorem parts_spec {n : Nat} {es : List En} (hes : JK n es) (hn : n ≤ 2000000) (q : Q (.lst [DsD (spl es), PsD (spl es)]) M) : P (F__law_parts [JD es] M) E Q := by
  unfold F__law_parts
  walk_at "def"
  unfold B__law_parts
  refine s_seq ?_
  refine SP.cut (fun ρ M1 => ρ = [some (JD es), some (.h M.length), none, none, none] ∧ M1 = M ++ [.lst []]) ?_ ?_
  · walk_at "gos"
    exact ⟨rfl, rfl⟩
  rintro _ _ ⟨rfl, rfl⟩
  refine s_seq ?_
  refine SP.cut (fun ρ M1 => ρ = [some (JD es), some (.h M.length), some (.h (M.length + 2)), none, none] ∧ M1 = memS M ⟨[], [], []⟩) ?_ ?_
  · walk_at "gos"
    refine ⟨by simp, ?_⟩
    rw [← mem_nil]
    simp
  rintro _ _ ⟨rfl, rfl⟩
  refine s_seq ?_
  rw [show B__law_parts_3 = B__split_3 from rfl]
  refine split_loop hes hn fun t u => ?_
  walk_at "gos"
  exact fin_two (mk := .lst) (.inr rfl) q
end
/-! counts -/
theorem nkeys_of {f : α → D} {g : α → PySem.NestedKey} (h : ∀ a, nkey (f a) = some (g a)) : ∀ l : List α, nkeys (l.map f) = some (l.map g)
  | [] => rfl
  | a :: l => by
    rw [List.map_cons]
    unfold nkeys
    rw [h a]
    simp only [nkeys_of h l]
    rfl
theorem depth_of {g : α → PySem.NestedKey} (h : ∀ a, (g a).depth = 0) : ∀ l : List α, PySem.NestedKey.depthAll (l.map g) = 0
  | [] => rfl
  | a :: l => by
    rw [List.map_cons]
    unfold PySem.NestedKey.depthAll
    rw [h a, depth_of h l]; rfl
def paK : Pa → PySem.NestedKey
  | .s x => .text x
  | .i n => .num n
def ctK : Option (List Pa) → PySem.NestedKey
  | none => .none
  | some ps => .tup (ps.map paK)
theorem nkey_ct (c : Option (List Pa)) : nkey (ctD c) = some (ctK c) ∧ (ctK c).depth ≤ 1 := by
  cases c with
  | none => exact ⟨rfl, by show PySem.NestedKey.depth .none ≤ 1; simp [PySem.NestedKey.depth]⟩
  | some ps =>
    refine ⟨?_, ?_⟩
    · show nkey (.tup (ps.map PaD)) = some (.tup (ps.map paK))
      unfold nkey
      rw [nkeys_of (g := paK) (fun a => by cases a <;> rfl) ps]
    · show PySem.NestedKey.depth (.tup (ps.map paK)) ≤ 1
      unfold PySem.NestedKey.depth
      rw [depth_of (fun a => by cases a <;> simp [paK, PySem.NestedKey.depth]) ps]
      omega
theorem isNK_nd (n : Nt) : isNK (ND n) = true := by
  obtain ⟨c1, c2⟩ := nkey_ct n.content
  have h1 : nkey (.tup (n.names.map Tx)) = some (.tup (n.names.map PySem.NestedKey.text)) := by
    unfold nkey
    rw [nkeys_of (g := PySem.NestedKey.text) (fun a => rfl) n.names]
  have h : nkeys [Tx n.ident, I n.version, .tup (n.names.map Tx), Tx n.cause, ctD n.content] = some [.text n.ident, .num n.version, .tup (n.names.map .text), .text n.cause, ctK n.content] := by
    simp only [nkeys, h1, c1]
    rfl
  unfold ND isNK
  simp only [h]
  refine decide_eq_true ?_
  have d1 : PySem.NestedKey.depth (.tup (n.names.map PySem.NestedKey.text)) = 1 := by
    unfold PySem.NestedKey.depth
    rw [depth_of (fun a => by simp [PySem.NestedKey.depth]) n.names]
  simp only [PySem.NestedKey.depthAll, d1]
  simp only [PySem.NestedKey.depth]
  omega
def kn (n : Nt) : PySem.NestedKey := keyN (ND n)
abbrev Ct : Type := List D × List Int
def kc (c : Ct) : List PySem.NestedKey := c.1.map keyN
def cstep (c : Ct) (n : Nt) : Ct := (addKD c.1 (ND n), NKD.putN (kc c) c.2 (kn n) ((look (kc c) c.2 (kn n)).getD 0 + 1))
def CN (ns : List Nt) : Ct := ns.foldl cstep ([], [])
theorem cn_snoc (ns : List Nt) (n : Nt) : CN (ns ++ [n]) = cstep (CN ns) n := by
  unfold CN; rw [List.foldl_append]; rfl
def CnOk (i : Nat) (c : Ct) : Prop := c.1.length ≤ i ∧ ∀ d ∈ c.1, ∃ n, d = ND n
theorem CnOk.step {i : Nat} {c : Ct} (h : CnOk i c) (n : Nt) : CnOk (i + 1) (cstep c n) := by
  refine ⟨?_, fun d hd => ?_⟩
  · have := @NKD.add_len (c.1.map keyN) D (keyN (ND n)) c.1 (ND n)
    have h1 := h.1
    show (addKD c.1 (ND n)).length ≤ _
    unfold addKD
    omega
  · have hd : d ∈ NKD.addN (c.1.map keyN) (keyN (ND n)) c.1 (ND n) := hd
    unfold NKD.addN at hd
    split at hd
    · exact h.2 d hd
    · rcases List.mem_append.mp hd with h8 | h8
      · exact h.2 d h8
      · exact ⟨n, List.mem_singleton.mp h8⟩
theorem hb_ct2 {L i : Nat} {c : Ct} (h : CnOk i c) : hb L (DctD c) = true := by
  show hb L (.dN HW.w c.1 c.2) = true
  unfold hb
  exact hbs_of fun d hd => by
    obtain ⟨n, rfl⟩ := h.2 d hd
    exact hb_nd n
section
variable {M : Mem} {E : Exn → Mem → Prop} {Q : D → Mem → Prop}
theorem fin_ct {i : Nat} {c : Ct} (h : CnOk i c) (q : Q (DctD c) M) : P (finish .frz M (M ++ [DctD c]) (.h M.length)) E Q :=
  p_finF (Nat.le_refl _) get_new ((CellsOk.refl M).app (Nat.le_refl _)) (hb_ct2 h) (by simp) q
theorem counts_spec {ns : List Nt} (hl : ns.length ≤ 3000000) (q : Q (DctD (CN ns)) M) : P (F__counts [PL ns] M) E Q := by
  unfold F__counts
  walk_at "def"
  unfold B__counts
  refine s_seq (s_set (p_dnew ?_))
  refine s_seq ?_
  walk_at "gos"
  refine s_forL (fun i ρ M1 => ∃ t, ρ = [some (PL ns), some (.h M.length), t] ∧ M1 = M ++ [DctD (CN (ns.take i))] ∧ CnOk i (CN (ns.take i))) ⟨none, rfl, rfl, by simp [CN, CnOk]⟩ (fun _ _ _ _ => trivial) ?_ ?_
  · rintro i d _ _ hd ⟨t, rfl, rfl, hk⟩
    obtain ⟨n, h1, h2, rfl⟩ := get_map hd
    have hi : i < ns.length := (List.getElem?_eq_some_iff.mp h1).1
    have et : CN (ns.take (i + 1)) = cstep (CN (ns.take i)) n := by
      rw [List.take_add_one, h1]
      exact cn_snoc _ _
    have hk2 := hk.step n
    rw [et]
    generalize CN (ns.take i) = c at *
    refine ⟨_, rfl, ?_⟩
    refine s_nput (p_e2 (p_nget2 ?_))
    walk_at "gos"
    refine ⟨by rw [show DctD c = NDct c.1 c.2 from rfl, dnOf_h (ks := c.1) (ns := c.2) get_new]; rfl, ?_⟩
    walk_at "gos"
    refine p_gget (ks := c.1) (ns := c.2) get_new (isNK_nd n) ?_
    walk_at "gos"
    have h3 := hk.1
    refine p_nput (ks := c.1) (ns := c.2) get_new (isNK_nd n) (by omega) ?_
    rw [set_new]
    exact ⟨_, rfl, rfl, hk2⟩
  · rintro _ _ ⟨t, rfl, rfl, hk⟩
    rw [List.length_map, List.take_length] at *
    walk_at "gos"
    exact fin_ct hk q
theorem counted_spec {ns : List Nt} (hl : ns.length ≤ 3000000) (q : Q (DctD (CN ns)) M) : P (F__law_counted [PL ns] M) E Q := counts_spec hl q
end
/-! what the counts tell -/
section
variable {ks ls : List PySem.NestedKey} {ns ms : List Int}
open NKD (addN)
theorem look_put : ∀ {ks : List PySem.NestedKey} {ns : List Int} {k j : PySem.NestedKey} {n : Int}, ks.length = ns.length → look (addN ks k ks k) (NKD.putN ks ns k n) j = if k = j then some n else look ks ns j
  | [], [], k, j, n, _ => by
    show look (if k ∈ [] then [] else [] ++ [k]) [n] j = _
    rw [if_neg (by simp)]
    rfl
  | [], _ :: _, _, _, _, h => by simp at h
  | _ :: _, [], _, _, _, h => by simp at h
  | i :: ks, m :: ns, k, j, n, h => by
    have ih := look_put (ks := ks) (ns := ns) (k := k) (j := j) (n := n) (by simpa using h)
    unfold NKD.putN
    by_cases hi : i = k
    · subst hi
      rw [if_pos rfl]
      have : addN (i :: ks) i (i :: ks) i = i :: ks := by unfold NKD.addN; rw [if_pos (List.mem_cons_self ..)]
      rw [this]
      unfold look
      by_cases hj : i = j
      · rw [if_pos hj, if_pos hj]
      · rw [if_neg hj, if_neg hj, if_neg hj]
    · rw [if_neg hi]
      have : addN (i :: ks) k (i :: ks) k = i :: addN ks k ks k := by
        unfold NKD.addN
        by_cases hk : k ∈ ks
        · rw [if_pos hk, if_pos (List.mem_cons_of_mem _ hk)]
        · rw [if_neg hk, if_neg (fun z => by rcases List.mem_cons.mp z with z | z; exact hi z.symm; exact hk z)]; rfl
      rw [this]
      show (if i = j then some m else look (addN ks k ks k) (NKD.putN ks ns k n) j) = if k = j then some n else (if i = j then some m else look ks ns j)
      rw [ih]
      by_cases hj : i = j
      · subst hj
        rw [if_pos rfl, if_pos rfl, if_neg (fun z => hi z.symm)]
      · rw [if_neg hj, if_neg hj]
theorem put_len : ∀ {ks : List PySem.NestedKey} {ns : List Int} {k : PySem.NestedKey} {n : Int}, ks.length = ns.length → (addN ks k ks k).length = (NKD.putN ks ns k n).length
  | [], [], k, n, _ => by
    show (if k ∈ [] then [] else [] ++ [k]).length = 1
    rw [if_neg (by simp)]; rfl
  | [], _ :: _, _, _, h => by simp at h
  | _ :: _, [], _, _, h => by simp at h
  | i :: ks, m :: ns, k, n, h => by
    have ih := put_len (ks := ks) (ns := ns) (k := k) (n := n) (by simpa using h)
    unfold NKD.putN
    by_cases hi : i = k
    · subst hi
      rw [if_pos rfl]
      have : addN (i :: ks) i (i :: ks) i = i :: ks := by unfold NKD.addN; rw [if_pos (List.mem_cons_self ..)]
      rw [this]
      simpa using h
    · rw [if_neg hi]
      have : addN (i :: ks) k (i :: ks) k = i :: addN ks k ks k := by
        unfold NKD.addN
        by_cases hk : k ∈ ks
        · rw [if_pos hk, if_pos (List.mem_cons_of_mem _ hk)]
        · rw [if_neg hk, if_neg (fun z => by rcases List.mem_cons.mp z with z | z; exact hi z.symm; exact hk z)]; rfl
      rw [this, List.length_cons, List.length_cons, ih]
theorem look_mem : ∀ {ks : List PySem.NestedKey} {ns : List Int} {k : PySem.NestedKey}, ks.length = ns.length → (k ∈ ks ↔ (look ks ns k).isSome = true)
  | [], [], k, _ => by simp [look]
  | [], _ :: _, _, h => by simp at h
  | _ :: _, [], _, h => by simp at h
  | i :: ks, m :: ns, k, h => by
    have ih := look_mem (ks := ks) (ns := ns) (k := k) (by simpa using h)
    unfold look
    by_cases hi : i = k
    · rw [if_pos hi]; subst hi; simp
    · rw [if_neg hi, ← ih, List.mem_cons]
      exact ⟨fun z => z.elim (fun z => absurd z.symm hi) id, .inr⟩
theorem len_sub : ∀ {ks ls : List PySem.NestedKey}, ks.Nodup → (∀ k ∈ ks, k ∈ ls) → ks.length ≤ ls.length
  | [], _, _, _ => Nat.zero_le _
  | k :: ks, ls, nd, h => by
    rw [List.nodup_cons] at nd
    have hk := h k (List.mem_cons_self ..)
    have ih := len_sub (ks := ks) (ls := ls.erase k) nd.2 fun x hx => (List.mem_erase_of_ne (fun z => nd.1 (by rw [← z]; exact hx))).mpr (h x (List.mem_cons_of_mem _ hx))
    rw [List.length_erase_of_mem hk] at ih
    have := List.length_pos_of_mem hk
    rw [List.length_cons]; omega
end
def cnt (k : PySem.NestedKey) (ns : List Nt) : Nat := (ns.map kn).count k
theorem cnt_snoc (k : PySem.NestedKey) (ns : List Nt) (n : Nt) : cnt k (ns ++ [n]) = cnt k ns + if kn n = k then 1 else 0 := by
  unfold cnt
  rw [List.map_append, List.count_append]
  show _ + List.count k [kn n] = _
  rw [List.count_singleton]
  by_cases h : kn n = k
  · rw [if_pos h, if_pos (by simpa using h)]
  · rw [if_neg h, if_neg (by simpa using h)]
structure CInv (c : Ct) (ns : List Nt) : Prop where
  nd : (kc c).Nodup
  ln : (kc c).length = c.2.length
  lk : ∀ k, look (kc c) c.2 k = if cnt k ns = 0 then none else some (cnt k ns : Int)
theorem kc_step (c : Ct) (n : Nt) : kc (cstep c n) = NKD.addN (kc c) (kn n) (kc c) (kn n) := addKD_map c.1 (ND n)
theorem CInv.step {c : Ct} {ns : List Nt} (h : CInv c ns) (n : Nt) : CInv (cstep c n) (ns ++ [n]) := by
  refine ⟨by rw [kc_step]; exact NKD.add_nodup h.nd, by rw [kc_step]; exact put_len h.ln, fun k => ?_⟩
  rw [kc_step, cnt_snoc]
  refine Eq.trans (look_put h.ln) ?_
  by_cases hk : kn n = k
  · rw [if_pos hk, if_pos hk, if_neg (by omega), hk, h.lk k]
    by_cases h0 : cnt k ns = 0
    · rw [if_pos h0, h0]; rfl
    · rw [if_neg h0]; simp
  · rw [if_neg hk, if_neg hk, h.lk k]
    rfl
theorem cinv : ∀ ns : List Nt, CInv (CN ns) ns := fun ns => by
  have : ∀ (r pre : List Nt) (c : Ct), CInv c pre → CInv (r.foldl cstep c) (pre ++ r) := by
    intro r
    induction r with
    | nil => intro pre c h; rw [List.append_nil]; exact h
    | cons n r ih =>
      intro pre c h
      have := ih (pre ++ [n]) (cstep c n) (h.step n)
      rw [List.append_assoc] at this
      exact this
  exact this ns [] ([], []) ⟨List.nodup_nil, rfl, fun k => rfl⟩
def eqC (xs ys : List Nt) : Bool := eqN (kc (CN xs)) (CN xs).2 (kc (CN ys)) (CN ys).2
theorem eqC_true {xs ys : List Nt} (h : ∀ k, cnt k xs = cnt k ys) : eqC xs ys = true := by
  have a := cinv xs
  have b := cinv ys
  have lk : ∀ k, look (kc (CN xs)) (CN xs).2 k = look (kc (CN ys)) (CN ys).2 k := fun k => by rw [a.lk, b.lk, h k]
  have mem : ∀ k, k ∈ kc (CN xs) ↔ k ∈ kc (CN ys) := fun k => by rw [look_mem a.ln, look_mem b.ln, lk k]
  have hl : (kc (CN xs)).length = (kc (CN ys)).length := Nat.le_antisymm (len_sub a.nd fun k hk => (mem k).mp hk) (len_sub b.nd fun k hk => (mem k).mpr hk)
  unfold eqC NKD.eqN
  rw [Bool.and_eq_true]
  refine ⟨by simpa using hl, List.all_eq_true.mpr fun k _ => by rw [lk k]; simp⟩
theorem eqC_false {xs ys : List Nt} (k : PySem.NestedKey) (h0 : cnt k xs ≠ 0) (h : cnt k xs ≠ cnt k ys) : eqC xs ys = false := by
  have a := cinv xs
  have b := cinv ys
  cases e : eqC xs ys with
  | false => rfl
  | true =>
    exfalso
    unfold eqC NKD.eqN at e
    rw [Bool.and_eq_true] at e
    have hm : k ∈ kc (CN xs) := by rw [look_mem a.ln, a.lk k, if_neg h0]; rfl
    have := List.all_eq_true.mp e.2 k hm
    rw [a.lk, b.lk, if_neg h0] at this
    by_cases h1 : cnt k ys = 0
    · rw [if_pos h1] at this; simp at this
    · rw [if_neg h1] at this
      have : (cnt k xs : Int) = (cnt k ys : Int) := by simpa using this
      omega
theorem eqC_refl (xs : List Nt) : eqC xs xs = true := eqC_true fun _ => rfl
def eqCs : List (List Nt) → List (List Nt) → Bool
  | p :: ps, q :: qs => eqC p q && eqCs ps qs
  | _, _ => true
theorem eqCs_refl : ∀ ps : List (List Nt), eqCs ps ps = true
  | [] => rfl
  | p :: ps => by unfold eqCs; rw [eqC_refl, eqCs_refl ps]; rfl
theorem eqNs_C : ∀ ps qs : List (List Nt), eqNs ((ps.map CN).map kk) ((qs.map CN).map kk) = eqCs ps qs
  | [], _ => by cases ‹List (List Nt)› <;> rfl
  | _ :: _, [] => rfl
  | p :: ps, q :: qs => by
    show (eqN (kk (CN p)).1 (kk (CN p)).2 (kk (CN q)).1 (kk (CN q)).2 && eqNs ((ps.map CN).map kk) ((qs.map CN).map kk)) = (eqC p q && eqCs ps qs)
    rw [eqNs_C ps qs]; rfl
def ntE : En → List Nt
  | .run _ => []
  | .note n => [n]
def notes (es : List En) : List Nt := es.flatMap ntE
def psS (s : Sp) : List (List Nt) := s.p0 :: s.rs
theorem spl_inv : ∀ es : List En, (spl es).rs.length = (spl es).ds.length ∧ (psS (spl es)).flatten = notes es := fun es => by
  have step : ∀ (s : Sp) (e : En), s.rs.length = s.ds.length → (stepS s e).rs.length = (stepS s e).ds.length ∧ (psS (stepS s e)).flatten = (psS s).flatten ++ ntE e := by
    intro s e h
    obtain ⟨ds, p0, rs⟩ := s
    cases e with
    | run j =>
      refine ⟨?_, ?_⟩
      · show (rs ++ [[]]).length = (ds ++ [j]).length
        have h : rs.length = ds.length := h
        simp [h]
      · show (p0 :: (rs ++ [[]])).flatten = (p0 :: rs).flatten ++ []
        simp
    | note n =>
      rcases List.eq_nil_or_concat rs with e | ⟨r, l, e⟩
      · subst e
        exact ⟨h, by show ((p0 ++ [n]) :: []).flatten = (p0 :: []).flatten ++ [n]; simp⟩
      · rw [List.concat_eq_append] at e
        subst e
        rw [step_note]
        refine ⟨?_, ?_⟩
        · show (r ++ [l ++ [n]]).length = ds.length
          have h : (r ++ [l]).length = ds.length := h
          simpa using h
        · show (p0 :: (r ++ [l ++ [n]])).flatten = (p0 :: (r ++ [l])).flatten ++ [n]
          simp
  have go : ∀ (r : List En) (s : Sp), s.rs.length = s.ds.length → (r.foldl stepS s).rs.length = (r.foldl stepS s).ds.length ∧ (psS (r.foldl stepS s)).flatten = (psS s).flatten ++ notes r := by
    intro r
    induction r with
    | nil => intro s h; exact ⟨h, by simp [notes]⟩
    | cons e r ih =>
      intro s h
      obtain ⟨a, b⟩ := step s e h
      obtain ⟨c, d⟩ := ih (stepS s e) a
      refine ⟨c, ?_⟩
      show (psS (r.foldl stepS (stepS s e))).flatten = _
      rw [d, b, List.append_assoc]
      rfl
  obtain ⟨a, b⟩ := go es ⟨[], [], []⟩ rfl
  exact ⟨a, b⟩
def SL (es fs : List En) : Bool := decide ((spl es).ds = (spl fs).ds) && eqCs (psS (spl es)) (psS (spl fs))
def RL (es fs : List En) : Bool := decide ((spl es).ds = (spl fs).ds) && eqC (notes es) (notes fs)
theorem deq_ints : ∀ xs ys : List Int, PyData.eqvAll (toPys (xs.map I)) (toPys (ys.map I)) = decide (xs = ys)
  | [], [] => rfl
  | [], _ :: _ => by simp [toPys, PyData.eqvAll]
  | _ :: _, [] => by simp [toPys, PyData.eqvAll]
  | x :: xs, y :: ys => by
    rw [List.map_cons, List.map_cons]
    unfold toPys PyData.eqvAll
    rw [deq_ints xs ys]
    have : PyData.eqv (toPy (I x)) (toPy (I y)) = decide (x = y) := deq_int
    rw [this]
    by_cases h : x = y
    · subst h; simp
    · simp [h]
theorem deq_ds (s t : Sp) : deq (DsD s) (DsD t) = decide (s.ds = t.ds) := by
  unfold deq DsD
  show PyData.eqv (toPy (.lst (s.ds.map I))) (toPy (.lst (t.ds.map I))) = _
  unfold toPy PyData.eqv
  exact deq_ints _ _
theorem okEq_ds (s : Sp) : okEq (DsD s) = true := okEq_all fun d hd => by
  obtain ⟨p, _, rfl⟩ := List.mem_map.mp hd
  exact ⟨rfl, by unfold dep; omega⟩
theorem spl_ok (es : List En) : SpOk es.length (spl es) := by
  have go : ∀ (r : List En) (i : Nat) (s : Sp), SpOk i s → SpOk (i + r.length) (r.foldl stepS s) := by
    intro r
    induction r with
    | nil => intro i s h; exact h
    | cons e r ih =>
      intro i s h
      have := ih (i + 1) (stepS s e) (h.step e)
      rw [List.length_cons, Nat.add_comm r.length, ← Nat.add_assoc]
      exact this
  have := go es 0 ⟨[], [], []⟩ (by simp [SpOk])
  rw [Nat.zero_add] at this
  exact this
theorem ps_len {es : List En} {p : List Nt} (h : p ∈ psS (spl es)) : p.length ≤ es.length := by
  obtain ⟨_, h2, _, h4⟩ := spl_ok es
  rcases List.mem_cons.mp h with e | e
  · rw [e]; exact h2
  · exact h4 p e
theorem notes_len : ∀ es : List En, (notes es).length ≤ es.length
  | [] => Nat.le_refl _
  | e :: es => by
    have ih := notes_len es
    unfold notes at ih ⊢
    rw [List.flatMap_cons, List.length_append, List.length_cons]
    have : (ntE e).length ≤ 1 := by cases e <;> simp [ntE]
    omega
theorem p_neDs {s t : Sp} {M : Mem} {E : Exn → Mem → Prop} {Q : D → Mem → Prop} (q : Q (Bo (!decide (s.ds = t.ds))) M) : P (gNe (DsD s) (DsD t) M) E Q :=
  p_neD (by exact okEq_ds s) (by exact okEq_ds t) (by rw [show resM M (DsD s) = DsD s from rfl, show resM M (DsD t) = DsD t from rfl, deq_ds]; exact q)
theorem p_neADs {s t : Sp} {M : Mem} {E : Exn → Mem → Prop} {Q : D → Mem → Prop} (q : Q (Bo (!decide (s.ds = t.ds))) M) : P (gNeA (DsD s) (DsD t) M) E Q :=
  p_neA (by exact okEq_ds s) (by exact okEq_ds t) (by rw [show resM M (DsD s) = DsD s from rfl, show resM M (DsD t) = DsD t from rfl, deq_ds]; exact q)
section
variable {M : Mem} {E : Exn → Mem → Prop} {Q : D → Mem → Prop}
theorem lc_counts {es : List En} {ρ : DL.Env} {Q : D → Mem → Prop} {n : Nat} (hes : JK n es) (hn : n ≤ 2000000) {i : Nat} (hi : ρ[i]? = some (some (PsD (spl es)))) (h6 : ρ.length = 7) (q : Q (.lst (((psS (spl es)).map CN).map DctD)) M) :
    P (eLcG mkV (eIt (eVar i)) (.nm 6) bYes (eN F__counts (eCons (eVar 6) eNil)) [6] ρ M) E Q := by
  have hl := hes.1
  refine p_lcG (p_eIt (p_var hi ⟨_, rfl, ?_⟩))
  refine ⟨by
    have := (spl_ok es).2.2.1
    show ((psS (spl es)).map PL).length ≤ _
    rw [List.length_map]
    show (spl es).rs.length + 1 ≤ _
    omega, ?_⟩
  refine p_lcL (fun i acc M1 => acc = ((((psS (spl es)).take i).map CN).map DctD) ∧ M = M1) ⟨rfl, rfl⟩ (fun _ _ _ _ => trivial) ?_ ?_
  · rintro i d _ _ hd ⟨rfl, rfl⟩
    obtain ⟨p, h1, h2, rfl⟩ := get_map hd
    refine ⟨_, rfl, p_bYes ?_⟩
    refine ⟨fun _ => p_eN (p_cons (p_var (d := PL p) ?_ (p_nil ?_))), fun z => absurd z (by decide)⟩
    · have : (wipeD ρ [6]).length = 7 := by simp [wipeD, h6]
      rw [List.getElem?_set_self (by omega)]
    · have := ps_len h2
      refine counts_spec (by omega) ?_
      have h1 : (psS (spl es))[i]? = some p := h1
      exact ⟨by rw [List.map_map, List.map_map, take_map h1]; rfl, rfl⟩
  · rintro _ _ ⟨rfl, rfl⟩
    have e : (psS (spl es)).take (ItS.mk ((psS (spl es)).map PL) none).ds.length = psS (spl es) := by
      show (psS (spl es)).take ((psS (spl es)).map PL).length = _
      rw [List.length_map, List.take_length]
    exact p_mkV (by rw [← e] at q; first | exact q | (rw [e] at q; rw [e]; exact q))
theorem stretch_like_spec {n : Nat} {es fs : List En} (hes : JK n es) (hfs : JK n fs) (hn : n ≤ 2000000) (q : Q (Bo (SL es fs)) M) : P (F_stretch_like [JD es, JD fs] M) E Q := by
  unfold F_stretch_like
  walk_at "def"
  unfold B_stretch_like
  refine s_seq ?_
  refine SP.cut (fun ρ M1 => ρ = [some (JD es), some (JD fs), some (DsD (spl es)), some (PsD (spl es)), none, none, none] ∧ M = M1) ?_ ?_
  · walk_at "gos"
    refine split_spec hes hn ?_
    walk_at "gos"
    exact ⟨rfl, rfl⟩
  rintro _ _ ⟨rfl, rfl⟩
  refine s_seq ?_
  refine SP.cut (fun ρ M1 => ρ = [some (JD es), some (JD fs), some (DsD (spl es)), some (PsD (spl es)), some (DsD (spl fs)), some (PsD (spl fs)), none] ∧ M = M1) ?_ ?_
  · walk_at "gos"
    refine split_spec hfs hn ?_
    walk_at "gos"
    exact ⟨rfl, rfl⟩
  rintro _ _ ⟨rfl, rfl⟩
  refine s_seq ?_
  refine SP.cut (fun ρ M1 => ρ = [some (JD es), some (JD fs), some (DsD (spl es)), some (PsD (spl es)), some (DsD (spl fs)), some (PsD (spl fs)), none] ∧ M = M1 ∧ (spl es).ds = (spl fs).ds) ?_ ?_
  · walk_at "gos"
    refine p_neDs ?_
    walk_at "gos"
    · rename_i h
      refine p_finY ?_
      have : SL es fs = false := by unfold SL; rw [decide_eq_false h]; rfl
      rw [this] at q
      exact q
    · rename_i h
      exact ⟨rfl, rfl, h⟩
  rintro _ _ ⟨rfl, rfl, h⟩
  refine s_ret (p_e2 (lc_counts hes hn rfl rfl (lc_counts hfs hn rfl rfl ?_)))
  have hl : (psS (spl es)).length = (psS (spl fs)).length := by
    show (spl es).rs.length + 1 = (spl fs).rs.length + 1
    rw [(spl_inv es).1, (spl_inv fs).1, h]
  have hS : SL es fs = eqCs (psS (spl es)) (psS (spl fs)) := by unfold SL; rw [decide_eq_true h, Bool.true_and]
  refine p_eqNs (c := CN (spl es).p0) (cs := (spl es).rs.map CN) (ds := (psS (spl fs)).map CN) (by
    show ((psS (spl es)).map CN).length = _
    rw [List.length_map, List.length_map, hl]) ?_
  show P (finish .frz M M (Bo (eqNs (((psS (spl es)).map CN).map kk) (((psS (spl fs)).map CN).map kk)))) E Q
  rw [eqNs_C, ← hS]
  exact p_finY q
theorem lc_flat {es : List En} {ρ : DL.Env} {Q : D → Mem → Prop} {n : Nat} (hes : JK n es) (hn : n ≤ 2000000) {i : Nat} (hi : ρ[i]? = some (some (PsD (spl es)))) (h6 : ρ.length = 10) (q : Q (PL (notes es)) M) :
    P (eLc2 mkV (eIt (eVar i)) (.nm 8) bYes (eIt (eVar 8)) (.nm 9) bYes (eVar 9) [8, 9] [9] ρ M) E Q := by
  have hl := hes.1
  have hfl := (spl_inv es).2
  have hnl := notes_len es
  have hlen : ∀ i, (((psS (spl es)).take i).flatten).length ≤ (notes es).length := fun i => by
    rw [← hfl]
    have := congrArg List.length (congrArg List.flatten (List.take_append_drop i (psS (spl es))))
    rw [List.flatten_append, List.length_append] at this
    omega
  refine p_lc2 (p_eIt (p_var hi ⟨_, rfl, ?_⟩))
  refine p_lcL2 (fun i acc M1 => acc = (((psS (spl es)).take i).flatten).map ND ∧ M = M1) ⟨rfl, rfl⟩ (fun _ _ _ _ => trivial) ?_ ?_
  · rintro i d _ _ hd ⟨rfl, rfl⟩
    obtain ⟨p, h1, h2, rfl⟩ := get_map hd
    have h1 : (psS (spl es))[i]? = some p := h1
    have ht : (psS (spl es)).take (i + 1) = (psS (spl es)).take i ++ [p] := by rw [List.take_add_one, h1]; rfl
    have hw : (wipeD ρ [8, 9]).length = 10 := by simp [wipeD, h6]
    have hb := hlen (i + 1)
    rw [ht, List.flatten_append, List.length_append] at hb
    have hb2 : ([p] : List (List Nt)).flatten.length = p.length := by simp
    refine ⟨_, rfl, p_bYes ⟨fun _ => p_eIt (p_var (d := PL p) (by rw [List.getElem?_set_self (by omega)]) ⟨_, rfl, ?_⟩), fun z => absurd z (by decide)⟩⟩
    refine ⟨by show _ + (p.map ND).length ≤ _; rw [List.length_map, List.length_map]; omega, ?_⟩
    refine p_lcA (fun j acc M1 => acc = (((psS (spl es)).take i).flatten ++ p.take j).map ND ∧ M = M1) ⟨by simp, rfl⟩ (fun _ _ _ _ => trivial) ?_ ?_
    · rintro j d _ _ hd ⟨rfl, rfl⟩
      obtain ⟨m, h3, h4, rfl⟩ := get_map hd
      refine ⟨_, rfl, p_bYes ⟨fun _ => p_var (d := ND m) (by rw [List.getElem?_set_self (by simp [wipeD, h6])]) ⟨?_, rfl⟩, fun z => absurd z (by decide)⟩⟩
      rw [List.take_add_one, h3]
      simp
    · rintro _ _ ⟨rfl, rfl⟩
      refine ⟨?_, rfl⟩
      rw [ht, List.flatten_append, List.length_map, List.take_length]
      simp
  · rintro _ _ ⟨rfl, rfl⟩
    have e : (psS (spl es)).take (ItS.mk ((psS (spl es)).map PL) none).ds.length = psS (spl es) := by
      show (psS (spl es)).take ((psS (spl es)).map PL).length = _
      rw [List.length_map, List.take_length]
    refine ⟨by
      rw [List.length_map]
      have := hlen (ItS.mk ((psS (spl es)).map PL) none).ds.length
      exact Nat.le_trans this (by omega), p_mkV ?_⟩
    have : ((psS (spl es)).take (ItS.mk ((psS (spl es)).map PL) none).ds.length).flatten = notes es := by rw [e]; exact hfl
    show Q (.lst ((((psS (spl es)).take (ItS.mk ((psS (spl es)).map PL) none).ds.length).flatten).map ND)) M
    rw [this]
    exact q
theorem run_like_spec {n : Nat} {es fs : List En} (hes : JK n es) (hfs : JK n fs) (hn : n ≤ 2000000) (q : Q (Bo (RL es fs)) M) : P (F_run_like [JD es, JD fs] M) E Q := by
  have hl := hes.1
  have hl2 := hfs.1
  have n1 := notes_len es
  have n2 := notes_len fs
  unfold F_run_like
  walk_at "def"
  unfold B_run_like
  refine s_seq ?_
  refine SP.cut (fun ρ M1 => ρ = [some (JD es), some (JD fs), some (DsD (spl es)), some (PsD (spl es)), none, none, none, none, none, none] ∧ M = M1) ?_ ?_
  · walk_at "gos"
    refine split_spec hes hn ?_
    walk_at "gos"
    exact ⟨rfl, rfl⟩
  rintro _ _ ⟨rfl, rfl⟩
  refine s_seq ?_
  refine SP.cut (fun ρ M1 => ρ = [some (JD es), some (JD fs), some (DsD (spl es)), some (PsD (spl es)), some (DsD (spl fs)), some (PsD (spl fs)), none, none, none, none] ∧ M = M1) ?_ ?_
  · walk_at "gos"
    refine split_spec hfs hn ?_
    walk_at "gos"
    exact ⟨rfl, rfl⟩
  rintro _ _ ⟨rfl, rfl⟩
  refine s_seq ?_
  refine SP.cut (fun ρ M1 => ρ = [some (JD es), some (JD fs), some (DsD (spl es)), some (PsD (spl es)), some (DsD (spl fs)), some (PsD (spl fs)), none, none, none, none] ∧ M = M1 ∧ (spl es).ds = (spl fs).ds) ?_ ?_
  · walk_at "gos"
    refine p_neDs ?_
    walk_at "gos"
    · rename_i h
      refine p_finY ?_
      have : RL es fs = false := by unfold RL; rw [decide_eq_false h]; rfl
      rw [this] at q
      exact q
    · rename_i h
      exact ⟨rfl, rfl, h⟩
  rintro _ _ ⟨rfl, rfl, h⟩
  refine s_seq (s_set (lc_flat hes hn rfl rfl ?_))
  refine s_seq (s_set (lc_flat hfs hn rfl rfl ?_))
  refine s_ret (p_e2 (p_eN (p_cons (p_var (d := PL (notes es)) rfl (p_nil ?_)))))
  refine counts_spec (by omega) ?_
  refine p_eN (p_cons (p_var (d := PL (notes fs)) rfl (p_nil ?_)))
  refine counts_spec (by omega) ?_
  refine p_eqN1 ?_
  have hS : RL es fs = eqC (notes es) (notes fs) := by unfold RL; rw [decide_eq_true h, Bool.true_and]
  show P (finish .frz M M (Bo (eqC (notes es) (notes fs)))) E Q
  rw [← hS]
  exact p_finY q
end
section
variable {M : Mem} {E : Exn → Mem → Prop} {Q : D → Mem → Prop}
theorem plain_ct (c : Option (List Pa)) : plain (ctD c) = true ∧ dep (ctD c) ≤ 1 := by
  cases c with
  | none => exact ⟨rfl, by show dep No ≤ 1; unfold dep; omega⟩
  | some ps =>
    have h : ∀ d ∈ ps.map PaD, plain d = true ∧ dep d ≤ 0 := fun d hd => by
      obtain ⟨p, _, rfl⟩ := List.mem_map.mp hd
      cases p <;> exact ⟨rfl, by unfold PaD dep; omega⟩
    refine ⟨?_, ?_⟩
    · show plain (.tup (ps.map PaD)) = true
      unfold DL.plain; exact plains_of fun d hd => (h d hd).1
    · show dep (.tup (ps.map PaD)) ≤ 1
      unfold dep
      have := deps_of fun d hd => (h d hd).2
      omega
theorem plain_txs (ss : List Str) : plain (.tup (ss.map Tx)) = true ∧ dep (.tup (ss.map Tx)) ≤ 1 := by
  have h : ∀ d ∈ ss.map Tx, plain d = true ∧ dep d ≤ 0 := fun d hd => by
    obtain ⟨p, _, rfl⟩ := List.mem_map.mp hd
    exact ⟨rfl, by unfold dep; omega⟩
  refine ⟨?_, ?_⟩
  · unfold DL.plain; exact plains_of fun d hd => (h d hd).1
  · unfold dep
    have := deps_of fun d hd => (h d hd).2
    omega
theorem plain_nd (n : Nt) : plain (ND n) = true ∧ dep (ND n) ≤ 3 := by
  obtain ⟨a1, a2⟩ := plain_txs n.names
  obtain ⟨b1, b2⟩ := plain_ct n.content
  have h : ∀ d ∈ [Tx n.ident, I n.version, .tup (n.names.map Tx), Tx n.cause, ctD n.content], plain d = true ∧ dep d ≤ 2 := fun d hd => by
    simp only [List.mem_cons, List.not_mem_nil, or_false] at hd
    rcases hd with rfl | rfl | rfl | rfl | rfl
    · exact ⟨rfl, by unfold dep; omega⟩
    · exact ⟨rfl, by unfold dep; omega⟩
    · exact ⟨a1, by omega⟩
    · exact ⟨rfl, by unfold dep; omega⟩
    · exact ⟨b1, by omega⟩
  unfold ND
  refine ⟨?_, ?_⟩
  · unfold DL.plain; exact plains_of fun d hd => (h d hd).1
  · unfold dep
    have := deps_of fun d hd => (h d hd).2
    omega
theorem plain_ed (e : En) : plain (ED e) = true ∧ dep (ED e) ≤ 62 := by
  cases e with
  | run i =>
    refine ⟨rfl, ?_⟩
    show dep (.tup [Tx "run", I i]) ≤ 62
    simp [dep, deps]
  | note n =>
    obtain ⟨a1, a2⟩ := plain_nd n
    refine ⟨?_, ?_⟩
    · show plain (.tup [Tx "learn", ND n]) = true
      unfold DL.plain plains plains plains
      rw [a1]; rfl
    · show dep (.tup [Tx "learn", ND n]) ≤ 62
      unfold dep deps deps deps
      have : dep (Tx "learn") = 0 := by unfold dep; rfl
      omega
theorem okEq_jd (es : List En) : okEq (JD es) = true := okEq_all fun d hd => by
  obtain ⟨e, _, rfl⟩ := List.mem_map.mp hd
  exact plain_ed e
theorem alike_spec1 {n : Nat} {es fs : List En} (hes : JK n es) (hfs : JK n fs) (hn : n ≤ 2000000) (q : Q (Bo (SL es fs)) M) : P (F_alike [JD es, JD fs, Tx "stretch"] M) E Q := by
  unfold F_alike
  walk_at "def"
  unfold B_alike
  walk_at "gos"
  refine stretch_like_spec hes hfs hn ?_
  exact p_finY q
theorem alike_spec2 {n : Nat} {es fs : List En} (hes : JK n es) (hfs : JK n fs) (hn : n ≤ 2000000) (q : Q (Bo (RL es fs)) M) : P (F_alike [JD es, JD fs, Tx "runs"] M) E Q := by
  unfold F_alike
  walk_at "def"
  unfold B_alike
  walk_at "gos"
  · rename_i h; exact absurd h (by decide)
  · refine run_like_spec hes hfs hn ?_
    exact p_finY q
theorem answers_spec {n : Nat} {es fs : List En} {a b : Bool} (hes : JK n es) (hfs : JK n fs) (hn : n ≤ 2000000) (ha : SL es fs = a) (hb : RL es fs = b) (q : Q (Bo true) M) : P (F__law_answers [JD es, JD fs, .lst [Bo a, Bo b]] M) E Q := by
  unfold F__law_answers
  walk_at "def"
  unfold B__law_answers
  refine s_seq (s_set (p_eN (p_cons (p_var rfl (p_nil (p_listV (ds := es.map ED) rfl ?_))))))
  refine s_seq (s_set (p_eN (p_cons (p_var rfl (p_nil (p_listV (ds := fs.map ED) rfl ?_))))))
  refine s_seq ?_
  refine SP.cut (fun ρ M1 => ρ = [some (JD es), some (JD fs), some (.lst [Bo a, Bo b]), some (JD es), some (JD fs), some (.lst [Bo a, Bo b]), none] ∧ M = M1) ?_ ?_
  · walk_at "gos"
    refine stretch_like_spec hes hfs hn ?_
    walk_at "gos"
    refine run_like_spec hes hfs hn ?_
    walk_at "gos"
    rw [ha, hb]
    exact ⟨rfl, rfl⟩
  rintro _ _ ⟨rfl, rfl⟩
  refine s_seq ?_
  refine SP.cut (fun ρ M1 => ρ = [some (JD es), some (JD fs), some (.lst [Bo a, Bo b]), some (JD es), some (JD fs), some (.lst [Bo a, Bo b, Bo a, Bo b]), none] ∧ M = M1) ?_ ?_
  · walk_at "gos"
    refine alike_spec1 hes hfs hn ?_
    walk_at "gos"
    refine alike_spec2 hes hfs hn ?_
    walk_at "gos"
    refine p_addL (by simp) ?_
    rw [ha, hb]
    exact ⟨rfl, rfl⟩
  rintro _ _ ⟨rfl, rfl⟩
  refine s_seq ?_
  refine SP.cut (fun ρ M1 => ∃ t, ρ = [some (JD es), some (JD fs), some (.lst [Bo a, Bo b]), some (JD es), some (JD fs), some (.lst [Bo a, Bo b, Bo a, Bo b]), t] ∧ M = M1) ?_ ?_
  · walk_at "gos"
    refine s_forL (fun i ρ M1 => ∃ t, ρ = [some (JD es), some (JD fs), some (.lst [Bo a, Bo b]), some (JD es), some (JD fs), some (.lst [Bo a, Bo b, Bo a, Bo b]), t] ∧ M = M1) ⟨none, rfl, rfl⟩ (fun _ _ _ _ => trivial) ?_ ?_
    · rintro i d _ _ hd ⟨t, rfl, rfl⟩
      have hd : d ∈ [Bo a, Bo b, Bo a, Bo b] := List.mem_of_getElem? hd
      have : ∃ c, d = Bo c := by
        simp only [List.mem_cons, List.not_mem_nil, or_false] at hd
        rcases hd with h | h | h | h <;> exact ⟨_, h⟩
      obtain ⟨c, rfl⟩ := this
      refine ⟨_, rfl, ?_⟩
      walk_at "gos"
      first | exact rfl | exact ⟨_, rfl, rfl⟩
    · rintro _ _ ⟨t, rfl, rfl⟩
      exact ⟨t, rfl, rfl⟩
  rintro _ _ ⟨t, rfl, rfl⟩
  walk_at "gos"
  refine p_addL (by simp) ?_
  have hk : okEq (.lst ([Bo a, Bo b] ++ [Bo a, Bo b])) = true := okEq_all fun d hd => by
    simp only [List.mem_append, List.mem_cons, List.not_mem_nil, or_false] at hd
    rcases hd with (rfl | rfl) | (rfl | rfl) <;> exact ⟨rfl, by unfold dep; omega⟩
  refine p_eqR (x := .lst ([Bo a, Bo b] ++ [Bo a, Bo b])) hk ?_
  walk_at "gos"
  refine p_eqR (by exact okEq_jd es) ?_
  walk_at "gos"
  refine p_eqR (by exact okEq_jd fs) ?_
  exact p_finY q
theorem eqCs_snoc : ∀ {ps qs : List (List Nt)} {p q : List Nt}, ps.length = qs.length → eqCs (ps ++ [p]) (qs ++ [q]) = (eqCs ps qs && eqC p q)
  | [], [], p, q, _ => by
    show (eqC p q && eqCs [] []) = (true && eqC p q)
    rw [show eqCs [] [] = true from rfl, Bool.and_true, Bool.true_and]
  | [], _ :: _, _, _, h => by simp at h
  | _ :: _, [], _, _, h => by simp at h
  | a :: ps, b :: qs, p, q, h => by
    show (eqC a b && eqCs (ps ++ [p]) (qs ++ [q])) = (eqC a b && eqCs ps qs && eqC p q)
    rw [eqCs_snoc (by simpa using h), Bool.and_assoc]
theorem p_part {s : Sp} {i : Nat} {p : List Nt} (h : (psS s)[i]? = some p) (q : Q (PL p) M) : P (gIx (PsD s) (I (i : Int)) M) E Q := by
  refine p_ixS (ds := (psS s).map PL) rfl ?_ q
  have hi := (List.getElem?_eq_some_iff.mp h).1
  rw [atI_of (by omega) (by rw [List.length_map]; omega), List.getElem?_map]
  simp [h]
theorem notes_snoc (es : List En) (e : En) : notes (es ++ [e]) = notes es ++ ntE e := by
  unfold notes; rw [List.flatMap_append]; simp
theorem lc_notes {es : List En} {ρ : DL.Env} {Q : D → Mem → Prop} {n : Nat} (hes : JK n es) (hn : n ≤ 2000000) {i : Nat} (hi : ρ[i]? = some (some (JD es))) (h6 : ρ.length = 9) (q : Q (PL (notes es)) M) :
    P (eLcG mkV (eIt (eVar i)) (.nm 8) (eB (e2 gEq (e2 gIx (eVar 8) (eC (.v (.int 0)))) (eC (.v (.str "learn"))))) (e2 gIx (eVar 8) (eC (.v (.int 1)))) [8] ρ M) E Q := by
  have hl := hes.1
  refine p_lcG (p_eIt (p_var hi ⟨_, rfl, ?_⟩))
  refine ⟨by show (es.map ED).length ≤ _; rw [List.length_map]; omega, ?_⟩
  refine p_lcL (fun i acc M1 => acc = (notes (es.take i)).map ND ∧ M = M1) ⟨rfl, rfl⟩ (fun _ _ _ _ => trivial) ?_ ?_
  · rintro i d _ _ hd ⟨rfl, rfl⟩
    obtain ⟨e, h1, h2, rfl⟩ := get_map hd
    have et : notes (es.take (i + 1)) = notes (es.take i) ++ ntE e := by
      rw [List.take_add_one, h1]; exact notes_snoc _ _
    have h8 : ((wipeD ρ [8]).set 8 (some (ED e)))[8]? = some (some (ED e)) := by rw [List.getElem?_set_self (by simp [wipeD, h6])]
    refine ⟨_, rfl, p_eB (p_e2 (p_e2 (p_var h8 (p_c (p_word (p_c ?_))))))⟩
    rw [et]
    cases e with
    | run j =>
      refine p_eqS ⟨_, rfl, fun z => absurd z (show ¬ decide ((Str.ofString "run") = Str.ofString "learn") = true by decide), fun _ => ⟨by simp [ntE], rfl⟩⟩
    | note m =>
      refine p_eqS ⟨_, rfl, fun _ => p_e2 (p_var h8 (p_c (p_ixS (d := ND m) rfl rfl ⟨by simp [ntE], rfl⟩))), fun z => absurd z (show ¬ decide ((Str.ofString "learn") = Str.ofString "learn") = false by decide)⟩
  · rintro _ _ ⟨rfl, rfl⟩
    have e : es.take (ItS.mk (es.map ED) none).ds.length = es := by
      show es.take (es.map ED).length = _
      rw [List.length_map, List.take_length]
    show P (mkV ((notes (es.take (ItS.mk (es.map ED) none).ds.length)).map ND) M) E Q
    rw [e]
    exact p_mkV q
theorem due_spec {n : Nat} {es fs : List En} (hes : JK n es) (hfs : JK n fs) (hn : n ≤ 2000000) (q : Q (.lst [Bo (SL es fs), Bo (RL es fs)]) M) : P (F__law_due [JD es, JD fs] M) E Q := by
  have hl := hes.1
  have hl2 := hfs.1
  have n1 := notes_len es
  have n2 := notes_len fs
  unfold F__law_due
  walk_at "def"
  unfold B__law_due
  refine s_seq ?_
  refine SP.cut (fun ρ M1 => ρ = [some (JD es), some (JD fs), some (.lst [DsD (spl es), PsD (spl es)]), none, none, none, none, none, none] ∧ M = M1) ?_ ?_
  · walk_at "gos"
    refine parts_spec hes hn ?_
    exact ⟨rfl, rfl⟩
  rintro _ _ ⟨rfl, rfl⟩
  refine s_seq ?_
  refine SP.cut (fun ρ M1 => ρ = [some (JD es), some (JD fs), some (.lst [DsD (spl es), PsD (spl es)]), some (.lst [DsD (spl fs), PsD (spl fs)]), none, none, none, none, none] ∧ M = M1) ?_ ?_
  · walk_at "gos"
    refine parts_spec hfs hn ?_
    exact ⟨rfl, rfl⟩
  rintro _ _ ⟨rfl, rfl⟩
  refine s_seq ?_
  refine SP.cut (fun ρ M1 => ρ = [some (JD es), some (JD fs), some (.lst [DsD (spl es), PsD (spl es)]), some (.lst [DsD (spl fs), PsD (spl fs)]), none, none, none, none, none] ∧ M = M1 ∧ (spl es).ds = (spl fs).ds) ?_ ?_
  · walk_at "gos"
    refine p_neADs ?_
    walk_at "gos"
    · rename_i h
      have h1 : SL es fs = false := by unfold SL; rw [decide_eq_false h]; rfl
      have h2 : RL es fs = false := by unfold RL; rw [decide_eq_false h]; rfl
      rw [h1, h2] at q
      exact p_finD (fun z => by cases z) rfl (CellsOk.refl _) rfl List.take_length q
    · rename_i h
      exact ⟨rfl, rfl, h⟩
  rintro _ _ ⟨rfl, rfl, h⟩
  have hpl : (psS (spl es)).length = (psS (spl fs)).length := by
    show (spl es).rs.length + 1 = (spl fs).rs.length + 1
    rw [(spl_inv es).1, (spl_inv fs).1, h]
  have hrs := (spl_ok es).2.2.1
  refine s_seq (s_set (p_c ?_))
  refine s_seq ?_
  refine SP.cut (fun ρ M1 => ∃ t, ρ = [some (JD es), some (JD fs), some (.lst [DsD (spl es), PsD (spl es)]), some (.lst [DsD (spl fs), PsD (spl fs)]), some (Bo (eqCs (psS (spl es)) (psS (spl fs)))), t, none, none, none] ∧ M = M1) ?_ ?_
  · walk_at "gos"
    refine ⟨by rw [List.length_map, List.length_cons]; omega, ?_⟩
    refine s_forL (fun i ρ M1 => ∃ t, ρ = [some (JD es), some (JD fs), some (.lst [DsD (spl es), PsD (spl es)]), some (.lst [DsD (spl fs), PsD (spl fs)]), some (Bo (eqCs ((psS (spl es)).take i) ((psS (spl fs)).take i))), t, none, none, none] ∧ M = M1) ⟨none, rfl, rfl⟩ (fun _ _ _ _ => trivial) ?_ ?_
    · rintro i d _ _ hd ⟨t, rfl, rfl⟩
      obtain ⟨rfl, hi⟩ := rangeD_get hd
      have hi : i < (psS (spl es)).length := by
        have : (((psS (spl es)).map PL).length : Int).toNat = (psS (spl es)).length := by rw [List.length_map]; omega
        rw [← this]; exact hi
      have h1 : (psS (spl es))[i]? = some (psS (spl es))[i] := List.getElem?_eq_getElem hi
      have hi2 : i < (psS (spl fs)).length := by omega
      have h2 : (psS (spl fs))[i]? = some (psS (spl fs))[i] := List.getElem?_eq_getElem hi2
      have l1 := ps_len (List.mem_of_getElem? h1)
      have l2 := ps_len (List.mem_of_getElem? h2)
      have et : eqCs ((psS (spl es)).take (i + 1)) ((psS (spl fs)).take (i + 1)) = (eqCs ((psS (spl es)).take i) ((psS (spl fs)).take i) && eqC (psS (spl es))[i] (psS (spl fs))[i]) := by
        rw [List.take_add_one, List.take_add_one, h1, h2]
        exact eqCs_snoc (by rw [List.length_take, List.length_take]; omega)
      rw [et]
      generalize eqCs ((psS (spl es)).take i) ((psS (spl fs)).take i) = bb
      generalize (psS (spl es))[i] = p1 at *
      generalize (psS (spl fs))[i] = p2 at *
      refine ⟨_, rfl, ?_⟩
      walk_at "gos"
      rw [show (0 : Int) + (i : Int) = (i : Int) by omega]
      refine p_part h1 ?_
      walk_at "gos"
      refine counted_spec (by omega) ?_
      walk_at "gos"
      refine p_part h2 ?_
      walk_at "gos"
      refine counted_spec (by omega) ?_
      refine p_neN1 ?_
      have e : (!eqN (List.map keyN (CN p1).1) (CN p1).2 (List.map keyN (CN p2).1) (CN p2).2) = !eqC p1 p2 := rfl
      rw [e]
      cases eqC p1 p2 with
      | false =>
        walk_at "gos"
        rw [Bool.and_false]
        exact ⟨_, rfl, rfl⟩
      | true =>
        walk_at "gos"
        rw [Bool.and_true]
        exact ⟨_, rfl, rfl⟩
    · rintro _ _ ⟨t, rfl, rfl⟩
      refine ⟨t, ?_, rfl⟩
      have e1 : ∀ L, L = (psS (spl es)).length → eqCs ((psS (spl es)).take L) ((psS (spl fs)).take L) = eqCs (psS (spl es)) (psS (spl fs)) := fun L hL => by
        rw [hL, List.take_length, hpl, List.take_length]
      exact congrArg (fun b => [some (JD es), some (JD fs), some (.lst [DsD (spl es), PsD (spl es)]), some (.lst [DsD (spl fs), PsD (spl fs)]), some (Bo b), t, none, none, none]) (e1 _ (by
        show (rangeD 0 (((psS (spl es)).map PL).length : Int).toNat).length = _
        rw [rangeD_len, List.length_map, Int.toNat_natCast]))
  rintro _ _ ⟨t, rfl, rfl⟩
  refine s_seq (s_set (lc_notes hes hn rfl rfl ?_))
  refine s_seq (s_set (lc_notes hfs hn rfl rfl ?_))
  walk_at "gos"
  refine counted_spec (by omega) ?_
  walk_at "gos"
  refine counted_spec (by omega) ?_
  refine p_eqN1 ?_
  walk_at "gos"
  have h1 : SL es fs = eqCs (psS (spl es)) (psS (spl fs)) := by unfold SL; rw [decide_eq_true h, Bool.true_and]
  have h2 : RL es fs = eqC (notes es) (notes fs) := by unfold RL; rw [decide_eq_true h, Bool.true_and]
  rw [h1, h2] at q
  exact p_finD (fun z => by cases z) rfl (CellsOk.refl _) rfl List.take_length q
end
/-! the journals that the law makes -/
def addP (p : List Nt) (s : Sp) : Sp := ⟨s.ds, p ++ s.p0, s.rs⟩
theorem step_addP (p : List Nt) (s : Sp) (e : En) : stepS (addP p s) e = addP p (stepS s e) := by
  cases e with
  | run i => rfl
  | note n =>
    obtain ⟨ds, p0, rs⟩ := s
    cases rs with
    | nil =>
      show (⟨ds, p ++ p0 ++ [n], []⟩ : Sp) = ⟨ds, p ++ (p0 ++ [n]), []⟩
      rw [List.append_assoc]
    | cons r rs => rfl
theorem fold_addP (p : List Nt) : ∀ (es : List En) (s : Sp), es.foldl stepS (addP p s) = addP p (es.foldl stepS s)
  | [], _ => rfl
  | e :: es, s => by
    show es.foldl stepS (stepS (addP p s) e) = _
    rw [step_addP, fold_addP p es]; rfl
def dayE : En → List Int
  | .run i => [i]
  | .note _ => []
theorem fold_ds : ∀ (es : List En) (s : Sp), (es.foldl stepS s).ds = s.ds ++ es.flatMap dayE
  | [], s => by simp
  | e :: es, s => by
    show (es.foldl stepS (stepS s e)).ds = _
    rw [fold_ds es, List.flatMap_cons, ← List.append_assoc]
    congr 1
    obtain ⟨ds, p0, rs⟩ := s
    cases e with
    | run i => rfl
    | note n => cases rs <;> simp [stepS, dayE]
theorem spl_ds (es : List En) : (spl es).ds = es.flatMap dayE := by
  unfold spl; rw [fold_ds]; rfl
theorem fold_p0 : ∀ (es : List En) (s : Sp), s.rs ≠ [] → (es.foldl stepS s).p0 = s.p0
  | [], _, _ => rfl
  | e :: es, s, h => by
    obtain ⟨ds, p0, rs⟩ := s
    show (es.foldl stepS (stepS ⟨ds, p0, rs⟩ e)).p0 = p0
    cases e with
    | run i => exact fold_p0 es ⟨ds ++ [i], p0, rs ++ [[]]⟩ (by simp)
    | note n =>
      cases rs with
      | nil => exact absurd rfl h
      | cons r rs => exact fold_p0 es ⟨ds, p0, addLast (r :: rs) n⟩ (by simp [addLast])
theorem cnt_cons (k : PySem.NestedKey) (n : Nt) (ns : List Nt) : cnt k (n :: ns) = cnt k ns + if kn n = k then 1 else 0 := by
  unfold cnt
  rw [List.map_cons, List.count_cons]
  by_cases h : kn n = k
  · rw [if_pos h, if_pos (by simpa using h)]
  · rw [if_neg h, if_neg (by simpa using h)]
theorem eqC_more (n : Nt) (ns : List Nt) : eqC (n :: ns) ns = false := eqC_false (kn n) (by rw [cnt_cons, if_pos rfl]; omega) (by rw [cnt_cons, if_pos rfl]; omega)
theorem eqC_more2 (n : Nt) (ns : List Nt) : eqC (ns ++ [n]) ns = false := eqC_false (kn n) (by rw [cnt_snoc, if_pos rfl]; omega) (by rw [cnt_snoc, if_pos rfl]; omega)
theorem SL_refl (es : List En) : SL es es = true := by unfold SL; rw [eqCs_refl]; simp
theorem RL_refl (es : List En) : RL es es = true := by unfold RL; rw [eqC_refl]; simp
section
variable (x y : Nt) (d : Int) (t : List En)
theorem SL_swap : SL ([.note x] ++ [.note y] ++ t) ([.note y] ++ [.note x] ++ t) = true := by
  have h : ∀ a b : Nt, spl ([.note a] ++ [.note b] ++ t) = addP [a, b] (spl t) := fun a b => fold_addP [a, b] t ⟨[], [], []⟩
  unfold SL
  rw [h x y, h y x]
  show (decide ((spl t).ds = (spl t).ds) && (eqC ([x, y] ++ (spl t).p0) ([y, x] ++ (spl t).p0) && eqCs (spl t).rs (spl t).rs)) = true
  rw [eqCs_refl, eqC_true (fun k => by
    show cnt k (x :: y :: (spl t).p0) = cnt k (y :: x :: (spl t).p0)
    simp only [cnt_cons]; omega)]
  simp
theorem RL_swap : RL ([.note x] ++ [.note y] ++ t) ([.note y] ++ [.note x] ++ t) = true := by
  unfold RL
  rw [spl_ds, spl_ds]
  show (decide (t.flatMap dayE = t.flatMap dayE) && eqC (x :: y :: notes t) (y :: x :: notes t)) = true
  rw [eqC_true (fun k => by simp only [cnt_cons]; omega)]
  simp
theorem p0_nr : (spl ([.note x] ++ [.run d] ++ t)).p0 = [x] := fold_p0 t ⟨[d], [x], [[]]⟩ (by simp)
theorem p0_rn (t : List En) : (spl (.run d :: t)).p0 = [] := fold_p0 t ⟨[d], [], [[]]⟩ (by simp)
theorem SL_cut : SL ([.note x] ++ [.run d] ++ t) ([.run d] ++ [.note x] ++ t) = false := by
  unfold SL psS
  rw [p0_nr]
  rw [show (spl ([.run d] ++ [.note x] ++ t)).p0 = [] from p0_rn d (.note x :: t)]
  show (_ && (eqC [x] [] && _)) = false
  rw [eqC_more x []]
  simp
theorem RL_cut : RL ([.note x] ++ [.run d] ++ t) ([.run d] ++ [.note x] ++ t) = true := by
  unfold RL
  rw [spl_ds, spl_ds]
  show (decide (d :: t.flatMap dayE = d :: t.flatMap dayE) && eqC (x :: notes t) (x :: notes t)) = true
  rw [eqC_refl]; simp
theorem SL_less : SL ([.note x] ++ [.run d] ++ t) ([.run d] ++ t) = false := by
  unfold SL psS
  rw [p0_nr]
  rw [show (spl ([.run d] ++ t)).p0 = [] from p0_rn d t]
  show (_ && (eqC [x] [] && _)) = false
  rw [eqC_more x []]
  simp
theorem RL_less : RL ([.note x] ++ [.run d] ++ t) ([.run d] ++ t) = false := by
  unfold RL
  show (_ && eqC (x :: notes t) (notes t)) = false
  rw [eqC_more]; simp
theorem ds_run : ((spl ([.run d] ++ t)).ds = (spl t).ds) = False := by
  rw [spl_ds, spl_ds]
  show (d :: t.flatMap dayE = t.flatMap dayE) = False
  refine eq_false fun h => ?_
  have := congrArg List.length h
  simp at this
theorem SL_run : SL ([.run d] ++ t) t = false := by
  unfold SL
  rw [decide_eq_false (by rw [ds_run]; exact id)]; rfl
theorem RL_run : RL ([.run d] ++ t) t = false := by
  unfold RL
  rw [decide_eq_false (by rw [ds_run]; exact id)]; rfl
theorem SL_more : SL (t ++ [.note x]) t = false := by
  unfold SL
  have : eqCs (psS (spl (t ++ [.note x]))) (psS (spl t)) = false := by
    rw [spl_snoc]
    generalize spl t = s
    obtain ⟨ds, p0, rs⟩ := s
    rcases List.eq_nil_or_concat rs with e | ⟨r, l, e⟩
    · subst e
      show (eqC (p0 ++ [x]) p0 && _) = false
      rw [eqC_more2]; rfl
    · rw [List.concat_eq_append] at e
      subst e
      rw [step_note]
      show eqCs ((p0 :: r) ++ [l ++ [x]]) ((p0 :: r) ++ [l]) = false
      rw [eqCs_snoc rfl, eqC_more2]; simp
  rw [this]; simp
theorem RL_more : RL (t ++ [.note x]) t = false := by
  unfold RL
  rw [notes_snoc]
  show (_ && eqC (notes t ++ [x]) (notes t)) = false
  rw [eqC_more2]; simp
end
section
variable {M : Mem} {E : Exn → Mem → Prop} {Q : D → Mem → Prop}
theorem p_poolL {ns : List Nt} (hn : PK ns) (q : ∀ n, NtOk n → Q (ND n) M) : P (gIx (PL ns) (I (-1)) M) E Q := by
  obtain ⟨h0, _, h2⟩ := hn
  rcases List.eq_nil_or_concat ns with e | ⟨r, l, e⟩
  · subst e; simp at h0
  · rw [List.concat_eq_append] at e
    subst e
    refine p_ixS (d := ND l) (ds := r.map ND ++ [ND l]) (by simp [PL, seqOf]) atI_last (q l (h2 l (List.mem_append_right _ (List.mem_singleton.mpr rfl))))
theorem p_addJ {xs ys : List En} (h : xs.length + ys.length ≤ 16777216) (q : Q (JD (xs ++ ys)) M) : P (gAdd (JD xs) (JD ys) M) E Q := p_addE h q
theorem fixed_spec {ns : List Nt} {n : Nat} {t : List En} {day : Int} (hns : PK ns) (ht : JK n t) (hn : n ≤ 1000000) (hd : day.natAbs < 2 ^ 40) (q : Q (Bo true) M) : P (F__law_fixed [PL ns, JD t, I day] M) E Q := by
  have hl := ht.1
  unfold F__law_fixed
  walk_at "def"
  unfold B__law_fixed
  refine s_seq ?_
  refine SP.cut (fun ρ M1 => ∃ x, NtOk x ∧ ρ = [some (PL ns), some (JD t), some (I day), some (JD [.note x]), none, none] ∧ M = M1) ?_ ?_
  · walk_at "gos"
    refine p_pool (ns := ns) rfl hns.2.2 (by omega) (by have := hns.1; omega) (fun x hx => ?_)
    walk_at "gos"
    exact ⟨x, hx, rfl, rfl⟩
  rintro _ _ ⟨x, hx, rfl, rfl⟩
  refine s_seq ?_
  refine SP.cut (fun ρ M1 => ∃ y, NtOk y ∧ ρ = [some (PL ns), some (JD t), some (I day), some (JD [.note x]), some (JD [.note y]), none] ∧ M = M1) ?_ ?_
  · walk_at "gos"
    refine p_poolL hns (fun y hy => ?_)
    walk_at "gos"
    exact ⟨y, hy, rfl, rfl⟩
  rintro _ _ ⟨y, hy, rfl, rfl⟩
  refine s_seq ?_
  refine SP.cut (fun ρ M1 => ρ = [some (PL ns), some (JD t), some (I day), some (JD [.note x]), some (JD [.note y]), some (JD [.run day])] ∧ M = M1) ?_ ?_
  · walk_at "gos"
    exact ⟨rfl, rfl⟩
  rintro _ _ ⟨rfl, rfl⟩
  have jx : JK 1 [En.note x] := JK.one hx
  have jy : JK 1 [En.note y] := JK.one hy
  have jd : JK 1 [En.run day] := JK.one hd
  refine s_seq ?_
  refine SP.cut (fun ρ M1 => ρ = [some (PL ns), some (JD t), some (I day), some (JD [.note x]), some (JD [.note y]), some (JD [.run day])] ∧ M = M1) ?_ ?_
  · walk_at "gos"
    refine answers_spec (n := n + 2) (es := t) (fs := t) (ht.mono (by omega)) (ht.mono (by omega)) (by omega) (SL_refl t) (RL_refl t) ?_
    walk_at "gos"
    exact ⟨rfl, rfl⟩
  rintro _ _ ⟨rfl, rfl⟩
  refine s_seq ?_
  refine SP.cut (fun ρ M1 => ρ = [some (PL ns), some (JD t), some (I day), some (JD [.note x]), some (JD [.note y]), some (JD [.run day])] ∧ M = M1) ?_ ?_
  · walk_at "gos"
    refine p_addJ (xs := [En.note x]) (ys := [En.note y]) (by first | (simp; done) | (simp; omega)) ?_
    walk_at "gos"
    refine p_addJ (xs := [En.note x] ++ [En.note y]) (ys := t) (by first | (simp; done) | (simp; omega)) ?_
    walk_at "gos"
    refine p_addJ (xs := [En.note y]) (ys := [En.note x]) (by first | (simp; done) | (simp; omega)) ?_
    walk_at "gos"
    refine p_addJ (xs := [En.note y] ++ [En.note x]) (ys := t) (by first | (simp; done) | (simp; omega)) ?_
    walk_at "gos"
    refine answers_spec (n := n + 2) (es := [En.note x] ++ [En.note y] ++ t) (fs := [En.note y] ++ [En.note x] ++ t) (((jx.app jy).app ht).mono (by omega)) (((jy.app jx).app ht).mono (by omega)) (by omega) (SL_swap x y t) (RL_swap x y t) ?_
    walk_at "gos"
    exact ⟨rfl, rfl⟩
  rintro _ _ ⟨rfl, rfl⟩
  refine s_seq ?_
  refine SP.cut (fun ρ M1 => ρ = [some (PL ns), some (JD t), some (I day), some (JD [.note x]), some (JD [.note y]), some (JD [.run day])] ∧ M = M1) ?_ ?_
  · walk_at "gos"
    refine p_addJ (xs := [En.note x]) (ys := [En.run day]) (by first | (simp; done) | (simp; omega)) ?_
    walk_at "gos"
    refine p_addJ (xs := [En.note x] ++ [En.run day]) (ys := t) (by first | (simp; done) | (simp; omega)) ?_
    walk_at "gos"
    refine p_addJ (xs := [En.run day]) (ys := [En.note x]) (by first | (simp; done) | (simp; omega)) ?_
    walk_at "gos"
    refine p_addJ (xs := [En.run day] ++ [En.note x]) (ys := t) (by first | (simp; done) | (simp; omega)) ?_
    walk_at "gos"
    refine answers_spec (n := n + 2) (es := [En.note x] ++ [En.run day] ++ t) (fs := [En.run day] ++ [En.note x] ++ t) (((jx.app jd).app ht).mono (by omega)) (((jd.app jx).app ht).mono (by omega)) (by omega) (SL_cut x day t) (RL_cut x day t) ?_
    walk_at "gos"
    exact ⟨rfl, rfl⟩
  rintro _ _ ⟨rfl, rfl⟩
  refine s_seq ?_
  refine SP.cut (fun ρ M1 => ρ = [some (PL ns), some (JD t), some (I day), some (JD [.note x]), some (JD [.note y]), some (JD [.run day])] ∧ M = M1) ?_ ?_
  · walk_at "gos"
    refine p_addJ (xs := [En.note x]) (ys := [En.run day]) (by first | (simp; done) | (simp; omega)) ?_
    walk_at "gos"
    refine p_addJ (xs := [En.note x] ++ [En.run day]) (ys := t) (by first | (simp; done) | (simp; omega)) ?_
    walk_at "gos"
    refine p_addJ (xs := [En.run day]) (ys := t) (by first | (simp; done) | (simp; omega)) ?_
    walk_at "gos"
    refine answers_spec (n := n + 2) (es := [En.note x] ++ [En.run day] ++ t) (fs := [En.run day] ++ t) (((jx.app jd).app ht).mono (by omega)) ((jd.app ht).mono (by omega)) (by omega) (SL_less x day t) (RL_less x day t) ?_
    walk_at "gos"
    exact ⟨rfl, rfl⟩
  rintro _ _ ⟨rfl, rfl⟩
  refine s_seq ?_
  refine SP.cut (fun ρ M1 => ρ = [some (PL ns), some (JD t), some (I day), some (JD [.note x]), some (JD [.note y]), some (JD [.run day])] ∧ M = M1) ?_ ?_
  · walk_at "gos"
    refine p_addJ (xs := [En.run day]) (ys := t) (by first | (simp; done) | (simp; omega)) ?_
    walk_at "gos"
    refine answers_spec (n := n + 2) (es := [En.run day] ++ t) (fs := t) ((jd.app ht).mono (by omega)) (ht.mono (by omega)) (by omega) (SL_run day t) (RL_run day t) ?_
    walk_at "gos"
    exact ⟨rfl, rfl⟩
  rintro _ _ ⟨rfl, rfl⟩
  refine s_ret ?_
  walk_at "gos"
  refine p_addJ (xs := t) (ys := [En.note x]) (by first | (simp; done) | (simp; omega)) ?_
  walk_at "gos"
  refine answers_spec (n := n + 2) (es := t ++ [En.note x]) (fs := t) ((ht.app jx).mono (by omega)) (ht.mono (by omega)) (by omega) (SL_more x t) (RL_more x t) ?_
  exact p_finY q
end
local macro_rules | `(tactic| walk_at "nrm") => `(tactic| try dsimp only [List.set_cons_zero, List.set_cons_succ, List.length_cons, List.length_nil, List.cons_append, List.nil_append, Nat.reduceAdd])
def bnd : Nat → Nat
  | 0 => 5000
  | i + 1 => bnd i + bnd i + bnd i + bnd i + 1
abbrev KSs : List D := [.lst [I 6], .lst [I 0, I 6], .lst [I 0, I 1, I 4, I 6], .lst [I 0, I 1, I 2, I 3, I 4, I 5, I 6, I 7]]
def prs (es fs tl : List En) : List (List En × List En) := [(es, fs), (fs, es), (tl, cutG tl (some 1) none ++ cutG tl none (some 1)), (tl, []), ([], cutG fs none (some 24))]
def prD (p : List En × List En) : D := .tup [JD p.1, JD p.2]
theorem turn_loop {ns : List Nt} {es : List En} {ks : List Int} {sc : D} {c s t c2 s2 t2 : Int} {ρ : DL.Env} {M : Mem} {nx : DL.Env → Mem → Prop} {rt : D → Mem → Prop} {bk ct : DL.Env → Mem → Prop} (hns : PK ns) (hes : JK 5000 es) (k0 : 1 ≤ ks.length) (k1 : ks.length ≤ 100)
    (hρ : ρ = [some sc, some (PL ns), some (.h 0), some (JD es), some (JD es), some (.lst (ks.map I)), none, none, none, none, none]) (hM : M = [Pd c s t, Pd c2 s2 t2])
    (q : ∀ fs u c s t, JK 400000 fs → nx [some sc, some (PL ns), some (.h 0), some (JD es), some (JD fs), some (.lst (ks.map I)), u, none, none, none, none] [Pd c s t, Pd c2 s2 t2]) :
    SP (B_law_2 ρ M) nx rt bk ct (fun x _ M1 => NoE x M1) := by
  subst hρ hM
  unfold B_law_2
  walk_at "gos"
  refine draw_spec (k := 0) rfl (by omega) (by omega) (fun r c s t r0 r1 => ?_)
  walk_at "nrm"
  walk_at "gos"
  refine ⟨by omega, ?_⟩
  refine s_forL (fun i ρ M1 => ∃ fs u c s t, JK (bnd i) fs ∧ ρ = [some sc, some (PL ns), some (.h 0), some (JD es), some (JD fs), some (.lst (ks.map I)), u, none, none, none, none] ∧ M1 = [Pd c s t, Pd c2 s2 t2]) ⟨es, none, c, s, t, hes, rfl, rfl⟩ (fun _ _ _ _ => trivial) ?_ ?_
  · rintro i d _ _ hd ⟨fs, u, c, s, t, hfs, rfl, rfl⟩
    obtain ⟨rfl, hi⟩ := rangeD_get hd
    have hb : bnd i ≤ 200000 := by
      have : i = 0 ∨ i = 1 ∨ i = 2 := by omega
      rcases this with rfl | rfl | rfl <;> decide
    refine ⟨_, rfl, ?_⟩
    walk_at "gos"
    refine turned_spec (k := 0) hns hfs hb k0 k1 rfl (fun fs c s t hfs => ?_)
    exact ⟨fs, _, c, s, t, hfs, rfl, rfl⟩
  · rintro _ _ ⟨fs, u, c, s, t, hfs, rfl, rfl⟩
    rw [rangeD_len] at hfs
    refine q fs u c s t (hfs.mono ?_)
    have : (1 + r).toNat = 0 ∨ (1 + r).toNat = 1 ∨ (1 + r).toNat = 2 ∨ (1 + r).toNat = 3 := by omega
    rcases this with e | e | e | e <;> rw [e] <;> decide
theorem law_true (ns : List Int) (hl : ns.length ≤ 63) : ∃ M, F_law [.ro (ns.map fun i => .v (.int i))] [] = .ok (.v (.bl true)) M := by
  suffices h : P (F_law [.ro (ns.map fun i => .v (.int i))] []) NoE fun d _ => d = Bo true by
    obtain ⟨d, M, e, rfl⟩ := h.ok
    exact ⟨M, e⟩
  unfold F_law
  walk_at "def"
  unfold B_law
  generalize hsc : D.ro (ns.map fun i => .v (.int i)) = sc
  have hp : ∀ (place : Int) (M : Mem) (Q : D → Mem → Prop), 0 ≤ place → place ≤ 10 → (∀ c s t, Q (.h M.length) (M ++ [Pd c s t])) → P (F__law_pot [sc, I place] M) NoE Q := fun place M Q p0 p1 q => by
    subst hsc
    exact pot_spec p0 p1 q
  clear hsc
  refine s_seq ?_
  refine SP.cut (fun ρ M1 => ∃ ns, PK ns ∧ ρ = [some sc, some (PL ns), none, none, none, none, none, none, none, none, none] ∧ M1 = []) ?_ ?_
  · refine s_set (p_eN (p_cons (p_var rfl (p_nil ?_))))
    exact P.noE (pool_spec hp fun ns hns => ⟨ns, hns, rfl, rfl⟩)
  rintro _ _ ⟨ns, hns, rfl, rfl⟩
  refine s_seq ?_
  refine SP.cut (fun ρ M1 => ∃ c s t, ρ = [some sc, some (PL ns), some (.h 0), none, none, none, none, none, none, none, none] ∧ M1 = [Pd c s t]) ?_ ?_
  · refine s_set (p_eN (p_cons (p_var rfl (p_cons (p_c (p_nil ?_))))))
    exact P.noE (hp _ _ _ (by omega) (by omega) fun c s t => ⟨c, s, t, rfl, rfl⟩)
  rintro _ _ ⟨c, s, t, rfl, rfl⟩
  refine s_seq ?_
  refine SP.cut (fun ρ M1 => ∃ es c s t c2 s2 t2, JK 5000 es ∧ ρ = [some sc, some (PL ns), some (.h 0), some (JD es), none, none, none, none, none, none, none] ∧ M1 = [Pd c s t, Pd c2 s2 t2]) ?_ ?_
  · refine s_set (p_eN (p_cons (p_var rfl (p_cons (p_eN (p_cons (p_eN (p_cons (p_var rfl (p_cons (p_c (p_nil ?_)))))))))))) 
    refine P.noE (hp _ _ _ (by omega) (by omega) fun c2 s2 t2 => ?_)
    refine p_cons (p_var rfl (p_nil ?_))
    refine journal_spec hns (k := 1) rfl (fun es c2 s2 t2 hes => ?_)
    refine p_nil ?_
    refine repeated_spec hes (k := 0) rfl (fun es c s t hes => ?_)
    exact ⟨es, c, s, t, c2, s2, t2, hes, rfl, rfl⟩
  rintro _ _ ⟨es, c, s, t, c2, s2, t2, hes, rfl, rfl⟩
  refine s_seq ?_
  refine SP.cut (fun ρ M1 => ∃ fs u v c s t, JK 400000 fs ∧ ρ = [some sc, some (PL ns), some (.h 0), some (JD es), some (JD fs), u, v, none, none, none, none] ∧ M1 = [Pd c s t, Pd c2 s2 t2]) ?_ ?_
  · unfold B_law_4
    walk_at "gos"
    refine draw_spec (k := 0) rfl (by omega) (by omega) (fun r c s t r0 r1 => ?_)
    walk_at "nrm"
    walk_at "gos"
    · refine journal_spec hns (k := 0) rfl (fun fs c s t hfs => ?_)
      exact ⟨fs, _, _, c, s, t, hfs.mono (by omega), rfl, rfl⟩
    · refine draw_spec (k := 0) rfl (by omega) (by omega) (fun r2 c s t r20 r21 => ?_)
      have hk : ∃ ks : List Int, 1 ≤ ks.length ∧ ks.length ≤ 100 ∧ atI KSs r2 = some (.lst (ks.map I)) := by
        have : r2 = 0 ∨ r2 = 1 ∨ r2 = 2 ∨ r2 = 3 := by omega
        rcases this with rfl | rfl | rfl | rfl
        · exact ⟨[6], by decide, by decide, rfl⟩
        · exact ⟨[0, 6], by decide, by decide, rfl⟩
        · exact ⟨[0, 1, 4, 6], by decide, by decide, rfl⟩
        · exact ⟨[0, 1, 2, 3, 4, 5, 6, 7], by decide, by decide, rfl⟩
      obtain ⟨ks, k0, k1, hk⟩ := hk
      refine p_ixS (ds := KSs) rfl hk ?_
      walk_at "nrm"
      refine turn_loop hns hes k0 k1 rfl rfl fun fs u c s t hfs => ?_
      exact ⟨fs, _, u, c, s, t, hfs, rfl, rfl⟩
  rintro _ _ ⟨fs, u, v, c, s, t, hfs, rfl, rfl⟩
  have htl : JK 400000 (cutG es none (some 24)) := (hes.cut _ _).mono (by omega)
  refine s_seq ?_
  refine SP.cut (fun ρ M1 => ρ = [some sc, some (PL ns), some (.h 0), some (JD es), some (JD fs), u, v, some (JD (cutG es none (some 24))), none, none, none] ∧ M1 = [Pd c s t, Pd c2 s2 t2]) ?_ ?_
  · walk_at "gos"
    rw [cutG_map]
    exact ⟨rfl, rfl⟩
  rintro _ _ ⟨rfl, rfl⟩
  generalize hT : cutG es none (some 24) = tl at *
  have lt := htl.1
  refine s_seq ?_
  refine SP.cut (fun ρ M1 => ρ = [some sc, some (PL ns), some (.h 0), some (JD es), some (JD fs), u, v, some (JD tl), some (.lst ((prs es fs tl).map prD)), none, none] ∧ M1 = [Pd c s t, Pd c2 s2 t2]) ?_ ?_
  · walk_at "gos"
    have c1 := cutG_len tl (some 1) none
    have c2 := cutG_len tl none (some 1)
    simp only [cutG_map]
    refine p_addJ (xs := cutG tl (some 1) none) (ys := cutG tl none (some 1)) (by omega) ?_
    walk_at "gos"
    rw [cutG_map]
    exact ⟨rfl, rfl⟩
  rintro _ _ ⟨rfl, rfl⟩
  have hpr : ∀ p ∈ prs es fs tl, JK 800000 p.1 ∧ JK 800000 p.2 := fun p hp => by
    simp only [prs, List.mem_cons, List.not_mem_nil, or_false] at hp
    have h1 := hes.mono (m := 800000) (by omega)
    have h2 := hfs.mono (m := 800000) (by omega)
    have h3 := htl.mono (m := 800000) (by omega)
    rcases hp with rfl | rfl | rfl | rfl | rfl
    · exact ⟨h1, h2⟩
    · exact ⟨h2, h1⟩
    · exact ⟨h3, ((htl.cut _ _).app (htl.cut _ _)).mono (by omega)⟩
    · exact ⟨h3, JK.nil⟩
    · exact ⟨JK.nil, h2.cut _ _⟩
  refine s_seq ?_
  refine SP.cut (fun ρ M1 => ∃ a b, ρ = [some sc, some (PL ns), some (.h 0), some (JD es), some (JD fs), u, v, some (JD tl), some (.lst ((prs es fs tl).map prD)), a, b] ∧ M1 = [Pd c s t, Pd c2 s2 t2]) ?_ ?_
  · generalize prs es fs tl = pp at *
    walk_at "gos"
    refine s_forL (fun i ρ M1 => ∃ a b, ρ = [some sc, some (PL ns), some (.h 0), some (JD es), some (JD fs), u, v, some (JD tl), some (.lst (pp.map prD)), a, b] ∧ M1 = [Pd c s t, Pd c2 s2 t2]) ⟨none, none, rfl, rfl⟩ (fun _ _ _ _ => trivial) ?_ ?_
    · rintro i d _ _ hd ⟨a, b, rfl, rfl⟩
      obtain ⟨p, h1, h2, rfl⟩ := get_map hd
      obtain ⟨q1, q2⟩ := hpr p h2
      refine ⟨_, rfl, ?_⟩
      walk_at "gos"
      refine due_spec q1 q2 (by omega) ?_
      walk_at "gos"
      refine answers_spec q1 q2 (by omega) rfl rfl ?_
      walk_at "gos"
      exact ⟨_, _, rfl, rfl⟩
    · rintro _ _ ⟨a, b, rfl, rfl⟩
      exact ⟨a, b, rfl, rfl⟩
  rintro _ _ ⟨a, b, rfl, rfl⟩
  walk_at "gos"
  refine day_spec (k := 0) rfl (fun i c s t hi => ?_)
  walk_at "gos"
  refine fixed_spec hns htl (by omega) hi ?_
  exact p_finZ (CellsOk.app (CellsOk.refl []) (L := _) (Nat.le_refl _)) rfl rfl
end Law
set_option Elab.async false
set_option maxRecDepth 100000
set_option maxHeartbeats 4000000
namespace Law
open PySem PySem.Spec PyProof.Rows L2 DL
/-- what the top has left -/
structure Tx (P : Program) (K : PySem.W.Frag) (mg : Str → Option Value) where
  a__law_draw : Addr
  d__law_draw : FuncData
  f__law_draw : Fun K "_law_draw" "_law_draw" s__law_draw a__law_draw d__law_draw
  m__law_draw : mg "_law_draw" = some (.ref a__law_draw)
  b__law_draw : Binds K d__law_draw ["pot", "size"] []
  a__law_word : Addr
  d__law_word : FuncData
  f__law_word : Fun K "_law_word" "_law_word" s__law_word a__law_word d__law_word
  m__law_word : mg "_law_word" = some (.ref a__law_word)
  b__law_word : Binds K d__law_word ["pot", "size"] []
  a__law_bumped : Addr
  d__law_bumped : FuncData
  f__law_bumped : Fun K "_law_bumped" "_law_bumped" s__law_bumped a__law_bumped d__law_bumped
  m__law_bumped : mg "_law_bumped" = some (.ref a__law_bumped)
  b__law_bumped : Binds K d__law_bumped ["word", "names"] []
  a__law_names : Addr
  d__law_names : FuncData
  f__law_names : Fun K "_law_names" "_law_names" s__law_names a__law_names d__law_names
  m__law_names : mg "_law_names" = some (.ref a__law_names)
  b__law_names : Binds K d__law_names ["pot", "count"] []
  a__law_pot : Addr
  d__law_pot : FuncData
  f__law_pot : Fun K "_law_pot" "_law_pot" s__law_pot a__law_pot d__law_pot
  m__law_pot : mg "_law_pot" = some (.ref a__law_pot)
  b__law_pot : Binds K d__law_pot ["script", "place"] []
  a__law_ident : Addr
  d__law_ident : FuncData
  f__law_ident : Fun K "_law_ident" "_law_ident" s__law_ident a__law_ident d__law_ident
  m__law_ident : mg "_law_ident" = some (.ref a__law_ident)
  b__law_ident : Binds K d__law_ident ["pot"] []
  a__law_version : Addr
  d__law_version : FuncData
  f__law_version : Fun K "_law_version" "_law_version" s__law_version a__law_version d__law_version
  m__law_version : mg "_law_version" = some (.ref a__law_version)
  b__law_version : Binds K d__law_version ["pot"] []
  a__law_some : Addr
  d__law_some : FuncData
  f__law_some : Fun K "_law_some" "_law_some" s__law_some a__law_some d__law_some
  m__law_some : mg "_law_some" = some (.ref a__law_some)
  b__law_some : Binds K d__law_some ["pot", "names"] []
  a__law_cause : Addr
  d__law_cause : FuncData
  f__law_cause : Fun K "_law_cause" "_law_cause" s__law_cause a__law_cause d__law_cause
  m__law_cause : mg "_law_cause" = some (.ref a__law_cause)
  b__law_cause : Binds K d__law_cause ["pot", "names"] []
  a__law_stretch : Addr
  d__law_stretch : FuncData
  f__law_stretch : Fun K "_law_stretch" "_law_stretch" s__law_stretch a__law_stretch d__law_stretch
  m__law_stretch : mg "_law_stretch" = some (.ref a__law_stretch)
  b__law_stretch : Binds K d__law_stretch ["pot"] []
  a__law_content : Addr
  d__law_content : FuncData
  f__law_content : Fun K "_law_content" "_law_content" s__law_content a__law_content d__law_content
  m__law_content : mg "_law_content" = some (.ref a__law_content)
  b__law_content : Binds K d__law_content ["pot", "names"] []
  a__law_note : Addr
  d__law_note : FuncData
  f__law_note : Fun K "_law_note" "_law_note" s__law_note a__law_note d__law_note
  m__law_note : mg "_law_note" = some (.ref a__law_note)
  b__law_note : Binds K d__law_note ["pot", "names"] []
  a__law_near : Addr
  d__law_near : FuncData
  f__law_near : Fun K "_law_near" "_law_near" s__law_near a__law_near d__law_near
  m__law_near : mg "_law_near" = some (.ref a__law_near)
  b__law_near : Binds K d__law_near ["pot", "names", "note"] []
  a__law_pool : Addr
  d__law_pool : FuncData
  f__law_pool : Fun K "_law_pool" "_law_pool" s__law_pool a__law_pool d__law_pool
  m__law_pool : mg "_law_pool" = some (.ref a__law_pool)
  b__law_pool : Binds K d__law_pool ["script"] []
  a__law_repeated : Addr
  d__law_repeated : FuncData
  f__law_repeated : Fun K "_law_repeated" "_law_repeated" s__law_repeated a__law_repeated d__law_repeated
  m__law_repeated : mg "_law_repeated" = some (.ref a__law_repeated)
  b__law_repeated : Binds K d__law_repeated ["pot", "journal"] []
  a__split : Addr
  d__split : FuncData
  f__split : Fun K "_split" "_split" s__split a__split d__split
  m__split : mg "_split" = some (.ref a__split)
  b__split : Binds K d__split ["journal"] []
  a__counts : Addr
  d__counts : FuncData
  f__counts : Fun K "_counts" "_counts" s__counts a__counts d__counts
  m__counts : mg "_counts" = some (.ref a__counts)
  b__counts : Binds K d__counts ["notes"] []
  a_stretch_like : Addr
  d_stretch_like : FuncData
  f_stretch_like : Fun K "stretch_like" "stretch_like" s_stretch_like a_stretch_like d_stretch_like
  m_stretch_like : mg "stretch_like" = some (.ref a_stretch_like)
  b_stretch_like : Binds K d_stretch_like ["one", "two"] []
  a_run_like : Addr
  d_run_like : FuncData
  f_run_like : Fun K "run_like" "run_like" s_run_like a_run_like d_run_like
  m_run_like : mg "run_like" = some (.ref a_run_like)
  b_run_like : Binds K d_run_like ["one", "two"] []
  a_alike : Addr
  d_alike : FuncData
  f_alike : Fun K "alike" "alike" s_alike a_alike d_alike
  m_alike : mg "alike" = some (.ref a_alike)
  b_alike : Binds K d_alike ["one", "two", "over"] []
  a__law_answers : Addr
  d__law_answers : FuncData
  f__law_answers : Fun K "_law_answers" "_law_answers" s__law_answers a__law_answers d__law_answers
  m__law_answers : mg "_law_answers" = some (.ref a__law_answers)
  b__law_answers : Binds K d__law_answers ["left", "right", "due"] []
  a__law_fixed : Addr
  d__law_fixed : FuncData
  f__law_fixed : Fun K "_law_fixed" "_law_fixed" s__law_fixed a__law_fixed d__law_fixed
  m__law_fixed : mg "_law_fixed" = some (.ref a__law_fixed)
  b__law_fixed : Binds K d__law_fixed ["pool", "tail", "day"] []
  a__law_day : Addr
  d__law_day : FuncData
  f__law_day : Fun K "_law_day" "_law_day" s__law_day a__law_day d__law_day
  m__law_day : mg "_law_day" = some (.ref a__law_day)
  b__law_day : Binds K d__law_day ["pot"] []
  a__law_entry : Addr
  d__law_entry : FuncData
  f__law_entry : Fun K "_law_entry" "_law_entry" s__law_entry a__law_entry d__law_entry
  m__law_entry : mg "_law_entry" = some (.ref a__law_entry)
  b__law_entry : Binds K d__law_entry ["pot", "pool"] []
  a__law_journal : Addr
  d__law_journal : FuncData
  f__law_journal : Fun K "_law_journal" "_law_journal" s__law_journal a__law_journal d__law_journal
  m__law_journal : mg "_law_journal" = some (.ref a__law_journal)
  b__law_journal : Binds K d__law_journal ["pot", "pool"] []
  a__law_flipped : Addr
  d__law_flipped : FuncData
  f__law_flipped : Fun K "_law_flipped" "_law_flipped" s__law_flipped a__law_flipped d__law_flipped
  m__law_flipped : mg "_law_flipped" = some (.ref a__law_flipped)
  b__law_flipped : Binds K d__law_flipped ["journal", "place"] []
  a__law_turned : Addr
  d__law_turned : FuncData
  f__law_turned : Fun K "_law_turned" "_law_turned" s__law_turned a__law_turned d__law_turned
  m__law_turned : mg "_law_turned" = some (.ref a__law_turned)
  b__law_turned : Binds K d__law_turned ["pot", "pool", "journal", "kinds"] []
  a__law_parts : Addr
  d__law_parts : FuncData
  f__law_parts : Fun K "_law_parts" "_law_parts" s__law_parts a__law_parts d__law_parts
  m__law_parts : mg "_law_parts" = some (.ref a__law_parts)
  b__law_parts : Binds K d__law_parts ["journal"] []
  a__law_counted : Addr
  d__law_counted : FuncData
  f__law_counted : Fun K "_law_counted" "_law_counted" s__law_counted a__law_counted d__law_counted
  m__law_counted : mg "_law_counted" = some (.ref a__law_counted)
  b__law_counted : Binds K d__law_counted ["notes"] []
  a__law_due : Addr
  d__law_due : FuncData
  f__law_due : Fun K "_law_due" "_law_due" s__law_due a__law_due d__law_due
  m__law_due : mg "_law_due" = some (.ref a__law_due)
  b__law_due : Binds K d__law_due ["left", "right"] []
  a_law : Addr
  d_law : FuncData
  f_law : Fun K "law" "law" s_law a_law d_law
  n_bool : mg "bool" = none
  n_int : mg "int" = none
  n_isinstance : mg "isinstance" = none
  n_len : mg "len" = none
  n_list : mg "list" = none
  n_max : mg "max" = none
  n_min : mg "min" = none
  n_range : mg "range" = none
  n_sorted : mg "sorted" = none
  n_sum : mg "sum" = none
  n_tuple : mg "tuple" = none
theorem Tx.k__law_draw {P : Program} {K : PySem.W.Frag} {mg : Str → Option Value} (T : Tx P K mg) : PySem.W.keepIn K (.ref T.a__law_draw) = true := T.f__law_draw.kp
theorem Tx.k__law_word {P : Program} {K : PySem.W.Frag} {mg : Str → Option Value} (T : Tx P K mg) : PySem.W.keepIn K (.ref T.a__law_word) = true := T.f__law_word.kp
theorem Tx.k__law_bumped {P : Program} {K : PySem.W.Frag} {mg : Str → Option Value} (T : Tx P K mg) : PySem.W.keepIn K (.ref T.a__law_bumped) = true := T.f__law_bumped.kp
theorem Tx.k__law_names {P : Program} {K : PySem.W.Frag} {mg : Str → Option Value} (T : Tx P K mg) : PySem.W.keepIn K (.ref T.a__law_names) = true := T.f__law_names.kp
theorem Tx.k__law_pot {P : Program} {K : PySem.W.Frag} {mg : Str → Option Value} (T : Tx P K mg) : PySem.W.keepIn K (.ref T.a__law_pot) = true := T.f__law_pot.kp
theorem Tx.k__law_ident {P : Program} {K : PySem.W.Frag} {mg : Str → Option Value} (T : Tx P K mg) : PySem.W.keepIn K (.ref T.a__law_ident) = true := T.f__law_ident.kp
theorem Tx.k__law_version {P : Program} {K : PySem.W.Frag} {mg : Str → Option Value} (T : Tx P K mg) : PySem.W.keepIn K (.ref T.a__law_version) = true := T.f__law_version.kp
theorem Tx.k__law_some {P : Program} {K : PySem.W.Frag} {mg : Str → Option Value} (T : Tx P K mg) : PySem.W.keepIn K (.ref T.a__law_some) = true := T.f__law_some.kp
theorem Tx.k__law_cause {P : Program} {K : PySem.W.Frag} {mg : Str → Option Value} (T : Tx P K mg) : PySem.W.keepIn K (.ref T.a__law_cause) = true := T.f__law_cause.kp
theorem Tx.k__law_stretch {P : Program} {K : PySem.W.Frag} {mg : Str → Option Value} (T : Tx P K mg) : PySem.W.keepIn K (.ref T.a__law_stretch) = true := T.f__law_stretch.kp
theorem Tx.k__law_content {P : Program} {K : PySem.W.Frag} {mg : Str → Option Value} (T : Tx P K mg) : PySem.W.keepIn K (.ref T.a__law_content) = true := T.f__law_content.kp
theorem Tx.k__law_note {P : Program} {K : PySem.W.Frag} {mg : Str → Option Value} (T : Tx P K mg) : PySem.W.keepIn K (.ref T.a__law_note) = true := T.f__law_note.kp
theorem Tx.k__law_near {P : Program} {K : PySem.W.Frag} {mg : Str → Option Value} (T : Tx P K mg) : PySem.W.keepIn K (.ref T.a__law_near) = true := T.f__law_near.kp
theorem Tx.k__law_pool {P : Program} {K : PySem.W.Frag} {mg : Str → Option Value} (T : Tx P K mg) : PySem.W.keepIn K (.ref T.a__law_pool) = true := T.f__law_pool.kp
theorem Tx.k__law_repeated {P : Program} {K : PySem.W.Frag} {mg : Str → Option Value} (T : Tx P K mg) : PySem.W.keepIn K (.ref T.a__law_repeated) = true := T.f__law_repeated.kp
theorem Tx.k__split {P : Program} {K : PySem.W.Frag} {mg : Str → Option Value} (T : Tx P K mg) : PySem.W.keepIn K (.ref T.a__split) = true := T.f__split.kp
theorem Tx.k__counts {P : Program} {K : PySem.W.Frag} {mg : Str → Option Value} (T : Tx P K mg) : PySem.W.keepIn K (.ref T.a__counts) = true := T.f__counts.kp
theorem Tx.k_stretch_like {P : Program} {K : PySem.W.Frag} {mg : Str → Option Value} (T : Tx P K mg) : PySem.W.keepIn K (.ref T.a_stretch_like) = true := T.f_stretch_like.kp
theorem Tx.k_run_like {P : Program} {K : PySem.W.Frag} {mg : Str → Option Value} (T : Tx P K mg) : PySem.W.keepIn K (.ref T.a_run_like) = true := T.f_run_like.kp
theorem Tx.k_alike {P : Program} {K : PySem.W.Frag} {mg : Str → Option Value} (T : Tx P K mg) : PySem.W.keepIn K (.ref T.a_alike) = true := T.f_alike.kp
theorem Tx.k__law_answers {P : Program} {K : PySem.W.Frag} {mg : Str → Option Value} (T : Tx P K mg) : PySem.W.keepIn K (.ref T.a__law_answers) = true := T.f__law_answers.kp
theorem Tx.k__law_fixed {P : Program} {K : PySem.W.Frag} {mg : Str → Option Value} (T : Tx P K mg) : PySem.W.keepIn K (.ref T.a__law_fixed) = true := T.f__law_fixed.kp
theorem Tx.k__law_day {P : Program} {K : PySem.W.Frag} {mg : Str → Option Value} (T : Tx P K mg) : PySem.W.keepIn K (.ref T.a__law_day) = true := T.f__law_day.kp
theorem Tx.k__law_entry {P : Program} {K : PySem.W.Frag} {mg : Str → Option Value} (T : Tx P K mg) : PySem.W.keepIn K (.ref T.a__law_entry) = true := T.f__law_entry.kp
theorem Tx.k__law_journal {P : Program} {K : PySem.W.Frag} {mg : Str → Option Value} (T : Tx P K mg) : PySem.W.keepIn K (.ref T.a__law_journal) = true := T.f__law_journal.kp
theorem Tx.k__law_flipped {P : Program} {K : PySem.W.Frag} {mg : Str → Option Value} (T : Tx P K mg) : PySem.W.keepIn K (.ref T.a__law_flipped) = true := T.f__law_flipped.kp
theorem Tx.k__law_turned {P : Program} {K : PySem.W.Frag} {mg : Str → Option Value} (T : Tx P K mg) : PySem.W.keepIn K (.ref T.a__law_turned) = true := T.f__law_turned.kp
theorem Tx.k__law_parts {P : Program} {K : PySem.W.Frag} {mg : Str → Option Value} (T : Tx P K mg) : PySem.W.keepIn K (.ref T.a__law_parts) = true := T.f__law_parts.kp
theorem Tx.k__law_counted {P : Program} {K : PySem.W.Frag} {mg : Str → Option Value} (T : Tx P K mg) : PySem.W.keepIn K (.ref T.a__law_counted) = true := T.f__law_counted.kp
theorem Tx.k__law_due {P : Program} {K : PySem.W.Frag} {mg : Str → Option Value} (T : Tx P K mg) : PySem.W.keepIn K (.ref T.a__law_due) = true := T.f__law_due.kp
section
variable {P : Program} [HW] {K : PySem.W.Frag} {mg : Str → Option Value} {base : Heap}
theorem ok__law_draw (T : Tx P K mg) : FnOk P HW.w K mg base (L2.CX P HW.w) 1 T.a__law_draw T.d__law_draw ["pot", "size"] (spOf K 2 (runF .frz 2 4 B__law_draw)) := by
  refine fn_body (N := N__law_draw) (k := 0) .frz T.f__law_draw sc__law_draw fun cdv A outer s H E hr => ?_
  have hu := hu65 hr
  have nd := sc__law_draw.nd
  have tk := tk_of (P := P) (w := HW.w) (K := K) (mg := mg) (base := base) (N := N__law_draw) (qual := "_law_draw") (sc := defScope s__law_draw) (f := T.a__law_draw) (cdv := cdv) (A := A) (outer := outer) (s := s) (H := H) (E := E)
  exact (sds_cons (sd_if (pdb_gt (pd_ix ix_seq dr_ix (pd_var 0) pd_int) pd_int)
  (sds_cons (sd_set nd (pd_mod (pd_intOf T.n_int (pds_cons (pd_ix ix_seq dr_ix (pd_var 0) pd_int) pds_nil)) (pd_var 1)))
  (sds_cons (sd_store (pd_var 0) pd_int (pd_div (pd_intOf T.n_int (pds_cons (pd_ix ix_seq dr_ix (pd_var 0) pd_int) pds_nil)) (pd_var 1)))
  (sds_one (sd_ret (pd_var 2)))))
  sds_nil)
  (sds_cons (sd_store (pd_var 0) pd_int (pd_add (pd_ix ix_seq dr_ix (pd_var 0) pd_int) pd_int))
  (sds_cons (sd_set nd (pd_mod (pd_intOf T.n_int (pds_cons (pd_add (pd_ix ix_seq dr_ix (pd_var 0) pd_int) (pd_mul pd_int (pd_ix ix_seq dr_ix (pd_var 0) pd_int))) pds_nil)) pd_int))
  (sds_cons (sd_set nd (pd_mod (pd_intOf T.n_int (pds_cons (pd_add (pd_add (pd_mul (pd_var 3) (pd_var 3)) (pd_mul pd_int (pd_ix ix_seq dr_ix (pd_var 0) pd_int))) (pd_ix ix_seq dr_ix (pd_var 0) pd_int)) pds_nil)) pd_int))
  (sds_cons (sd_set nd (pd_mod (pd_intOf T.n_int (pds_cons (pd_add (pd_mul (pd_var 3) pd_int) (pd_mul pd_int (pd_ix ix_seq dr_ix (pd_var 0) pd_int))) pds_nil)) pd_int))
  (sds_cons (sd_set nd (pd_mod (pd_intOf T.n_int (pds_cons (pd_add (pd_mul (pd_var 3) (pd_var 3)) (pd_ix ix_seq dr_ix (pd_var 0) pd_int)) pds_nil)) pd_int))
  (sds_one (sd_ret (pd_mod (pd_intOf T.n_int (pds_cons (pd_div (pd_var 3) pd_int) pds_nil)) (pd_var 1))))))))))
theorem ok__law_word (T : Tx P K mg) : FnOk P HW.w K mg base (L2.CX P HW.w) 2 T.a__law_word T.d__law_word ["pot", "size"] (spOf K 2 (runF .frz 2 4 B__law_word)) := by
  refine fn_body (N := N__law_word) (k := 1) .frz T.f__law_word sc__law_word fun cdv A outer s H E hr => ?_
  have hu := hu65 hr
  have nd := sc__law_word.nd
  have tk := tk_of (P := P) (w := HW.w) (K := K) (mg := mg) (base := base) (N := N__law_word) (qual := "_law_word") (sc := defScope s__law_word) (f := T.a__law_word) (cdv := cdv) (A := A) (outer := outer) (s := s) (H := H) (E := E)
  exact (sds_cons (sd_set nd pd_str)
  (sds_one (sd_ret (pd_bm PySem.F.plainAttrs_str PySem.F.slot_str_join PySem.F.type_str_join mt_join dr_join pd_str (pds_cons (pd_lc mkV_ok [("k", 3)] rfl nd (pid_range1 T.n_range (pds_cons (pd_var 1) pds_nil)) (blkOk_by (N := N__law_word) (sc := defScope s__law_word) (by decide +kernel)) (fun _ _ _ _ _ => (pgd_nm nd)) (fun _ _ _ _ _ => pdbs_nil) (fun _ _ _ _ _ => (pd_ix ix_seq dr_ix (pd_var 2) (pd_call takes0 (ok__law_draw T) (hr.mono (by decide)) T.m__law_draw T.k__law_draw T.b__law_draw (pds_cons (pd_var 0) (pds_cons pd_int pds_nil)))))) pds_nil)))))
theorem ok__law_bumped (T : Tx P K mg) : FnOk P HW.w K mg base (L2.CX P HW.w) 1 T.a__law_bumped T.d__law_bumped ["word", "names"] (spOf K 2 (runF .frz 2 4 B__law_bumped)) := by
  refine fn_body (N := N__law_bumped) (k := 0) .frz T.f__law_bumped sc__law_bumped fun cdv A outer s H E hr => ?_
  have hu := hu65 hr
  have nd := sc__law_bumped.nd
  have tk := tk_of (P := P) (w := HW.w) (K := K) (mg := mg) (base := base) (N := N__law_bumped) (qual := "_law_bumped") (sc := defScope s__law_bumped) (f := T.a__law_bumped) (cdv := cdv) (A := A) (outer := outer) (s := s) (H := H) (E := E)
  exact (sds_cons (sd_set nd pd_str)
  (sds_cons (sd_for (passes_of rfl) rfl (pid_range1 T.n_range (pds_cons (pd_len T.n_len (pds_cons (pd_var 1) pds_nil)) pds_nil)) (pgd_nm nd)
  (sds_one (sd_if (pdb_in hu (pd_var 0) (pd_var 1))
  (sds_one (sd_set nd (pd_add (pd_slice (pd_var 0) pdo_no (pdo_some (pd_neg pd_int))) (pd_ix ix_seq dr_ix (pd_var 2) (pd_mod (pd_intOf T.n_int (pds_cons (pd_add (pd_bm PySem.F.plainAttrs_str PySem.F.slot_str_find PySem.F.type_str_find mt_find (dr_S1 fun _ _ => rfl) (pd_var 2) (pds_cons (pd_ix ix_seq dr_ix (pd_var 0) (pd_neg pd_int)) pds_nil)) pd_int) pds_nil)) pd_int)))))
  sds_nil)))
  (sds_one (sd_ret (pd_var 0)))))
theorem ok__law_names (T : Tx P K mg) : FnOk P HW.w K mg base (L2.CX P HW.w) 3 T.a__law_names T.d__law_names ["pot", "count"] (spOf K 2 (runF .frz 2 11 B__law_names)) := by
  refine fn_body (N := N__law_names) (k := 2) .frz T.f__law_names sc__law_names fun cdv A outer s H E hr => ?_
  have hu := hu65 hr
  have nd := sc__law_names.nd
  have tk := tk_of (P := P) (w := HW.w) (K := K) (mg := mg) (base := base) (N := N__law_names) (qual := "_law_names") (sc := defScope s__law_names) (f := T.a__law_names) (cdv := cdv) (A := A) (outer := outer) (s := s) (H := H) (E := E)
  exact (sds_cons (sd_set nd pd_str)
  (sds_cons (sd_set nd (pd_call tk (ok__law_draw T) (hr.mono (by decide)) T.m__law_draw T.k__law_draw T.b__law_draw (pds_cons (pd_var 0) (pds_cons pd_int pds_nil))))
  (sds_cons (sd_set nd (pd_lst mkH_n pds_nil))
  (sds_cons (sd_if (pdb_eq hu (pd_var 3) pd_int)
  (sds_cons (sd_for (passes_of rfl) rfl (pid_range1 T.n_range (pds_cons (pd_var 1) pds_nil)) (pgd_nm nd)
  (sds_one (sd_expr (pd_append (pd_var 4) (pds_cons (pd_call tk (ok__law_bumped T) (hr.mono (by decide)) T.m__law_bumped T.k__law_bumped T.b__law_bumped (pds_cons (pd_call tk (ok__law_word T) (hr.mono (by decide)) T.m__law_word T.k__law_word T.b__law_word (pds_cons (pd_var 0) (pds_cons (pd_add pd_int (pd_call tk (ok__law_draw T) (hr.mono (by decide)) T.m__law_draw T.k__law_draw T.b__law_draw (pds_cons (pd_var 0) (pds_cons pd_int pds_nil)))) pds_nil))) (pds_cons (pd_var 4) pds_nil))) pds_nil)))))
  (sds_one (sd_ret (pd_var 4))))
  sds_nil)
  (sds_cons (sd_set nd (pd_call tk (ok__law_word T) (hr.mono (by decide)) T.m__law_word T.k__law_word T.b__law_word (pds_cons (pd_var 0) (pds_cons pd_int pds_nil))))
  (sds_cons (sd_set nd (pd_call tk (ok__law_draw T) (hr.mono (by decide)) T.m__law_draw T.k__law_draw T.b__law_draw (pds_cons (pd_var 0) (pds_cons pd_int pds_nil))))
  (sds_cons (sd_set nd (pd_add pd_int (pd_mul pd_int (pd_call tk (ok__law_draw T) (hr.mono (by decide)) T.m__law_draw T.k__law_draw T.b__law_draw (pds_cons (pd_var 0) (pds_cons pd_int pds_nil))))))
  (sds_cons (sd_set nd (pd_add pd_int (pd_call tk (ok__law_draw T) (hr.mono (by decide)) T.m__law_draw T.k__law_draw T.b__law_draw (pds_cons (pd_var 0) (pds_cons pd_int pds_nil)))))
  (sds_cons (sd_set nd (pd_call tk (ok__law_draw T) (hr.mono (by decide)) T.m__law_draw T.k__law_draw T.b__law_draw (pds_cons (pd_var 0) (pds_cons (pd_var 9) pds_nil))))
  (sds_cons (sd_for (passes_of rfl) rfl (pid_range1 T.n_range (pds_cons (pd_var 1) pds_nil)) (pgd_nm nd)
  (sds_one (sd_if (pdb_eq hu (pd_var 3) pd_int)
  (sds_one (sd_expr (pd_append (pd_var 4) (pds_cons (pd_slice (pd_var 6) pdo_no (pdo_some (pd_add pd_int (pd_mod (pd_intOf T.n_int (pds_cons (pd_add (pd_var 7) (pd_mul (pd_var 5) (pd_var 8))) pds_nil)) pd_int)))) pds_nil))))
  (sds_one (sd_expr (pd_append (pd_var 4) (pds_cons (pd_add (pd_add (pd_slice (pd_var 6) pdo_no (pdo_some (pd_var 10))) (pd_ix ix_seq dr_ix (pd_var 2) (pd_mod (pd_intOf T.n_int (pds_cons (pd_add (pd_var 7) (pd_mul (pd_var 5) (pd_var 8))) pds_nil)) pd_int))) (pd_slice (pd_var 6) (pdo_some (pd_add (pd_var 10) pd_int)) (pdo_some (pd_var 9)))) pds_nil)))))))
  (sds_one (sd_ret (pd_var 4)))))))))))))
theorem ok__law_pot (T : Tx P K mg) : FnOk P HW.w K mg base (L2.CX P HW.w) 1 T.a__law_pot T.d__law_pot ["script", "place"] (spOf K 2 (runF .own 2 5 B__law_pot)) := by
  refine fn_body (N := N__law_pot) (k := 0) .own T.f__law_pot sc__law_pot fun cdv A outer s H E hr => ?_
  have hu := hu65 hr
  have nd := sc__law_pot.nd
  have tk := tk_of (P := P) (w := HW.w) (K := K) (mg := mg) (base := base) (N := N__law_pot) (qual := "_law_pot") (sc := defScope s__law_pot) (f := T.a__law_pot) (cdv := cdv) (A := A) (outer := outer) (s := s) (H := H) (E := E)
  exact (sds_cons (sd_set nd (pd_add (pd_mul pd_int (pd_sum rfl T.n_sum (pds_cons (pd_lc mkV_ok [("one", 4)] rfl nd (pid_seq (pd_slice (pd_var 0) pdo_no (pdo_some pd_int))) (blkOk_by (N := N__law_pot) (sc := defScope s__law_pot) (by decide +kernel)) (fun _ _ _ _ _ => (pgd_nm nd)) (fun _ _ _ _ _ => pdbs_nil) (fun _ _ _ _ _ => (pd_mod (pd_intOf T.n_int (pds_cons (pd_var 4) pds_nil)) pd_int))) pds_nil))) (pd_mul pd_int (pd_var 1))))
  (sds_cons (sd_if (pdb_lt (pd_var 1) (pd_len T.n_len (pds_cons (pd_var 0) pds_nil)))
  (sds_one (sd_set nd (pd_intOf T.n_int (pds_cons (pd_ix ix_seq dr_ix (pd_var 0) (pd_var 1)) pds_nil))))
  sds_nil)
  (sds_cons (sd_set nd (pd_mod (pd_intOf T.n_int (pds_cons (pd_add (pd_mod (pd_intOf T.n_int (pds_cons (pd_var 2) pds_nil)) pd_int) (pd_mul pd_int (pd_var 1))) pds_nil)) pd_int))
  (sds_one (sd_ret (pd_lst mkH_n (pds_cons (pd_ifExp (pdb_ge (pd_var 2) (pd_pow pd_int pd_int)) (pd_var 2) pd_int) (pds_cons (pd_var 3) (pds_cons pd_int pds_nil)))))))))
theorem ok__law_ident (T : Tx P K mg) : FnOk P HW.w K mg base (L2.CX P HW.w) 2 T.a__law_ident T.d__law_ident ["pot"] (spOf K 1 (runF .frz 1 3 B__law_ident)) := by
  refine fn_body (N := N__law_ident) (k := 1) .frz T.f__law_ident sc__law_ident fun cdv A outer s H E hr => ?_
  have hu := hu65 hr
  have nd := sc__law_ident.nd
  have tk := tk_of (P := P) (w := HW.w) (K := K) (mg := mg) (base := base) (N := N__law_ident) (qual := "_law_ident") (sc := defScope s__law_ident) (f := T.a__law_ident) (cdv := cdv) (A := A) (outer := outer) (s := s) (H := H) (E := E)
  exact (sds_cons (sd_set nd pd_str)
  (sds_one (sd_ret (pd_bm PySem.F.plainAttrs_str PySem.F.slot_str_join PySem.F.type_str_join mt_join dr_join pd_str (pds_cons (pd_lc mkV_ok [("k", 2)] rfl nd (pid_range1 T.n_range (pds_cons (pd_add pd_int (pd_call tk (ok__law_draw T) (hr.mono (by decide)) T.m__law_draw T.k__law_draw T.b__law_draw (pds_cons (pd_var 0) (pds_cons pd_int pds_nil)))) pds_nil)) (blkOk_by (N := N__law_ident) (sc := defScope s__law_ident) (by decide +kernel)) (fun _ _ _ _ _ => (pgd_nm nd)) (fun _ _ _ _ _ => pdbs_nil) (fun _ _ _ _ _ => (pd_ix ix_seq dr_ix (pd_var 1) (pd_call takes0 (ok__law_draw T) (hr.mono (by decide)) T.m__law_draw T.k__law_draw T.b__law_draw (pds_cons (pd_var 0) (pds_cons pd_int pds_nil)))))) pds_nil)))))
theorem ok__law_version (T : Tx P K mg) : FnOk P HW.w K mg base (L2.CX P HW.w) 2 T.a__law_version T.d__law_version ["pot"] (spOf K 1 (runF .frz 1 2 B__law_version)) := by
  refine fn_body (N := N__law_version) (k := 1) .frz T.f__law_version sc__law_version fun cdv A outer s H E hr => ?_
  have hu := hu65 hr
  have nd := sc__law_version.nd
  have tk := tk_of (P := P) (w := HW.w) (K := K) (mg := mg) (base := base) (N := N__law_version) (qual := "_law_version") (sc := defScope s__law_version) (f := T.a__law_version) (cdv := cdv) (A := A) (outer := outer) (s := s) (H := H) (E := E)
  exact (sds_cons (sd_set nd (pd_call tk (ok__law_draw T) (hr.mono (by decide)) T.m__law_draw T.k__law_draw T.b__law_draw (pds_cons (pd_var 0) (pds_cons pd_int pds_nil))))
  (sds_cons (sd_if (pdb_eq hu (pd_var 1) pd_int)
  (sds_one (sd_ret (pd_add pd_int (pd_call tk (ok__law_draw T) (hr.mono (by decide)) T.m__law_draw T.k__law_draw T.b__law_draw (pds_cons (pd_var 0) (pds_cons (pd_pow pd_int pd_int) pds_nil))))))
  sds_nil)
  (sds_one (sd_ret (pd_ix ix_seq dr_ix (pd_lst mkV_n (pds_cons pd_int (pds_cons (pd_add pd_int (pd_call tk (ok__law_draw T) (hr.mono (by decide)) T.m__law_draw T.k__law_draw T.b__law_draw (pds_cons (pd_var 0) (pds_cons pd_int pds_nil)))) (pds_cons (pd_pow pd_int pd_int) pds_nil)))) (pd_var 1))))))
theorem ok__law_some (T : Tx P K mg) : FnOk P HW.w K mg base (L2.CX P HW.w) 2 T.a__law_some T.d__law_some ["pot", "names"] (spOf K 2 (runF .frz 2 3 B__law_some)) := by
  refine fn_body (N := N__law_some) (k := 1) .frz T.f__law_some sc__law_some fun cdv A outer s H E hr => ?_
  have hu := hu65 hr
  have nd := sc__law_some.nd
  have tk := tk_of (P := P) (w := HW.w) (K := K) (mg := mg) (base := base) (N := N__law_some) (qual := "_law_some") (sc := defScope s__law_some) (f := T.a__law_some) (cdv := cdv) (A := A) (outer := outer) (s := s) (H := H) (E := E)
  exact (sds_cons (sd_if (pdb_eq hu (pd_call tk (ok__law_draw T) (hr.mono (by decide)) T.m__law_draw T.k__law_draw T.b__law_draw (pds_cons (pd_var 0) (pds_cons pd_int pds_nil))) pd_int)
  (sds_one (sd_ret (pd_tup pds_nil)))
  sds_nil)
  (sds_one (sd_ret (pd_tupOf T.n_tuple (pds_cons (pd_sorted mkV_n T.n_sorted (pds_cons (pd_lc mkV_ok [("name", 2)] rfl nd (pid_seq (pd_var 1)) (blkOk_by (N := N__law_some) (sc := defScope s__law_some) (by decide +kernel)) (fun _ _ _ _ _ => (pgd_nm nd)) (fun _ _ _ _ _ => (pdbs_one (pdb_eq hu (pd_call takes0 (ok__law_draw T) (hr.mono (by decide)) T.m__law_draw T.k__law_draw T.b__law_draw (pds_cons (pd_var 0) (pds_cons pd_int pds_nil))) pd_int))) (fun _ _ _ _ _ => (pd_var 2))) pds_nil)) pds_nil)))))
theorem ok__law_cause (T : Tx P K mg) : FnOk P HW.w K mg base (L2.CX P HW.w) 2 T.a__law_cause T.d__law_cause ["pot", "names"] (spOf K 2 (runF .frz 2 2 B__law_cause)) := by
  refine fn_body (N := N__law_cause) (k := 1) .frz T.f__law_cause sc__law_cause fun cdv A outer s H E hr => ?_
  have hu := hu65 hr
  have nd := sc__law_cause.nd
  have tk := tk_of (P := P) (w := HW.w) (K := K) (mg := mg) (base := base) (N := N__law_cause) (qual := "_law_cause") (sc := defScope s__law_cause) (f := T.a__law_cause) (cdv := cdv) (A := A) (outer := outer) (s := s) (H := H) (E := E)
  exact (sds_cons (sd_if (pdb_eq hu (pd_call tk (ok__law_draw T) (hr.mono (by decide)) T.m__law_draw T.k__law_draw T.b__law_draw (pds_cons (pd_var 0) (pds_cons pd_int pds_nil))) pd_int)
  (sds_one (sd_ret pd_str))
  sds_nil)
  (sds_one (sd_ret (pd_ix ix_seq dr_ix (pd_var 1) (pd_call tk (ok__law_draw T) (hr.mono (by decide)) T.m__law_draw T.k__law_draw T.b__law_draw (pds_cons (pd_var 0) (pds_cons (pd_len T.n_len (pds_cons (pd_var 1) pds_nil)) pds_nil)))))))
theorem ok__law_stretch (T : Tx P K mg) : FnOk P HW.w K mg base (L2.CX P HW.w) 2 T.a__law_stretch T.d__law_stretch ["pot"] (spOf K 1 (runF .frz 1 2 B__law_stretch)) := by
  refine fn_body (N := N__law_stretch) (k := 1) .frz T.f__law_stretch sc__law_stretch fun cdv A outer s H E hr => ?_
  have hu := hu65 hr
  have nd := sc__law_stretch.nd
  have tk := tk_of (P := P) (w := HW.w) (K := K) (mg := mg) (base := base) (N := N__law_stretch) (qual := "_law_stretch") (sc := defScope s__law_stretch) (f := T.a__law_stretch) (cdv := cdv) (A := A) (outer := outer) (s := s) (H := H) (E := E)
  exact (sds_cons (sd_set nd (pd_call tk (ok__law_draw T) (hr.mono (by decide)) T.m__law_draw T.k__law_draw T.b__law_draw (pds_cons (pd_var 0) (pds_cons pd_int pds_nil))))
  (sds_one (sd_ret (pd_tup (pds_cons (pd_var 1) (pds_cons (pd_add (pd_add (pd_var 1) pd_int) (pd_call tk (ok__law_draw T) (hr.mono (by decide)) T.m__law_draw T.k__law_draw T.b__law_draw (pds_cons (pd_var 0) (pds_cons (pd_sub pd_int (pd_var 1)) pds_nil)))) pds_nil))))))
theorem ok__law_content (T : Tx P K mg) : FnOk P HW.w K mg base (L2.CX P HW.w) 3 T.a__law_content T.d__law_content ["pot", "names"] (spOf K 2 (runF .frz 2 8 B__law_content)) := by
  refine fn_body (N := N__law_content) (k := 2) .frz T.f__law_content sc__law_content fun cdv A outer s H E hr => ?_
  have hu := hu65 hr
  have nd := sc__law_content.nd
  have tk := tk_of (P := P) (w := HW.w) (K := K) (mg := mg) (base := base) (N := N__law_content) (qual := "_law_content") (sc := defScope s__law_content) (f := T.a__law_content) (cdv := cdv) (A := A) (outer := outer) (s := s) (H := H) (E := E)
  exact (sds_cons (sd_set nd (pd_call tk (ok__law_draw T) (hr.mono (by decide)) T.m__law_draw T.k__law_draw T.b__law_draw (pds_cons (pd_var 0) (pds_cons pd_int pds_nil))))
  (sds_cons (sd_set nd (pd_ix ix_seq dr_ix (pd_var 1) (pd_call tk (ok__law_draw T) (hr.mono (by decide)) T.m__law_draw T.k__law_draw T.b__law_draw (pds_cons (pd_var 0) (pds_cons (pd_len T.n_len (pds_cons (pd_var 1) pds_nil)) pds_nil)))))
  (sds_cons (sd_set nd (pd_call tk (ok__law_draw T) (hr.mono (by decide)) T.m__law_draw T.k__law_draw T.b__law_draw (pds_cons (pd_var 0) (pds_cons (pd_len T.n_len (pds_cons (pd_var 1) pds_nil)) pds_nil))))
  (sds_cons (sd_set nd (pd_mod (pd_intOf T.n_int (pds_cons (pd_add (pd_add (pd_var 4) pd_int) (pd_call tk (ok__law_draw T) (hr.mono (by decide)) T.m__law_draw T.k__law_draw T.b__law_draw (pds_cons (pd_var 0) (pds_cons (pd_sub (pd_len T.n_len (pds_cons (pd_var 1) pds_nil)) pd_int) pds_nil)))) pds_nil)) (pd_len T.n_len (pds_cons (pd_var 1) pds_nil))))
  (sds_cons (sd_asg (pd_call tk (ok__law_stretch T) (hr.mono (by decide)) T.m__law_stretch T.k__law_stretch T.b__law_stretch (pds_cons (pd_var 0) pds_nil)) (pgd_tp rfl (pgds_cons (pgd_nm nd) (pgds_cons (pgd_nm nd) pgds_nil))))
  (sds_cons (sd_if (pdb_eq hu (pd_var 2) pd_int)
  (sds_one (sd_ret pd_non))
  sds_nil)
  (sds_cons (sd_if (pdb_eq hu (pd_var 2) pd_int)
  (sds_one (sd_ret (pd_tup (pds_cons pd_str (pds_cons (pd_var 3) (pds_cons (pd_sub (pd_call tk (ok__law_draw T) (hr.mono (by decide)) T.m__law_draw T.k__law_draw T.b__law_draw (pds_cons (pd_var 0) (pds_cons pd_int pds_nil))) pd_int) pds_nil))))))
  sds_nil)
  (sds_cons (sd_if (pdb_eq hu (pd_var 2) pd_int)
  (sds_one (sd_ret (pd_tup (pds_cons pd_str (pds_cons (pd_var 3) (pds_cons (pd_ix ix_seq dr_ix (pd_var 1) (pd_var 4)) (pds_cons (pd_var 6) (pds_cons (pd_var 7) pds_nil))))))))
  sds_nil)
  (sds_cons (sd_if (pdb_eq hu (pd_var 2) pd_int)
  (sds_one (sd_ret (pd_tup (pds_cons pd_str (pds_cons (pd_ix ix_seq dr_ix (pd_var 1) (pd_var 4)) (pds_cons (pd_ix ix_seq dr_ix (pd_var 1) (pd_var 5)) (pds_cons (pd_var 6) (pds_cons (pd_var 7) pds_nil))))))))
  sds_nil)
  (sds_cons (sd_if (pdb_eq hu (pd_var 2) pd_int)
  (sds_one (sd_ret (pd_tup (pds_cons pd_str (pds_cons (pd_var 3) (pds_cons (pd_add pd_int (pd_call tk (ok__law_draw T) (hr.mono (by decide)) T.m__law_draw T.k__law_draw T.b__law_draw (pds_cons (pd_var 0) (pds_cons (pd_pow pd_int pd_int) pds_nil)))) (pds_cons (pd_var 6) (pds_cons (pd_var 7) pds_nil))))))))
  sds_nil)
  (sds_cons (sd_if (pdb_eq hu (pd_var 2) pd_int)
  (sds_one (sd_ret (pd_tup (pds_cons pd_str (pds_cons (pd_var 3) (pds_cons (pd_ix ix_seq dr_ix (pd_var 1) (pd_var 4)) (pds_cons (pd_var 6) (pds_cons (pd_var 7) pds_nil))))))))
  sds_nil)
  (sds_cons (sd_if (pdb_eq hu (pd_var 2) pd_int)
  (sds_one (sd_ret (pd_tup (pds_cons pd_str (pds_cons (pd_var 3) (pds_cons (pd_ix ix_seq dr_ix (pd_var 1) (pd_var 4)) (pds_cons (pd_var 6) pds_nil)))))))
  sds_nil)
  (sds_one (sd_ret (pd_tup (pds_cons pd_str (pds_cons (pd_var 3) (pds_cons (pd_ix ix_seq dr_ix (pd_var 1) (pd_var 4)) (pds_cons (pd_call tk (ok__law_draw T) (hr.mono (by decide)) T.m__law_draw T.k__law_draw T.b__law_draw (pds_cons (pd_var 0) (pds_cons (pd_add (pd_pow pd_int pd_int) pd_int) pds_nil))) (pds_cons (pd_var 6) (pds_cons (pd_var 7) pds_nil)))))))))))))))))))))
theorem ok__law_note (T : Tx P K mg) : FnOk P HW.w K mg base (L2.CX P HW.w) 4 T.a__law_note T.d__law_note ["pot", "names"] (spOf K 2 (runF .frz 2 6 B__law_note)) := by
  refine fn_body (N := N__law_note) (k := 3) .frz T.f__law_note sc__law_note fun cdv A outer s H E hr => ?_
  have hu := hu65 hr
  have nd := sc__law_note.nd
  have tk := tk_of (P := P) (w := HW.w) (K := K) (mg := mg) (base := base) (N := N__law_note) (qual := "_law_note") (sc := defScope s__law_note) (f := T.a__law_note) (cdv := cdv) (A := A) (outer := outer) (s := s) (H := H) (E := E)
  exact (sds_cons (sd_set nd (pd_call tk (ok__law_ident T) (hr.mono (by decide)) T.m__law_ident T.k__law_ident T.b__law_ident (pds_cons (pd_var 0) pds_nil)))
  (sds_cons (sd_set nd (pd_call tk (ok__law_version T) (hr.mono (by decide)) T.m__law_version T.k__law_version T.b__law_version (pds_cons (pd_var 0) pds_nil)))
  (sds_cons (sd_set nd (pd_call tk (ok__law_some T) (hr.mono (by decide)) T.m__law_some T.k__law_some T.b__law_some (pds_cons (pd_var 0) (pds_cons (pd_var 1) pds_nil))))
  (sds_cons (sd_set nd (pd_call tk (ok__law_cause T) (hr.mono (by decide)) T.m__law_cause T.k__law_cause T.b__law_cause (pds_cons (pd_var 0) (pds_cons (pd_var 1) pds_nil))))
  (sds_one (sd_ret (pd_tup (pds_cons (pd_var 2) (pds_cons (pd_var 3) (pds_cons (pd_var 4) (pds_cons (pd_var 5) (pds_cons (pd_call tk (ok__law_content T) (hr.mono (by decide)) T.m__law_content T.k__law_content T.b__law_content (pds_cons (pd_var 0) (pds_cons (pd_var 1) pds_nil))) pds_nil))))))))))))
theorem ok__law_near (T : Tx P K mg) : FnOk P HW.w K mg base (L2.CX P HW.w) 4 T.a__law_near T.d__law_near ["pot", "names", "note"] (spOf K 3 (runF .frz 3 9 B__law_near)) := by
  refine fn_body (N := N__law_near) (k := 3) .frz T.f__law_near sc__law_near fun cdv A outer s H E hr => ?_
  have hu := hu65 hr
  have nd := sc__law_near.nd
  have tk := tk_of (P := P) (w := HW.w) (K := K) (mg := mg) (base := base) (N := N__law_near) (qual := "_law_near") (sc := defScope s__law_near) (f := T.a__law_near) (cdv := cdv) (A := A) (outer := outer) (s := s) (H := H) (E := E)
  exact (sds_cons (sd_asg (pd_var 2) (pgd_tp rfl (pgds_cons (pgd_nm nd) (pgds_cons (pgd_nm nd) (pgds_cons (pgd_nm nd) (pgds_cons (pgd_nm nd) (pgds_cons (pgd_nm nd) pgds_nil)))))))
  (sds_cons (sd_set nd (pd_call tk (ok__law_draw T) (hr.mono (by decide)) T.m__law_draw T.k__law_draw T.b__law_draw (pds_cons (pd_var 0) (pds_cons pd_int pds_nil))))
  (sds_cons (sd_if (pdb_eq hu (pd_var 8) pd_int)
  (sds_one (sd_set nd (pd_call tk (ok__law_ident T) (hr.mono (by decide)) T.m__law_ident T.k__law_ident T.b__law_ident (pds_cons (pd_var 0) pds_nil))))
  sds_nil)
  (sds_cons (sd_if (pdb_eq hu (pd_var 8) pd_int)
  (sds_one (sd_set nd (pd_call tk (ok__law_version T) (hr.mono (by decide)) T.m__law_version T.k__law_version T.b__law_version (pds_cons (pd_var 0) pds_nil))))
  sds_nil)
  (sds_cons (sd_if (pdb_eq hu (pd_var 8) pd_int)
  (sds_one (sd_set nd (pd_call tk (ok__law_some T) (hr.mono (by decide)) T.m__law_some T.k__law_some T.b__law_some (pds_cons (pd_var 0) (pds_cons (pd_var 1) pds_nil)))))
  sds_nil)
  (sds_cons (sd_if (pdb_eq hu (pd_var 8) pd_int)
  (sds_one (sd_set nd (pd_call tk (ok__law_cause T) (hr.mono (by decide)) T.m__law_cause T.k__law_cause T.b__law_cause (pds_cons (pd_var 0) (pds_cons (pd_var 1) pds_nil)))))
  sds_nil)
  (sds_cons (sd_if (pdb_eq hu (pd_var 8) pd_int)
  (sds_one (sd_set nd (pd_call tk (ok__law_content T) (hr.mono (by decide)) T.m__law_content T.k__law_content T.b__law_content (pds_cons (pd_var 0) (pds_cons (pd_var 1) pds_nil)))))
  sds_nil)
  (sds_one (sd_ret (pd_tup (pds_cons (pd_var 3) (pds_cons (pd_var 4) (pds_cons (pd_var 5) (pds_cons (pd_var 6) (pds_cons (pd_var 7) pds_nil)))))))))))))))
theorem ok__law_pool (T : Tx P K mg) : FnOk P HW.w K mg base (L2.CX P HW.w) 5 T.a__law_pool T.d__law_pool ["script"] (spOf K 1 (runF .frz 1 5 B__law_pool)) := by
  refine fn_body (N := N__law_pool) (k := 4) .frz T.f__law_pool sc__law_pool fun cdv A outer s H E hr => ?_
  have hu := hu65 hr
  have nd := sc__law_pool.nd
  have tk := tk_of (P := P) (w := HW.w) (K := K) (mg := mg) (base := base) (N := N__law_pool) (qual := "_law_pool") (sc := defScope s__law_pool) (f := T.a__law_pool) (cdv := cdv) (A := A) (outer := outer) (s := s) (H := H) (E := E)
  exact (sds_cons (sd_set nd (pd_call tk (ok__law_names T) (hr.mono (by decide)) T.m__law_names T.k__law_names T.b__law_names (pds_cons (pd_call tk (ok__law_pot T) (hr.mono (by decide)) T.m__law_pot T.k__law_pot T.b__law_pot (pds_cons (pd_var 0) (pds_cons pd_int pds_nil))) (pds_cons pd_int pds_nil))))
  (sds_cons (sd_set nd (pd_call tk (ok__law_pot T) (hr.mono (by decide)) T.m__law_pot T.k__law_pot T.b__law_pot (pds_cons (pd_var 0) (pds_cons pd_int pds_nil))))
  (sds_cons (sd_set nd (pd_lst mkH_n (pds_cons (pd_call tk (ok__law_note T) (hr.mono (by decide)) T.m__law_note T.k__law_note T.b__law_note (pds_cons (pd_var 2) (pds_cons (pd_var 1) pds_nil))) pds_nil)))
  (sds_cons (sd_for (passes_of rfl) rfl (pid_range1 T.n_range (pds_cons (pd_call tk (ok__law_draw T) (hr.mono (by decide)) T.m__law_draw T.k__law_draw T.b__law_draw (pds_cons (pd_var 2) (pds_cons pd_int pds_nil))) pds_nil)) (pgd_nm nd)
  (sds_one (sd_if (pdb_eq hu (pd_call tk (ok__law_draw T) (hr.mono (by decide)) T.m__law_draw T.k__law_draw T.b__law_draw (pds_cons (pd_var 2) (pds_cons pd_int pds_nil))) pd_int)
  (sds_one (sd_expr (pd_append (pd_var 3) (pds_cons (pd_call tk (ok__law_note T) (hr.mono (by decide)) T.m__law_note T.k__law_note T.b__law_note (pds_cons (pd_var 2) (pds_cons (pd_var 1) pds_nil))) pds_nil))))
  (sds_one (sd_expr (pd_append (pd_var 3) (pds_cons (pd_call tk (ok__law_near T) (hr.mono (by decide)) T.m__law_near T.k__law_near T.b__law_near (pds_cons (pd_var 2) (pds_cons (pd_var 1) (pds_cons (pd_ix ix_seq dr_ix (pd_var 3) (pd_call tk (ok__law_draw T) (hr.mono (by decide)) T.m__law_draw T.k__law_draw T.b__law_draw (pds_cons (pd_var 2) (pds_cons (pd_len T.n_len (pds_cons (pd_var 3) pds_nil)) pds_nil)))) pds_nil)))) pds_nil)))))))
  (sds_one (sd_ret (pd_var 3)))))))
theorem ok__law_repeated (T : Tx P K mg) : FnOk P HW.w K mg base (L2.CX P HW.w) 2 T.a__law_repeated T.d__law_repeated ["pot", "journal"] (spOf K 2 (runF .frz 2 4 B__law_repeated)) := by
  refine fn_body (N := N__law_repeated) (k := 1) .frz T.f__law_repeated sc__law_repeated fun cdv A outer s H E hr => ?_
  have hu := hu65 hr
  have nd := sc__law_repeated.nd
  have tk := tk_of (P := P) (w := HW.w) (K := K) (mg := mg) (base := base) (N := N__law_repeated) (qual := "_law_repeated") (sc := defScope s__law_repeated) (f := T.a__law_repeated) (cdv := cdv) (A := A) (outer := outer) (s := s) (H := H) (E := E)
  exact (sds_cons (sd_set nd (pd_len T.n_len (pds_cons (pd_lc mkV_ok [("entry", 3)] rfl nd (pid_seq (pd_var 1)) (blkOk_by (N := N__law_repeated) (sc := defScope s__law_repeated) (by decide +kernel)) (fun _ _ _ _ _ => (pgd_nm nd)) (fun _ _ _ _ _ => (pdbs_one (pdb_eq hu (pd_ix ix_seq dr_ix (pd_var 3) pd_int) pd_str))) (fun _ _ _ _ _ => (pd_var 3))) pds_nil)))
  (sds_cons (sd_if (pdb_w (pdw_or (pdb_ne hu (pd_call tk (ok__law_draw T) (hr.mono (by decide)) T.m__law_draw T.k__law_draw T.b__law_draw (pds_cons (pd_var 0) (pds_cons pd_int pds_nil))) pd_int) (pdw_or1 (pdb_eq hu (pd_len T.n_len (pds_cons (pd_var 1) pds_nil)) pd_int))))
  (sds_one (sd_ret (pd_listOf mkV_n T.n_list (pds_cons (pd_var 1) pds_nil))))
  sds_nil)
  (sds_one (sd_ret (pd_rep mkV_n (pd_var 1) (pd_div pd_int (pd_max2 rfl T.n_max (pds_cons (pd_var 2) (pds_cons (pd_sub (pd_len T.n_len (pds_cons (pd_var 1) pds_nil)) (pd_var 2)) pds_nil)))))))))
theorem ok__split (T : Tx P K mg) : FnOk P HW.w K mg base (L2.CX P HW.w) 1 T.a__split T.d__split ["journal"] (spOf K 1 (runF .dfr 1 5 B__split)) := by
  refine fn_body (N := N__split) (k := 0) .dfr T.f__split sc__split fun cdv A outer s H E hr => ?_
  have hu := hu65 hr
  have nd := sc__split.nd
  have tk := tk_of (P := P) (w := HW.w) (K := K) (mg := mg) (base := base) (N := N__split) (qual := "_split") (sc := defScope s__split) (f := T.a__split) (cdv := cdv) (A := A) (outer := outer) (s := s) (H := H) (E := E)
  exact (sds_cons (sd_set nd (pd_lst mkH_n pds_nil))
  (sds_cons (sd_set nd (pd_lst mkH_n (pds_cons (pd_lst mkH_n pds_nil) pds_nil)))
  (sds_cons (sd_for (passes_of rfl) rfl (pid_seq (pd_var 0)) (pgd_tp rfl (pgds_cons (pgd_nm nd) (pgds_cons (pgd_nm nd) pgds_nil)))
  (sds_one (sd_if (pdb_eq hu (pd_var 3) pd_str)
  (sds_cons (sd_expr (pd_append (pd_var 1) (pds_cons (pd_var 4) pds_nil)))
  (sds_one (sd_expr (pd_append (pd_var 2) (pds_cons (pd_lst mkH_n pds_nil) pds_nil)))))
  (sds_one (sd_expr (pd_append (pd_ix ix_seq dr_ix (pd_var 2) (pd_neg pd_int)) (pds_cons (pd_var 4) pds_nil)))))))
  (sds_one (sd_ret (pd_tup (pds_cons (pd_var 1) (pds_cons (pd_var 2) pds_nil))))))))
theorem ok__counts (T : Tx P K mg) : FnOk P HW.w K mg base (L2.CX P HW.w) 1 T.a__counts T.d__counts ["notes"] (spOf K 1 (runF .frz 1 3 B__counts)) := by
  refine fn_body (N := N__counts) (k := 0) .frz T.f__counts sc__counts fun cdv A outer s H E hr => ?_
  have hu := hu65 hr
  have nd := sc__counts.nd
  have tk := tk_of (P := P) (w := HW.w) (K := K) (mg := mg) (base := base) (N := N__counts) (qual := "_counts") (sc := defScope s__counts) (f := T.a__counts) (cdv := cdv) (A := A) (outer := outer) (s := s) (H := H) (E := E)
  exact (sds_cons (sd_set nd pd_nnew)
  (sds_cons (sd_for (passes_of rfl) rfl (pid_seq (pd_var 0)) (pgd_nm nd)
  (sds_one (sd_nput hu (pd_var 1) (pd_var 2) (pd_add (pd_nget2 hu (pd_var 1) (pd_var 2) pd_int) pd_int))))
  (sds_one (sd_ret (pd_var 1)))))
theorem ok_stretch_like (T : Tx P K mg) : FnOk P HW.w K mg base (L2.CX P HW.w) 2 T.a_stretch_like T.d_stretch_like ["one", "two"] (spOf K 2 (runF .frz 2 7 B_stretch_like)) := by
  refine fn_body (N := N_stretch_like) (k := 1) .frz T.f_stretch_like sc_stretch_like fun cdv A outer s H E hr => ?_
  have hu := hu65 hr
  have hu2 := hu66 hr
  have nd := sc_stretch_like.nd
  have tk := tk_of (P := P) (w := HW.w) (K := K) (mg := mg) (base := base) (N := N_stretch_like) (qual := "stretch_like") (sc := defScope s_stretch_like) (f := T.a_stretch_like) (cdv := cdv) (A := A) (outer := outer) (s := s) (H := H) (E := E)
  exact (sds_cons (sd_asg (pd_call tk (ok__split T) (hr.mono (by decide)) T.m__split T.k__split T.b__split (pds_cons (pd_var 0) pds_nil)) (pgd_tp rfl (pgds_cons (pgd_nm nd) (pgds_cons (pgd_nm nd) pgds_nil))))
  (sds_cons (sd_asg (pd_call tk (ok__split T) (hr.mono (by decide)) T.m__split T.k__split T.b__split (pds_cons (pd_var 1) pds_nil)) (pgd_tp rfl (pgds_cons (pgd_nm nd) (pgds_cons (pgd_nm nd) pgds_nil))))
  (sds_cons (sd_if (pdb_ne hu (pd_var 2) (pd_var 4))
  (sds_one (sd_ret pd_bl))
  sds_nil)
  (sds_one (sd_ret (pd_eqA hu2 (pd_lc mkV_ok [("part", 6)] rfl nd (pid_seq (pd_var 3)) (blkOk_by (N := N_stretch_like) (sc := defScope s_stretch_like) (by decide +kernel)) (fun _ _ _ _ _ => (pgd_nm nd)) (fun _ _ _ _ _ => pdbs_nil) (fun _ _ _ _ _ => (pd_call takes0 (ok__counts T) (hr.mono (by decide)) T.m__counts T.k__counts T.b__counts (pds_cons (pd_var 6) pds_nil)))) (pd_lc mkV_ok [("part", 6)] rfl nd (pid_seq (pd_var 5)) (blkOk_by (N := N_stretch_like) (sc := defScope s_stretch_like) (by decide +kernel)) (fun _ _ _ _ _ => (pgd_nm nd)) (fun _ _ _ _ _ => pdbs_nil) (fun _ _ _ _ _ => (pd_call takes0 (ok__counts T) (hr.mono (by decide)) T.m__counts T.k__counts T.b__counts (pds_cons (pd_var 6) pds_nil))))))))))
theorem ok_run_like (T : Tx P K mg) : FnOk P HW.w K mg base (L2.CX P HW.w) 2 T.a_run_like T.d_run_like ["one", "two"] (spOf K 2 (runF .frz 2 10 B_run_like)) := by
  refine fn_body (N := N_run_like) (k := 1) .frz T.f_run_like sc_run_like fun cdv A outer s H E hr => ?_
  have hu := hu65 hr
  have hu2 := hu66 hr
  have nd := sc_run_like.nd
  have tk := tk_of (P := P) (w := HW.w) (K := K) (mg := mg) (base := base) (N := N_run_like) (qual := "run_like") (sc := defScope s_run_like) (f := T.a_run_like) (cdv := cdv) (A := A) (outer := outer) (s := s) (H := H) (E := E)
  exact (sds_cons (sd_asg (pd_call tk (ok__split T) (hr.mono (by decide)) T.m__split T.k__split T.b__split (pds_cons (pd_var 0) pds_nil)) (pgd_tp rfl (pgds_cons (pgd_nm nd) (pgds_cons (pgd_nm nd) pgds_nil))))
  (sds_cons (sd_asg (pd_call tk (ok__split T) (hr.mono (by decide)) T.m__split T.k__split T.b__split (pds_cons (pd_var 1) pds_nil)) (pgd_tp rfl (pgds_cons (pgd_nm nd) (pgds_cons (pgd_nm nd) pgds_nil))))
  (sds_cons (sd_if (pdb_ne hu (pd_var 2) (pd_var 4))
  (sds_one (sd_ret pd_bl))
  sds_nil)
  (sds_cons (sd_setLc2 mkV_ok [("part", 8), ("note", 9)] rfl nd (pid_seq (pd_var 3)) (blkOk_by (N := N_run_like) (sc := defScope s_run_like) (by decide +kernel)) (fun _ _ _ _ _ => (pgd_nm nd)) (fun _ _ _ _ _ => pdbs_nil) (fun _ _ _ _ _ => (pid_seq (pd_var 8))) (fun _ _ _ _ _ => (pgd_nm nd)) (fun _ _ _ _ _ => pdbs_nil) (fun _ _ _ _ _ => (pd_var 9)))
  (sds_cons (sd_setLc2 mkV_ok [("part", 8), ("note", 9)] rfl nd (pid_seq (pd_var 5)) (blkOk_by (N := N_run_like) (sc := defScope s_run_like) (by decide +kernel)) (fun _ _ _ _ _ => (pgd_nm nd)) (fun _ _ _ _ _ => pdbs_nil) (fun _ _ _ _ _ => (pid_seq (pd_var 8))) (fun _ _ _ _ _ => (pgd_nm nd)) (fun _ _ _ _ _ => pdbs_nil) (fun _ _ _ _ _ => (pd_var 9)))
  (sds_one (sd_ret (pd_eqA hu2 (pd_call tk (ok__counts T) (hr.mono (by decide)) T.m__counts T.k__counts T.b__counts (pds_cons (pd_var 6) pds_nil)) (pd_call tk (ok__counts T) (hr.mono (by decide)) T.m__counts T.k__counts T.b__counts (pds_cons (pd_var 7) pds_nil))))))))))
theorem ok_alike (T : Tx P K mg) : FnOk P HW.w K mg base (L2.CX P HW.w) 3 T.a_alike T.d_alike ["one", "two", "over"] (spOf K 3 (runF .frz 3 3 B_alike)) := by
  refine fn_body (N := N_alike) (k := 2) .frz T.f_alike sc_alike fun cdv A outer s H E hr => ?_
  have hu := hu65 hr
  have nd := sc_alike.nd
  have tk := tk_of (P := P) (w := HW.w) (K := K) (mg := mg) (base := base) (N := N_alike) (qual := "alike") (sc := defScope s_alike) (f := T.a_alike) (cdv := cdv) (A := A) (outer := outer) (s := s) (H := H) (E := E)
  exact (sds_cons (sd_if (pdb_eq hu (pd_var 2) pd_str)
  (sds_one (sd_ret (pd_call tk (ok_stretch_like T) (hr.mono (by decide)) T.m_stretch_like T.k_stretch_like T.b_stretch_like (pds_cons (pd_var 0) (pds_cons (pd_var 1) pds_nil)))))
  sds_nil)
  (sds_one (sd_ret (pd_call tk (ok_run_like T) (hr.mono (by decide)) T.m_run_like T.k_run_like T.b_run_like (pds_cons (pd_var 0) (pds_cons (pd_var 1) pds_nil))))))
theorem ok__law_answers (T : Tx P K mg) : FnOk P HW.w K mg base (L2.CX P HW.w) 4 T.a__law_answers T.d__law_answers ["left", "right", "due"] (spOf K 3 (runF .frz 3 7 B__law_answers)) := by
  refine fn_body (N := N__law_answers) (k := 3) .frz T.f__law_answers sc__law_answers fun cdv A outer s H E hr => ?_
  have hu := hu65 hr
  have nd := sc__law_answers.nd
  have tk := tk_of (P := P) (w := HW.w) (K := K) (mg := mg) (base := base) (N := N__law_answers) (qual := "_law_answers") (sc := defScope s__law_answers) (f := T.a__law_answers) (cdv := cdv) (A := A) (outer := outer) (s := s) (H := H) (E := E)
  exact (sds_cons (sd_set nd (pd_listOf mkV_n T.n_list (pds_cons (pd_var 0) pds_nil)))
  (sds_cons (sd_set nd (pd_listOf mkV_n T.n_list (pds_cons (pd_var 1) pds_nil)))
  (sds_cons (sd_set nd (pd_lst mkV_n (pds_cons (pd_call tk (ok_stretch_like T) (hr.mono (by decide)) T.m_stretch_like T.k_stretch_like T.b_stretch_like (pds_cons (pd_var 3) (pds_cons (pd_var 4) pds_nil))) (pds_cons (pd_call tk (ok_run_like T) (hr.mono (by decide)) T.m_run_like T.k_run_like T.b_run_like (pds_cons (pd_var 3) (pds_cons (pd_var 4) pds_nil))) pds_nil))))
  (sds_cons (sd_set nd (pd_add (pd_var 5) (pd_lst mkV_n (pds_cons (pd_call tk (ok_alike T) (hr.mono (by decide)) T.m_alike T.k_alike T.b_alike (pds_cons (pd_var 3) (pds_cons (pd_var 4) (pds_cons pd_str pds_nil)))) (pds_cons (pd_call tk (ok_alike T) (hr.mono (by decide)) T.m_alike T.k_alike T.b_alike (pds_cons (pd_var 3) (pds_cons (pd_var 4) (pds_cons pd_str pds_nil)))) pds_nil)))))
  (sds_cons (sd_for (passes_of rfl) rfl (pid_seq (pd_var 5)) (pgd_nm nd)
  (sds_one (sd_if (pdb_not (pdb_tru (pd_isi T.n_isinstance (pds_cons (pd_var 6) (pds_cons (pd_tyName T.n_bool) pds_nil)))))
  (sds_one (sd_ret pd_bl))
  sds_nil)))
  (sds_one (sd_ret (pd_andV (pd_eq hu (pd_var 5) (pd_add (pd_var 2) (pd_var 2))) (pd_andV (pd_eq hu (pd_var 3) (pd_var 0)) (pd_and1 (pd_eq hu (pd_var 4) (pd_var 1))))))))))))
theorem ok__law_fixed (T : Tx P K mg) : FnOk P HW.w K mg base (L2.CX P HW.w) 5 T.a__law_fixed T.d__law_fixed ["pool", "tail", "day"] (spOf K 3 (runF .frz 3 6 B__law_fixed)) := by
  refine fn_body (N := N__law_fixed) (k := 4) .frz T.f__law_fixed sc__law_fixed fun cdv A outer s H E hr => ?_
  have hu := hu65 hr
  have nd := sc__law_fixed.nd
  have tk := tk_of (P := P) (w := HW.w) (K := K) (mg := mg) (base := base) (N := N__law_fixed) (qual := "_law_fixed") (sc := defScope s__law_fixed) (f := T.a__law_fixed) (cdv := cdv) (A := A) (outer := outer) (s := s) (H := H) (E := E)
  exact (sds_cons (sd_set nd (pd_lst mkV_n (pds_cons (pd_tup (pds_cons pd_str (pds_cons (pd_ix ix_seq dr_ix (pd_var 0) pd_int) pds_nil))) pds_nil)))
  (sds_cons (sd_set nd (pd_lst mkV_n (pds_cons (pd_tup (pds_cons pd_str (pds_cons (pd_ix ix_seq dr_ix (pd_var 0) (pd_neg pd_int)) pds_nil))) pds_nil)))
  (sds_cons (sd_set nd (pd_lst mkV_n (pds_cons (pd_tup (pds_cons pd_str (pds_cons (pd_var 2) pds_nil))) pds_nil)))
  (sds_cons (sd_if (pdb_not (pdb_tru (pd_call tk (ok__law_answers T) (hr.mono (by decide)) T.m__law_answers T.k__law_answers T.b__law_answers (pds_cons (pd_var 1) (pds_cons (pd_var 1) (pds_cons (pd_lst mkV_n (pds_cons pd_bl (pds_cons pd_bl pds_nil))) pds_nil))))))
  (sds_one (sd_ret pd_bl))
  sds_nil)
  (sds_cons (sd_if (pdb_not (pdb_tru (pd_call tk (ok__law_answers T) (hr.mono (by decide)) T.m__law_answers T.k__law_answers T.b__law_answers (pds_cons (pd_add (pd_add (pd_var 3) (pd_var 4)) (pd_var 1)) (pds_cons (pd_add (pd_add (pd_var 4) (pd_var 3)) (pd_var 1)) (pds_cons (pd_lst mkV_n (pds_cons pd_bl (pds_cons pd_bl pds_nil))) pds_nil))))))
  (sds_one (sd_ret pd_bl))
  sds_nil)
  (sds_cons (sd_if (pdb_not (pdb_tru (pd_call tk (ok__law_answers T) (hr.mono (by decide)) T.m__law_answers T.k__law_answers T.b__law_answers (pds_cons (pd_add (pd_add (pd_var 3) (pd_var 5)) (pd_var 1)) (pds_cons (pd_add (pd_add (pd_var 5) (pd_var 3)) (pd_var 1)) (pds_cons (pd_lst mkV_n (pds_cons pd_bl (pds_cons pd_bl pds_nil))) pds_nil))))))
  (sds_one (sd_ret pd_bl))
  sds_nil)
  (sds_cons (sd_if (pdb_not (pdb_tru (pd_call tk (ok__law_answers T) (hr.mono (by decide)) T.m__law_answers T.k__law_answers T.b__law_answers (pds_cons (pd_add (pd_add (pd_var 3) (pd_var 5)) (pd_var 1)) (pds_cons (pd_add (pd_var 5) (pd_var 1)) (pds_cons (pd_lst mkV_n (pds_cons pd_bl (pds_cons pd_bl pds_nil))) pds_nil))))))
  (sds_one (sd_ret pd_bl))
  sds_nil)
  (sds_cons (sd_if (pdb_not (pdb_tru (pd_call tk (ok__law_answers T) (hr.mono (by decide)) T.m__law_answers T.k__law_answers T.b__law_answers (pds_cons (pd_add (pd_var 5) (pd_var 1)) (pds_cons (pd_var 1) (pds_cons (pd_lst mkV_n (pds_cons pd_bl (pds_cons pd_bl pds_nil))) pds_nil))))))
  (sds_one (sd_ret pd_bl))
  sds_nil)
  (sds_one (sd_ret (pd_call tk (ok__law_answers T) (hr.mono (by decide)) T.m__law_answers T.k__law_answers T.b__law_answers (pds_cons (pd_add (pd_var 1) (pd_var 3)) (pds_cons (pd_var 1) (pds_cons (pd_lst mkV_n (pds_cons pd_bl (pds_cons pd_bl pds_nil))) pds_nil))))))))))))))
theorem ok__law_day (T : Tx P K mg) : FnOk P HW.w K mg base (L2.CX P HW.w) 2 T.a__law_day T.d__law_day ["pot"] (spOf K 1 (runF .frz 1 1 B__law_day)) := by
  refine fn_body (N := N__law_day) (k := 1) .frz T.f__law_day sc__law_day fun cdv A outer s H E hr => ?_
  have hu := hu65 hr
  have nd := sc__law_day.nd
  have tk := tk_of (P := P) (w := HW.w) (K := K) (mg := mg) (base := base) (N := N__law_day) (qual := "_law_day") (sc := defScope s__law_day) (f := T.a__law_day) (cdv := cdv) (A := A) (outer := outer) (s := s) (H := H) (E := E)
  exact (sds_cons (sd_if (pdb_eq hu (pd_call tk (ok__law_draw T) (hr.mono (by decide)) T.m__law_draw T.k__law_draw T.b__law_draw (pds_cons (pd_var 0) (pds_cons pd_int pds_nil))) pd_int)
  (sds_one (sd_ret (pd_call tk (ok__law_draw T) (hr.mono (by decide)) T.m__law_draw T.k__law_draw T.b__law_draw (pds_cons (pd_var 0) (pds_cons pd_int pds_nil)))))
  sds_nil)
  (sds_one (sd_ret (pd_call tk (ok__law_draw T) (hr.mono (by decide)) T.m__law_draw T.k__law_draw T.b__law_draw (pds_cons (pd_var 0) (pds_cons pd_int pds_nil))))))
theorem ok__law_entry (T : Tx P K mg) : FnOk P HW.w K mg base (L2.CX P HW.w) 3 T.a__law_entry T.d__law_entry ["pot", "pool"] (spOf K 2 (runF .frz 2 2 B__law_entry)) := by
  refine fn_body (N := N__law_entry) (k := 2) .frz T.f__law_entry sc__law_entry fun cdv A outer s H E hr => ?_
  have hu := hu65 hr
  have nd := sc__law_entry.nd
  have tk := tk_of (P := P) (w := HW.w) (K := K) (mg := mg) (base := base) (N := N__law_entry) (qual := "_law_entry") (sc := defScope s__law_entry) (f := T.a__law_entry) (cdv := cdv) (A := A) (outer := outer) (s := s) (H := H) (E := E)
  exact (sds_cons (sd_if (pdb_eq hu (pd_call tk (ok__law_draw T) (hr.mono (by decide)) T.m__law_draw T.k__law_draw T.b__law_draw (pds_cons (pd_var 0) (pds_cons pd_int pds_nil))) pd_int)
  (sds_one (sd_ret (pd_tup (pds_cons pd_str (pds_cons (pd_call tk (ok__law_day T) (hr.mono (by decide)) T.m__law_day T.k__law_day T.b__law_day (pds_cons (pd_var 0) pds_nil)) pds_nil)))))
  sds_nil)
  (sds_one (sd_ret (pd_tup (pds_cons pd_str (pds_cons (pd_ix ix_seq dr_ix (pd_var 1) (pd_call tk (ok__law_draw T) (hr.mono (by decide)) T.m__law_draw T.k__law_draw T.b__law_draw (pds_cons (pd_var 0) (pds_cons (pd_len T.n_len (pds_cons (pd_var 1) pds_nil)) pds_nil)))) pds_nil))))))
theorem ok__law_journal (T : Tx P K mg) : FnOk P HW.w K mg base (L2.CX P HW.w) 4 T.a__law_journal T.d__law_journal ["pot", "pool"] (spOf K 2 (runF .frz 2 3 B__law_journal)) := by
  refine fn_body (N := N__law_journal) (k := 3) .frz T.f__law_journal sc__law_journal fun cdv A outer s H E hr => ?_
  have hu := hu65 hr
  have nd := sc__law_journal.nd
  have tk := tk_of (P := P) (w := HW.w) (K := K) (mg := mg) (base := base) (N := N__law_journal) (qual := "_law_journal") (sc := defScope s__law_journal) (f := T.a__law_journal) (cdv := cdv) (A := A) (outer := outer) (s := s) (H := H) (E := E)
  exact (sds_one (sd_ret (pd_lc mkV_ok [("k", 2)] rfl nd (pid_range1 T.n_range (pds_cons (pd_call tk (ok__law_draw T) (hr.mono (by decide)) T.m__law_draw T.k__law_draw T.b__law_draw (pds_cons (pd_var 0) (pds_cons pd_int pds_nil))) pds_nil)) (blkOk_by (N := N__law_journal) (sc := defScope s__law_journal) (by decide +kernel)) (fun _ _ _ _ _ => (pgd_nm nd)) (fun _ _ _ _ _ => pdbs_nil) (fun _ _ _ _ _ => (pd_call takes0 (ok__law_entry T) (hr.mono (by decide)) T.m__law_entry T.k__law_entry T.b__law_entry (pds_cons (pd_var 0) (pds_cons (pd_var 1) pds_nil)))))))
theorem ok__law_flipped (T : Tx P K mg) : FnOk P HW.w K mg base (L2.CX P HW.w) 1 T.a__law_flipped T.d__law_flipped ["journal", "place"] (spOf K 2 (runF .frz 2 4 B__law_flipped)) := by
  refine fn_body (N := N__law_flipped) (k := 0) .frz T.f__law_flipped sc__law_flipped fun cdv A outer s H E hr => ?_
  have hu := hu65 hr
  have nd := sc__law_flipped.nd
  have tk := tk_of (P := P) (w := HW.w) (K := K) (mg := mg) (base := base) (N := N__law_flipped) (qual := "_law_flipped") (sc := defScope s__law_flipped) (f := T.a__law_flipped) (cdv := cdv) (A := A) (outer := outer) (s := s) (H := H) (E := E)
  exact (sds_cons (sd_set nd (pd_var 1))
  (sds_cons (sd_while (fun _ _ => 300000) (passes_of rfl) (pdb_w (pdw_and (pdb_gt (pd_var 2) pd_int) (pdw_and1 (pdb_eq hu (pd_ix ix_seq dr_ix (pd_ix ix_seq dr_ix (pd_var 0) (pd_sub (pd_var 2) pd_int)) pd_int) pd_str))))
  (sds_one (sd_set nd (pd_sub (pd_var 2) pd_int))))
  (sds_cons (sd_set nd (pd_var 1))
  (sds_cons (sd_while (fun _ _ => 300000) (passes_of rfl) (pdb_w (pdw_and (pdb_lt (pd_var 3) (pd_len T.n_len (pds_cons (pd_var 0) pds_nil))) (pdw_and1 (pdb_eq hu (pd_ix ix_seq dr_ix (pd_ix ix_seq dr_ix (pd_var 0) (pd_var 3)) pd_int) pd_str))))
  (sds_one (sd_set nd (pd_add (pd_var 3) pd_int))))
  (sds_one (sd_ret (pd_add (pd_add (pd_slice (pd_var 0) pdo_no (pdo_some (pd_var 2))) (pd_slRev mkV_n (pd_slice (pd_var 0) (pdo_some (pd_var 2)) (pdo_some (pd_var 3))))) (pd_slice (pd_var 0) (pdo_some (pd_var 3)) pdo_no))))))))
theorem ok__law_turned (T : Tx P K mg) : FnOk P HW.w K mg base (L2.CX P HW.w) 4 T.a__law_turned T.d__law_turned ["pot", "pool", "journal", "kinds"] (spOf K 4 (runF .frz 4 9 B__law_turned)) := by
  refine fn_body (N := N__law_turned) (k := 3) .frz T.f__law_turned sc__law_turned fun cdv A outer s H E hr => ?_
  have hu := hu65 hr
  have nd := sc__law_turned.nd
  have tk := tk_of (P := P) (w := HW.w) (K := K) (mg := mg) (base := base) (N := N__law_turned) (qual := "_law_turned") (sc := defScope s__law_turned) (f := T.a__law_turned) (cdv := cdv) (A := A) (outer := outer) (s := s) (H := H) (E := E)
  exact (sds_cons (sd_set nd (pd_len T.n_len (pds_cons (pd_var 2) pds_nil)))
  (sds_cons (sd_set nd (pd_ix ix_seq dr_ix (pd_var 3) (pd_call tk (ok__law_draw T) (hr.mono (by decide)) T.m__law_draw T.k__law_draw T.b__law_draw (pds_cons (pd_var 0) (pds_cons (pd_len T.n_len (pds_cons (pd_var 3) pds_nil)) pds_nil)))))
  (sds_cons (sd_if (pdb_eq hu (pd_var 4) pd_int)
  (sds_one (sd_ret (pd_ifExp (pdb_eq hu (pd_var 5) pd_int) (pd_lst mkV_n (pds_cons (pd_call tk (ok__law_entry T) (hr.mono (by decide)) T.m__law_entry T.k__law_entry T.b__law_entry (pds_cons (pd_var 0) (pds_cons (pd_var 1) pds_nil))) pds_nil)) (pd_lst mkV_n pds_nil))))
  sds_nil)
  (sds_cons (sd_set nd (pd_call tk (ok__law_draw T) (hr.mono (by decide)) T.m__law_draw T.k__law_draw T.b__law_draw (pds_cons (pd_var 0) (pds_cons (pd_var 4) pds_nil))))
  (sds_cons (sd_set nd (pd_call tk (ok__law_draw T) (hr.mono (by decide)) T.m__law_draw T.k__law_draw T.b__law_draw (pds_cons (pd_var 0) (pds_cons (pd_var 4) pds_nil))))
  (sds_cons (sd_if (pdb_eq hu (pd_var 5) pd_int)
  (sds_one (sd_set nd (pd_min2 rfl T.n_min (pds_cons (pd_add (pd_var 6) pd_int) (pds_cons (pd_sub (pd_var 4) pd_int) pds_nil)))))
  sds_nil)
  (sds_cons (sd_set nd (pd_addH (pd_slice (pd_var 2) pdo_no (pdo_some (pd_var 6))) (pd_slice (pd_var 2) (pdo_some (pd_add (pd_var 6) pd_int)) pdo_no)))
  (sds_cons (sd_if (pdb_lt (pd_var 5) pd_int)
  (sds_cons (sd_set nd (pd_listOf mkH_n T.n_list (pds_cons (pd_var 2) pds_nil)))
  (sds_cons (sd_store (pd_var 8) (pd_var 6) (pd_ix ix_seq dr_ix (pd_var 2) (pd_var 7)))
  (sds_cons (sd_store (pd_var 8) (pd_var 7) (pd_ix ix_seq dr_ix (pd_var 2) (pd_var 6)))
  (sds_one (sd_ret (pd_var 8))))))
  sds_nil)
  (sds_cons (sd_if (pdb_eq hu (pd_var 5) pd_int)
  (sds_one (sd_ret (pd_var 8)))
  sds_nil)
  (sds_cons (sd_if (pdb_eq hu (pd_var 5) pd_int)
  (sds_one (sd_ret (pd_add (pd_add (pd_slice (pd_var 2) pdo_no (pdo_some (pd_var 7))) (pd_lst mkV_n (pds_cons (pd_ix ix_seq dr_ix (pd_var 2) (pd_var 6)) pds_nil))) (pd_slice (pd_var 2) (pdo_some (pd_var 7)) pdo_no))))
  sds_nil)
  (sds_cons (sd_if (pdb_eq hu (pd_var 5) pd_int)
  (sds_one (sd_ret (pd_add (pd_add (pd_slice (pd_var 8) pdo_no (pdo_some (pd_var 7))) (pd_lst mkV_n (pds_cons (pd_ix ix_seq dr_ix (pd_var 2) (pd_var 6)) pds_nil))) (pd_slice (pd_var 8) (pdo_some (pd_var 7)) pdo_no))))
  sds_nil)
  (sds_cons (sd_if (pdb_eq hu (pd_var 5) pd_int)
  (sds_one (sd_ret (pd_add (pd_add (pd_slice (pd_var 2) pdo_no (pdo_some (pd_var 6))) (pd_lst mkV_n (pds_cons (pd_call tk (ok__law_entry T) (hr.mono (by decide)) T.m__law_entry T.k__law_entry T.b__law_entry (pds_cons (pd_var 0) (pds_cons (pd_var 1) pds_nil))) pds_nil))) (pd_slice (pd_var 2) (pdo_some (pd_add (pd_var 6) pd_int)) pdo_no))))
  sds_nil)
  (sds_cons (sd_if (pdb_eq hu (pd_var 5) pd_int)
  (sds_one (sd_ret (pd_call tk (ok__law_flipped T) (hr.mono (by decide)) T.m__law_flipped T.k__law_flipped T.b__law_flipped (pds_cons (pd_var 2) (pds_cons (pd_var 6) pds_nil)))))
  sds_nil)
  (sds_one (sd_ret (pd_slRev mkV_n (pd_var 2)))))))))))))))))
theorem ok__law_parts (T : Tx P K mg) : FnOk P HW.w K mg base (L2.CX P HW.w) 1 T.a__law_parts T.d__law_parts ["journal"] (spOf K 1 (runF .dfr 1 5 B__law_parts)) := by
  refine fn_body (N := N__law_parts) (k := 0) .dfr T.f__law_parts sc__law_parts fun cdv A outer s H E hr => ?_
  have hu := hu65 hr
  have nd := sc__law_parts.nd
  have tk := tk_of (P := P) (w := HW.w) (K := K) (mg := mg) (base := base) (N := N__law_parts) (qual := "_law_parts") (sc := defScope s__law_parts) (f := T.a__law_parts) (cdv := cdv) (A := A) (outer := outer) (s := s) (H := H) (E := E)
  exact (sds_cons (sd_set nd (pd_lst mkH_n pds_nil))
  (sds_cons (sd_set nd (pd_lst mkH_n (pds_cons (pd_lst mkH_n pds_nil) pds_nil)))
  (sds_cons (sd_for (passes_of rfl) rfl (pid_seq (pd_var 0)) (pgd_tp rfl (pgds_cons (pgd_nm nd) (pgds_cons (pgd_nm nd) pgds_nil)))
  (sds_one (sd_if (pdb_eq hu (pd_var 3) pd_str)
  (sds_cons (sd_expr (pd_append (pd_var 1) (pds_cons (pd_var 4) pds_nil)))
  (sds_one (sd_expr (pd_append (pd_var 2) (pds_cons (pd_lst mkH_n pds_nil) pds_nil)))))
  (sds_one (sd_expr (pd_append (pd_ix ix_seq dr_ix (pd_var 2) (pd_neg pd_int)) (pds_cons (pd_var 4) pds_nil)))))))
  (sds_one (sd_ret (pd_lst mkV_n (pds_cons (pd_var 1) (pds_cons (pd_var 2) pds_nil))))))))
theorem ok__law_counted (T : Tx P K mg) : FnOk P HW.w K mg base (L2.CX P HW.w) 1 T.a__law_counted T.d__law_counted ["notes"] (spOf K 1 (runF .frz 1 3 B__law_counted)) := by
  refine fn_body (N := N__law_counted) (k := 0) .frz T.f__law_counted sc__law_counted fun cdv A outer s H E hr => ?_
  have hu := hu65 hr
  have nd := sc__law_counted.nd
  have tk := tk_of (P := P) (w := HW.w) (K := K) (mg := mg) (base := base) (N := N__law_counted) (qual := "_law_counted") (sc := defScope s__law_counted) (f := T.a__law_counted) (cdv := cdv) (A := A) (outer := outer) (s := s) (H := H) (E := E)
  exact (sds_cons (sd_set nd pd_nnew)
  (sds_cons (sd_for (passes_of rfl) rfl (pid_seq (pd_var 0)) (pgd_nm nd)
  (sds_one (sd_nput hu (pd_var 1) (pd_var 2) (pd_add (pd_nget2 hu (pd_var 1) (pd_var 2) pd_int) pd_int))))
  (sds_one (sd_ret (pd_var 1)))))
theorem ok__law_due (T : Tx P K mg) : FnOk P HW.w K mg base (L2.CX P HW.w) 2 T.a__law_due T.d__law_due ["left", "right"] (spOf K 2 (runF .frz 2 9 B__law_due)) := by
  refine fn_body (N := N__law_due) (k := 1) .frz T.f__law_due sc__law_due fun cdv A outer s H E hr => ?_
  have hu := hu65 hr
  have hu2 := hu66 hr
  have nd := sc__law_due.nd
  have tk := tk_of (P := P) (w := HW.w) (K := K) (mg := mg) (base := base) (N := N__law_due) (qual := "_law_due") (sc := defScope s__law_due) (f := T.a__law_due) (cdv := cdv) (A := A) (outer := outer) (s := s) (H := H) (E := E)
  exact (sds_cons (sd_set nd (pd_call tk (ok__law_parts T) (hr.mono (by decide)) T.m__law_parts T.k__law_parts T.b__law_parts (pds_cons (pd_var 0) pds_nil)))
  (sds_cons (sd_set nd (pd_call tk (ok__law_parts T) (hr.mono (by decide)) T.m__law_parts T.k__law_parts T.b__law_parts (pds_cons (pd_var 1) pds_nil)))
  (sds_cons (sd_if (pdb_neA hu2 (pd_ix ix_seq dr_ix (pd_var 2) pd_int) (pd_ix ix_seq dr_ix (pd_var 3) pd_int))
  (sds_one (sd_ret (pd_lst mkV_n (pds_cons pd_bl (pds_cons pd_bl pds_nil)))))
  sds_nil)
  (sds_cons (sd_set nd pd_bl)
  (sds_cons (sd_for (passes_of rfl) rfl (pid_range1 T.n_range (pds_cons (pd_len T.n_len (pds_cons (pd_ix ix_seq dr_ix (pd_var 2) pd_int) pds_nil)) pds_nil)) (pgd_nm nd)
  (sds_one (sd_if (pdb_neA hu2 (pd_call tk (ok__law_counted T) (hr.mono (by decide)) T.m__law_counted T.k__law_counted T.b__law_counted (pds_cons (pd_ix ix_seq dr_ix (pd_ix ix_seq dr_ix (pd_var 2) pd_int) (pd_var 5)) pds_nil)) (pd_call tk (ok__law_counted T) (hr.mono (by decide)) T.m__law_counted T.k__law_counted T.b__law_counted (pds_cons (pd_ix ix_seq dr_ix (pd_ix ix_seq dr_ix (pd_var 3) pd_int) (pd_var 5)) pds_nil)))
  (sds_one (sd_set nd pd_bl))
  sds_nil)))
  (sds_cons (sd_setLc mkV_ok [("entry", 8)] rfl nd (pid_seq (pd_var 0)) (blkOk_by (N := N__law_due) (sc := defScope s__law_due) (by decide +kernel)) (fun _ _ _ _ _ => (pgd_nm nd)) (fun _ _ _ _ _ => (pdbs_one (pdb_eq hu (pd_ix ix_seq dr_ix (pd_var 8) pd_int) pd_str))) (fun _ _ _ _ _ => (pd_ix ix_seq dr_ix (pd_var 8) pd_int)))
  (sds_cons (sd_setLc mkV_ok [("entry", 8)] rfl nd (pid_seq (pd_var 1)) (blkOk_by (N := N__law_due) (sc := defScope s__law_due) (by decide +kernel)) (fun _ _ _ _ _ => (pgd_nm nd)) (fun _ _ _ _ _ => (pdbs_one (pdb_eq hu (pd_ix ix_seq dr_ix (pd_var 8) pd_int) pd_str))) (fun _ _ _ _ _ => (pd_ix ix_seq dr_ix (pd_var 8) pd_int)))
  (sds_one (sd_ret (pd_lst mkV_n (pds_cons (pd_var 4) (pds_cons (pd_eqA hu2 (pd_call tk (ok__law_counted T) (hr.mono (by decide)) T.m__law_counted T.k__law_counted T.b__law_counted (pds_cons (pd_var 6) pds_nil)) (pd_call tk (ok__law_counted T) (hr.mono (by decide)) T.m__law_counted T.k__law_counted T.b__law_counted (pds_cons (pd_var 7) pds_nil))) pds_nil))))))))))))
theorem ok_law (T : Tx P K mg) : FnOk P HW.w K mg base (L2.CX P HW.w) 6 T.a_law T.d_law ["script"] (spOf K 1 (runF .frz 1 11 B_law)) := by
  refine fn_body (N := N_law) (k := 5) .frz T.f_law sc_law fun cdv A outer s H E hr => ?_
  have hu := hu65 hr
  have nd := sc_law.nd
  have tk := tk_of (P := P) (w := HW.w) (K := K) (mg := mg) (base := base) (N := N_law) (qual := "law") (sc := defScope s_law) (f := T.a_law) (cdv := cdv) (A := A) (outer := outer) (s := s) (H := H) (E := E)
  exact (sds_cons (sd_set nd (pd_call tk (ok__law_pool T) (hr.mono (by decide)) T.m__law_pool T.k__law_pool T.b__law_pool (pds_cons (pd_var 0) pds_nil)))
  (sds_cons (sd_set nd (pd_call tk (ok__law_pot T) (hr.mono (by decide)) T.m__law_pot T.k__law_pot T.b__law_pot (pds_cons (pd_var 0) (pds_cons pd_int pds_nil))))
  (sds_cons (sd_set nd (pd_call tk (ok__law_repeated T) (hr.mono (by decide)) T.m__law_repeated T.k__law_repeated T.b__law_repeated (pds_cons (pd_var 2) (pds_cons (pd_call tk (ok__law_journal T) (hr.mono (by decide)) T.m__law_journal T.k__law_journal T.b__law_journal (pds_cons (pd_call tk (ok__law_pot T) (hr.mono (by decide)) T.m__law_pot T.k__law_pot T.b__law_pot (pds_cons (pd_var 0) (pds_cons pd_int pds_nil))) (pds_cons (pd_var 1) pds_nil))) pds_nil))))
  (sds_cons (sd_if (pdb_eq hu (pd_call tk (ok__law_draw T) (hr.mono (by decide)) T.m__law_draw T.k__law_draw T.b__law_draw (pds_cons (pd_var 2) (pds_cons pd_int pds_nil))) pd_int)
  (sds_one (sd_set nd (pd_call tk (ok__law_journal T) (hr.mono (by decide)) T.m__law_journal T.k__law_journal T.b__law_journal (pds_cons (pd_var 2) (pds_cons (pd_var 1) pds_nil)))))
  (sds_cons (sd_set nd (pd_listOf mkV_n T.n_list (pds_cons (pd_var 3) pds_nil)))
  (sds_cons (sd_set nd (pd_ix ix_seq dr_ix (pd_lst mkV_n (pds_cons (pd_lst mkV_n (pds_cons pd_int pds_nil)) (pds_cons (pd_lst mkV_n (pds_cons pd_int (pds_cons pd_int pds_nil))) (pds_cons (pd_lst mkV_n (pds_cons pd_int (pds_cons pd_int (pds_cons pd_int (pds_cons pd_int pds_nil))))) (pds_cons (pd_lst mkV_n (pds_cons pd_int (pds_cons pd_int (pds_cons pd_int (pds_cons pd_int (pds_cons pd_int (pds_cons pd_int (pds_cons pd_int (pds_cons pd_int pds_nil))))))))) pds_nil))))) (pd_call tk (ok__law_draw T) (hr.mono (by decide)) T.m__law_draw T.k__law_draw T.b__law_draw (pds_cons (pd_var 2) (pds_cons pd_int pds_nil)))))
  (sds_one (sd_for (passes_of rfl) rfl (pid_range1 T.n_range (pds_cons (pd_add pd_int (pd_call tk (ok__law_draw T) (hr.mono (by decide)) T.m__law_draw T.k__law_draw T.b__law_draw (pds_cons (pd_var 2) (pds_cons pd_int pds_nil)))) pds_nil)) (pgd_nm nd)
  (sds_one (sd_set nd (pd_call tk (ok__law_turned T) (hr.mono (by decide)) T.m__law_turned T.k__law_turned T.b__law_turned (pds_cons (pd_var 2) (pds_cons (pd_var 1) (pds_cons (pd_var 4) (pds_cons (pd_var 5) pds_nil))))))))))))
  (sds_cons (sd_set nd (pd_slice (pd_var 3) pdo_no (pdo_some pd_int)))
  (sds_cons (sd_set nd (pd_lst mkV_n (pds_cons (pd_tup (pds_cons (pd_var 3) (pds_cons (pd_var 4) pds_nil))) (pds_cons (pd_tup (pds_cons (pd_var 4) (pds_cons (pd_var 3) pds_nil))) (pds_cons (pd_tup (pds_cons (pd_var 7) (pds_cons (pd_add (pd_slice (pd_var 7) (pdo_some pd_int) pdo_no) (pd_slice (pd_var 7) pdo_no (pdo_some pd_int))) pds_nil))) (pds_cons (pd_tup (pds_cons (pd_var 7) (pds_cons (pd_lst mkV_n pds_nil) pds_nil))) (pds_cons (pd_tup (pds_cons (pd_lst mkV_n pds_nil) (pds_cons (pd_slice (pd_var 4) pdo_no (pdo_some pd_int)) pds_nil))) pds_nil)))))))
  (sds_cons (sd_for (passes_of rfl) rfl (pid_seq (pd_var 8)) (pgd_tp rfl (pgds_cons (pgd_nm nd) (pgds_cons (pgd_nm nd) pgds_nil)))
  (sds_one (sd_if (pdb_not (pdb_tru (pd_call tk (ok__law_answers T) (hr.mono (by decide)) T.m__law_answers T.k__law_answers T.b__law_answers (pds_cons (pd_var 9) (pds_cons (pd_var 10) (pds_cons (pd_call tk (ok__law_due T) (hr.mono (by decide)) T.m__law_due T.k__law_due T.b__law_due (pds_cons (pd_var 9) (pds_cons (pd_var 10) pds_nil))) pds_nil))))))
  (sds_one (sd_ret pd_bl))
  sds_nil)))
  (sds_one (sd_ret (pd_call tk (ok__law_fixed T) (hr.mono (by decide)) T.m__law_fixed T.k__law_fixed T.b__law_fixed (pds_cons (pd_var 1) (pds_cons (pd_var 7) (pds_cons (pd_call tk (ok__law_day T) (hr.mono (by decide)) T.m__law_day T.k__law_day T.b__law_day (pds_cons (pd_var 2) pds_nil)) pds_nil)))))))))))))
end
end Law
set_option Elab.async false
set_option maxRecDepth 100000
set_option maxHeartbeats 4000000
namespace Law
open PySem PySem.Spec PyProof.Rows L2 DL
theorem all_mk {l : PySem.W.OpenLaw} {w : World} {K : PySem.W.Frag} {h : Heap} {mg : Str → Option Value} {fa f0 f1 f2 f3 f4 f5 f6 f7 f8 f9 f10 f11 f12 f13 f14 f15 f16 f17 f18 f19 f20 f21 f22 f23 f24 f25 f26 f27 f28 f29 f30 : Addr} (X : K.In h) (G : h.Ns mainGlobals mg) (hfa : mg "law" = some (.ref fa))
    {od0 an0 od1 an1 od2 an2 od3 an3 od4 an4 od5 an5 od6 an6 od7 an7 od8 an8 od9 an9 od10 an10 od11 an11 od12 an12 od13 an13 od14 an14 od15 an15 od16 an16 od17 an17 od18 an18 od19 an19 od20 an20 od21 an21 od22 an22 od23 an23 od24 an24 od25 an25 od26 an26 od27 an27 od28 an28 od29 an29 od30 an30 : Option Addr} {sl0 sl1 sl2 sl3 sl4 sl5 sl6 sl7 sl8 sl9 sl10 sl11 sl12 sl13 sl14 sl15 sl16 sl17 sl18 sl19 sl20 sl21 sl22 sl23 sl24 sl25 sl26 sl27 sl28 sl29 sl30 : Array (Option Value)} {oc0 kV0 dc0 pm0 ct0 cd0 oc1 kV1 dc1 pm1 ct1 cd1 oc2 kV2 dc2 pm2 ct2 cd2 oc3 kV3 dc3 pm3 ct3 cd3 oc4 kV4 dc4 pm4 ct4 cd4 oc5 kV5 dc5 pm5 ct5 cd5 oc6 kV6 dc6 pm6 ct6 cd6 oc7 kV7 dc7 pm7 ct7 cd7 oc8 kV8 dc8 pm8 ct8 cd8 oc9 kV9 dc9 pm9 ct9 cd9 oc10 kV10 dc10 pm10 ct10 cd10 oc11 kV11 dc11 pm11 ct11 cd11 oc12 kV12 dc12 pm12 ct12 cd12 oc13 kV13 dc13 pm13 ct13 cd13 oc14 kV14 dc14 pm14 ct14 cd14 oc15 kV15 dc15 pm15 ct15 cd15 oc16 kV16 dc16 pm16 ct16 cd16 oc17 kV17 dc17 pm17 ct17 cd17 oc18 kV18 dc18 pm18 ct18 cd18 oc19 kV19 dc19 pm19 ct19 cd19 oc20 kV20 dc20 pm20 ct20 cd20 oc21 kV21 dc21 pm21 ct21 cd21 oc22 kV22 dc22 pm22 ct22 cd22 oc23 kV23 dc23 pm23 ct23 cd23 oc24 kV24 dc24 pm24 ct24 cd24 oc25 kV25 dc25 pm25 ct25 cd25 oc26 kV26 dc26 pm26 ct26 cd26 oc27 kV27 dc27 pm27 ct27 cd27 oc28 kV28 dc28 pm28 ct28 cd28 oc29 kV29 dc29 pm29 ct29 cd29 oc30 kV30 dc30 pm30 ct30 cd30 : Value}
    (a0 : PySem.W.nsIn K mainGlobals "_law_draw" = some (some (.ref f0))) (l0 : K.lookup f0 = some ⟨oc0, od0, .func (PySem.W.fnOf "_law_draw" "_law_draw" (defArgs s__law_draw) (defBody s__law_draw) (defScope s__law_draw) .none kV0 dc0 pm0 an0 cd0 ct0), sl0⟩) (c0 : PySem.W.codeIn K cd0 "_law_draw" = true) (k0 : PySem.W.keepIn K (.ref f0) = true)
    (a1 : PySem.W.nsIn K mainGlobals "_law_word" = some (some (.ref f1))) (l1 : K.lookup f1 = some ⟨oc1, od1, .func (PySem.W.fnOf "_law_word" "_law_word" (defArgs s__law_word) (defBody s__law_word) (defScope s__law_word) .none kV1 dc1 pm1 an1 cd1 ct1), sl1⟩) (c1 : PySem.W.codeIn K cd1 "_law_word" = true) (k1 : PySem.W.keepIn K (.ref f1) = true)
    (a2 : PySem.W.nsIn K mainGlobals "_law_bumped" = some (some (.ref f2))) (l2 : K.lookup f2 = some ⟨oc2, od2, .func (PySem.W.fnOf "_law_bumped" "_law_bumped" (defArgs s__law_bumped) (defBody s__law_bumped) (defScope s__law_bumped) .none kV2 dc2 pm2 an2 cd2 ct2), sl2⟩) (c2 : PySem.W.codeIn K cd2 "_law_bumped" = true) (k2 : PySem.W.keepIn K (.ref f2) = true)
    (a3 : PySem.W.nsIn K mainGlobals "_law_names" = some (some (.ref f3))) (l3 : K.lookup f3 = some ⟨oc3, od3, .func (PySem.W.fnOf "_law_names" "_law_names" (defArgs s__law_names) (defBody s__law_names) (defScope s__law_names) .none kV3 dc3 pm3 an3 cd3 ct3), sl3⟩) (c3 : PySem.W.codeIn K cd3 "_law_names" = true) (k3 : PySem.W.keepIn K (.ref f3) = true)
    (a4 : PySem.W.nsIn K mainGlobals "_law_pot" = some (some (.ref f4))) (l4 : K.lookup f4 = some ⟨oc4, od4, .func (PySem.W.fnOf "_law_pot" "_law_pot" (defArgs s__law_pot) (defBody s__law_pot) (defScope s__law_pot) .none kV4 dc4 pm4 an4 cd4 ct4), sl4⟩) (c4 : PySem.W.codeIn K cd4 "_law_pot" = true) (k4 : PySem.W.keepIn K (.ref f4) = true)
    (a5 : PySem.W.nsIn K mainGlobals "_law_ident" = some (some (.ref f5))) (l5 : K.lookup f5 = some ⟨oc5, od5, .func (PySem.W.fnOf "_law_ident" "_law_ident" (defArgs s__law_ident) (defBody s__law_ident) (defScope s__law_ident) .none kV5 dc5 pm5 an5 cd5 ct5), sl5⟩) (c5 : PySem.W.codeIn K cd5 "_law_ident" = true) (k5 : PySem.W.keepIn K (.ref f5) = true)
    (a6 : PySem.W.nsIn K mainGlobals "_law_version" = some (some (.ref f6))) (l6 : K.lookup f6 = some ⟨oc6, od6, .func (PySem.W.fnOf "_law_version" "_law_version" (defArgs s__law_version) (defBody s__law_version) (defScope s__law_version) .none kV6 dc6 pm6 an6 cd6 ct6), sl6⟩) (c6 : PySem.W.codeIn K cd6 "_law_version" = true) (k6 : PySem.W.keepIn K (.ref f6) = true)
    (a7 : PySem.W.nsIn K mainGlobals "_law_some" = some (some (.ref f7))) (l7 : K.lookup f7 = some ⟨oc7, od7, .func (PySem.W.fnOf "_law_some" "_law_some" (defArgs s__law_some) (defBody s__law_some) (defScope s__law_some) .none kV7 dc7 pm7 an7 cd7 ct7), sl7⟩) (c7 : PySem.W.codeIn K cd7 "_law_some" = true) (k7 : PySem.W.keepIn K (.ref f7) = true)
    (a8 : PySem.W.nsIn K mainGlobals "_law_cause" = some (some (.ref f8))) (l8 : K.lookup f8 = some ⟨oc8, od8, .func (PySem.W.fnOf "_law_cause" "_law_cause" (defArgs s__law_cause) (defBody s__law_cause) (defScope s__law_cause) .none kV8 dc8 pm8 an8 cd8 ct8), sl8⟩) (c8 : PySem.W.codeIn K cd8 "_law_cause" = true) (k8 : PySem.W.keepIn K (.ref f8) = true)
    (a9 : PySem.W.nsIn K mainGlobals "_law_stretch" = some (some (.ref f9))) (l9 : K.lookup f9 = some ⟨oc9, od9, .func (PySem.W.fnOf "_law_stretch" "_law_stretch" (defArgs s__law_stretch) (defBody s__law_stretch) (defScope s__law_stretch) .none kV9 dc9 pm9 an9 cd9 ct9), sl9⟩) (c9 : PySem.W.codeIn K cd9 "_law_stretch" = true) (k9 : PySem.W.keepIn K (.ref f9) = true)
    (a10 : PySem.W.nsIn K mainGlobals "_law_content" = some (some (.ref f10))) (l10 : K.lookup f10 = some ⟨oc10, od10, .func (PySem.W.fnOf "_law_content" "_law_content" (defArgs s__law_content) (defBody s__law_content) (defScope s__law_content) .none kV10 dc10 pm10 an10 cd10 ct10), sl10⟩) (c10 : PySem.W.codeIn K cd10 "_law_content" = true) (k10 : PySem.W.keepIn K (.ref f10) = true)
    (a11 : PySem.W.nsIn K mainGlobals "_law_note" = some (some (.ref f11))) (l11 : K.lookup f11 = some ⟨oc11, od11, .func (PySem.W.fnOf "_law_note" "_law_note" (defArgs s__law_note) (defBody s__law_note) (defScope s__law_note) .none kV11 dc11 pm11 an11 cd11 ct11), sl11⟩) (c11 : PySem.W.codeIn K cd11 "_law_note" = true) (k11 : PySem.W.keepIn K (.ref f11) = true)
    (a12 : PySem.W.nsIn K mainGlobals "_law_near" = some (some (.ref f12))) (l12 : K.lookup f12 = some ⟨oc12, od12, .func (PySem.W.fnOf "_law_near" "_law_near" (defArgs s__law_near) (defBody s__law_near) (defScope s__law_near) .none kV12 dc12 pm12 an12 cd12 ct12), sl12⟩) (c12 : PySem.W.codeIn K cd12 "_law_near" = true) (k12 : PySem.W.keepIn K (.ref f12) = true)
    (a13 : PySem.W.nsIn K mainGlobals "_law_pool" = some (some (.ref f13))) (l13 : K.lookup f13 = some ⟨oc13, od13, .func (PySem.W.fnOf "_law_pool" "_law_pool" (defArgs s__law_pool) (defBody s__law_pool) (defScope s__law_pool) .none kV13 dc13 pm13 an13 cd13 ct13), sl13⟩) (c13 : PySem.W.codeIn K cd13 "_law_pool" = true) (k13 : PySem.W.keepIn K (.ref f13) = true)
    (a14 : PySem.W.nsIn K mainGlobals "_law_repeated" = some (some (.ref f14))) (l14 : K.lookup f14 = some ⟨oc14, od14, .func (PySem.W.fnOf "_law_repeated" "_law_repeated" (defArgs s__law_repeated) (defBody s__law_repeated) (defScope s__law_repeated) .none kV14 dc14 pm14 an14 cd14 ct14), sl14⟩) (c14 : PySem.W.codeIn K cd14 "_law_repeated" = true) (k14 : PySem.W.keepIn K (.ref f14) = true)
    (a15 : PySem.W.nsIn K mainGlobals "_split" = some (some (.ref f15))) (l15 : K.lookup f15 = some ⟨oc15, od15, .func (PySem.W.fnOf "_split" "_split" (defArgs s__split) (defBody s__split) (defScope s__split) .none kV15 dc15 pm15 an15 cd15 ct15), sl15⟩) (c15 : PySem.W.codeIn K cd15 "_split" = true) (k15 : PySem.W.keepIn K (.ref f15) = true)
    (a16 : PySem.W.nsIn K mainGlobals "_counts" = some (some (.ref f16))) (l16 : K.lookup f16 = some ⟨oc16, od16, .func (PySem.W.fnOf "_counts" "_counts" (defArgs s__counts) (defBody s__counts) (defScope s__counts) .none kV16 dc16 pm16 an16 cd16 ct16), sl16⟩) (c16 : PySem.W.codeIn K cd16 "_counts" = true) (k16 : PySem.W.keepIn K (.ref f16) = true)
    (a17 : PySem.W.nsIn K mainGlobals "stretch_like" = some (some (.ref f17))) (l17 : K.lookup f17 = some ⟨oc17, od17, .func (PySem.W.fnOf "stretch_like" "stretch_like" (defArgs s_stretch_like) (defBody s_stretch_like) (defScope s_stretch_like) .none kV17 dc17 pm17 an17 cd17 ct17), sl17⟩) (c17 : PySem.W.codeIn K cd17 "stretch_like" = true) (k17 : PySem.W.keepIn K (.ref f17) = true)
    (a18 : PySem.W.nsIn K mainGlobals "run_like" = some (some (.ref f18))) (l18 : K.lookup f18 = some ⟨oc18, od18, .func (PySem.W.fnOf "run_like" "run_like" (defArgs s_run_like) (defBody s_run_like) (defScope s_run_like) .none kV18 dc18 pm18 an18 cd18 ct18), sl18⟩) (c18 : PySem.W.codeIn K cd18 "run_like" = true) (k18 : PySem.W.keepIn K (.ref f18) = true)
    (a19 : PySem.W.nsIn K mainGlobals "alike" = some (some (.ref f19))) (l19 : K.lookup f19 = some ⟨oc19, od19, .func (PySem.W.fnOf "alike" "alike" (defArgs s_alike) (defBody s_alike) (defScope s_alike) .none kV19 dc19 pm19 an19 cd19 ct19), sl19⟩) (c19 : PySem.W.codeIn K cd19 "alike" = true) (k19 : PySem.W.keepIn K (.ref f19) = true)
    (a20 : PySem.W.nsIn K mainGlobals "_law_answers" = some (some (.ref f20))) (l20 : K.lookup f20 = some ⟨oc20, od20, .func (PySem.W.fnOf "_law_answers" "_law_answers" (defArgs s__law_answers) (defBody s__law_answers) (defScope s__law_answers) .none kV20 dc20 pm20 an20 cd20 ct20), sl20⟩) (c20 : PySem.W.codeIn K cd20 "_law_answers" = true) (k20 : PySem.W.keepIn K (.ref f20) = true)
    (a21 : PySem.W.nsIn K mainGlobals "_law_fixed" = some (some (.ref f21))) (l21 : K.lookup f21 = some ⟨oc21, od21, .func (PySem.W.fnOf "_law_fixed" "_law_fixed" (defArgs s__law_fixed) (defBody s__law_fixed) (defScope s__law_fixed) .none kV21 dc21 pm21 an21 cd21 ct21), sl21⟩) (c21 : PySem.W.codeIn K cd21 "_law_fixed" = true) (k21 : PySem.W.keepIn K (.ref f21) = true)
    (a22 : PySem.W.nsIn K mainGlobals "_law_day" = some (some (.ref f22))) (l22 : K.lookup f22 = some ⟨oc22, od22, .func (PySem.W.fnOf "_law_day" "_law_day" (defArgs s__law_day) (defBody s__law_day) (defScope s__law_day) .none kV22 dc22 pm22 an22 cd22 ct22), sl22⟩) (c22 : PySem.W.codeIn K cd22 "_law_day" = true) (k22 : PySem.W.keepIn K (.ref f22) = true)
    (a23 : PySem.W.nsIn K mainGlobals "_law_entry" = some (some (.ref f23))) (l23 : K.lookup f23 = some ⟨oc23, od23, .func (PySem.W.fnOf "_law_entry" "_law_entry" (defArgs s__law_entry) (defBody s__law_entry) (defScope s__law_entry) .none kV23 dc23 pm23 an23 cd23 ct23), sl23⟩) (c23 : PySem.W.codeIn K cd23 "_law_entry" = true) (k23 : PySem.W.keepIn K (.ref f23) = true)
    (a24 : PySem.W.nsIn K mainGlobals "_law_journal" = some (some (.ref f24))) (l24 : K.lookup f24 = some ⟨oc24, od24, .func (PySem.W.fnOf "_law_journal" "_law_journal" (defArgs s__law_journal) (defBody s__law_journal) (defScope s__law_journal) .none kV24 dc24 pm24 an24 cd24 ct24), sl24⟩) (c24 : PySem.W.codeIn K cd24 "_law_journal" = true) (k24 : PySem.W.keepIn K (.ref f24) = true)
    (a25 : PySem.W.nsIn K mainGlobals "_law_flipped" = some (some (.ref f25))) (l25 : K.lookup f25 = some ⟨oc25, od25, .func (PySem.W.fnOf "_law_flipped" "_law_flipped" (defArgs s__law_flipped) (defBody s__law_flipped) (defScope s__law_flipped) .none kV25 dc25 pm25 an25 cd25 ct25), sl25⟩) (c25 : PySem.W.codeIn K cd25 "_law_flipped" = true) (k25 : PySem.W.keepIn K (.ref f25) = true)
    (a26 : PySem.W.nsIn K mainGlobals "_law_turned" = some (some (.ref f26))) (l26 : K.lookup f26 = some ⟨oc26, od26, .func (PySem.W.fnOf "_law_turned" "_law_turned" (defArgs s__law_turned) (defBody s__law_turned) (defScope s__law_turned) .none kV26 dc26 pm26 an26 cd26 ct26), sl26⟩) (c26 : PySem.W.codeIn K cd26 "_law_turned" = true) (k26 : PySem.W.keepIn K (.ref f26) = true)
    (a27 : PySem.W.nsIn K mainGlobals "_law_parts" = some (some (.ref f27))) (l27 : K.lookup f27 = some ⟨oc27, od27, .func (PySem.W.fnOf "_law_parts" "_law_parts" (defArgs s__law_parts) (defBody s__law_parts) (defScope s__law_parts) .none kV27 dc27 pm27 an27 cd27 ct27), sl27⟩) (c27 : PySem.W.codeIn K cd27 "_law_parts" = true) (k27 : PySem.W.keepIn K (.ref f27) = true)
    (a28 : PySem.W.nsIn K mainGlobals "_law_counted" = some (some (.ref f28))) (l28 : K.lookup f28 = some ⟨oc28, od28, .func (PySem.W.fnOf "_law_counted" "_law_counted" (defArgs s__law_counted) (defBody s__law_counted) (defScope s__law_counted) .none kV28 dc28 pm28 an28 cd28 ct28), sl28⟩) (c28 : PySem.W.codeIn K cd28 "_law_counted" = true) (k28 : PySem.W.keepIn K (.ref f28) = true)
    (a29 : PySem.W.nsIn K mainGlobals "_law_due" = some (some (.ref f29))) (l29 : K.lookup f29 = some ⟨oc29, od29, .func (PySem.W.fnOf "_law_due" "_law_due" (defArgs s__law_due) (defBody s__law_due) (defScope s__law_due) .none kV29 dc29 pm29 an29 cd29 ct29), sl29⟩) (c29 : PySem.W.codeIn K cd29 "_law_due" = true) (k29 : PySem.W.keepIn K (.ref f29) = true)
    (a30 : PySem.W.nsIn K mainGlobals "law" = some (some (.ref f30))) (l30 : K.lookup f30 = some ⟨oc30, od30, .func (PySem.W.fnOf "law" "law" (defArgs s_law) (defBody s_law) (defScope s_law) .none kV30 dc30 pm30 an30 cd30 ct30), sl30⟩) (c30 : PySem.W.codeIn K cd30 "law" = true) (k30 : PySem.W.keepIn K (.ref f30) = true)
    (z_bool : PySem.W.nsIn K mainGlobals "bool" = some none)
    (z_int : PySem.W.nsIn K mainGlobals "int" = some none)
    (z_isinstance : PySem.W.nsIn K mainGlobals "isinstance" = some none)
    (z_len : PySem.W.nsIn K mainGlobals "len" = some none)
    (z_list : PySem.W.nsIn K mainGlobals "list" = some none)
    (z_max : PySem.W.nsIn K mainGlobals "max" = some none)
    (z_min : PySem.W.nsIn K mainGlobals "min" = some none)
    (z_range : PySem.W.nsIn K mainGlobals "range" = some none)
    (z_sorted : PySem.W.nsIn K mainGlobals "sorted" = some none)
    (z_sum : PySem.W.nsIn K mainGlobals "sum" = some none)
    (z_tuple : PySem.W.nsIn K mainGlobals "tuple" = some none)
    : ∃ fd : FuncData, (∀ (s : Shared) (v : Value), BindsTo s fd ⟨[v], []⟩ [("script", v)]) ∧ ∀ base : Heap, K.In base → base.Ns mainGlobals mg → FnOk l.prog w K mg base (L2.CX l.prog w) 6 fa fd ["script"] (spOf K 1 (@F_law ⟨w⟩)) := by
  have e := hfa.symm.trans (PySem.W.mg_of X G a30)
  cases e
  have F0 := fun_mk (st := s__law_draw) l0 c0 k0
  have F1 := fun_mk (st := s__law_word) l1 c1 k1
  have F2 := fun_mk (st := s__law_bumped) l2 c2 k2
  have F3 := fun_mk (st := s__law_names) l3 c3 k3
  have F4 := fun_mk (st := s__law_pot) l4 c4 k4
  have F5 := fun_mk (st := s__law_ident) l5 c5 k5
  have F6 := fun_mk (st := s__law_version) l6 c6 k6
  have F7 := fun_mk (st := s__law_some) l7 c7 k7
  have F8 := fun_mk (st := s__law_cause) l8 c8 k8
  have F9 := fun_mk (st := s__law_stretch) l9 c9 k9
  have F10 := fun_mk (st := s__law_content) l10 c10 k10
  have F11 := fun_mk (st := s__law_note) l11 c11 k11
  have F12 := fun_mk (st := s__law_near) l12 c12 k12
  have F13 := fun_mk (st := s__law_pool) l13 c13 k13
  have F14 := fun_mk (st := s__law_repeated) l14 c14 k14
  have F15 := fun_mk (st := s__split) l15 c15 k15
  have F16 := fun_mk (st := s__counts) l16 c16 k16
  have F17 := fun_mk (st := s_stretch_like) l17 c17 k17
  have F18 := fun_mk (st := s_run_like) l18 c18 k18
  have F19 := fun_mk (st := s_alike) l19 c19 k19
  have F20 := fun_mk (st := s__law_answers) l20 c20 k20
  have F21 := fun_mk (st := s__law_fixed) l21 c21 k21
  have F22 := fun_mk (st := s__law_day) l22 c22 k22
  have F23 := fun_mk (st := s__law_entry) l23 c23 k23
  have F24 := fun_mk (st := s__law_journal) l24 c24 k24
  have F25 := fun_mk (st := s__law_flipped) l25 c25 k25
  have F26 := fun_mk (st := s__law_turned) l26 c26 k26
  have F27 := fun_mk (st := s__law_parts) l27 c27 k27
  have F28 := fun_mk (st := s__law_counted) l28 c28 k28
  have F29 := fun_mk (st := s__law_due) l29 c29 k29
  have F30 := fun_mk (st := s_law) l30 c30 k30
  have b0 := F0.binds (ps := ["pot", "size"]) fun _ _ _ _ _ _ us hl => match us, hl with | [_, _], _ => rfl
  have b1 := F1.binds (ps := ["pot", "size"]) fun _ _ _ _ _ _ us hl => match us, hl with | [_, _], _ => rfl
  have b2 := F2.binds (ps := ["word", "names"]) fun _ _ _ _ _ _ us hl => match us, hl with | [_, _], _ => rfl
  have b3 := F3.binds (ps := ["pot", "count"]) fun _ _ _ _ _ _ us hl => match us, hl with | [_, _], _ => rfl
  have b4 := F4.binds (ps := ["script", "place"]) fun _ _ _ _ _ _ us hl => match us, hl with | [_, _], _ => rfl
  have b5 := F5.binds (ps := ["pot"]) fun _ _ _ _ _ _ us hl => match us, hl with | [_], _ => rfl
  have b6 := F6.binds (ps := ["pot"]) fun _ _ _ _ _ _ us hl => match us, hl with | [_], _ => rfl
  have b7 := F7.binds (ps := ["pot", "names"]) fun _ _ _ _ _ _ us hl => match us, hl with | [_, _], _ => rfl
  have b8 := F8.binds (ps := ["pot", "names"]) fun _ _ _ _ _ _ us hl => match us, hl with | [_, _], _ => rfl
  have b9 := F9.binds (ps := ["pot"]) fun _ _ _ _ _ _ us hl => match us, hl with | [_], _ => rfl
  have b10 := F10.binds (ps := ["pot", "names"]) fun _ _ _ _ _ _ us hl => match us, hl with | [_, _], _ => rfl
  have b11 := F11.binds (ps := ["pot", "names"]) fun _ _ _ _ _ _ us hl => match us, hl with | [_, _], _ => rfl
  have b12 := F12.binds (ps := ["pot", "names", "note"]) fun _ _ _ _ _ _ us hl => match us, hl with | [_, _, _], _ => rfl
  have b13 := F13.binds (ps := ["script"]) fun _ _ _ _ _ _ us hl => match us, hl with | [_], _ => rfl
  have b14 := F14.binds (ps := ["pot", "journal"]) fun _ _ _ _ _ _ us hl => match us, hl with | [_, _], _ => rfl
  have b15 := F15.binds (ps := ["journal"]) fun _ _ _ _ _ _ us hl => match us, hl with | [_], _ => rfl
  have b16 := F16.binds (ps := ["notes"]) fun _ _ _ _ _ _ us hl => match us, hl with | [_], _ => rfl
  have b17 := F17.binds (ps := ["one", "two"]) fun _ _ _ _ _ _ us hl => match us, hl with | [_, _], _ => rfl
  have b18 := F18.binds (ps := ["one", "two"]) fun _ _ _ _ _ _ us hl => match us, hl with | [_, _], _ => rfl
  have b19 := F19.binds (ps := ["one", "two", "over"]) fun _ _ _ _ _ _ us hl => match us, hl with | [_, _, _], _ => rfl
  have b20 := F20.binds (ps := ["left", "right", "due"]) fun _ _ _ _ _ _ us hl => match us, hl with | [_, _, _], _ => rfl
  have b21 := F21.binds (ps := ["pool", "tail", "day"]) fun _ _ _ _ _ _ us hl => match us, hl with | [_, _, _], _ => rfl
  have b22 := F22.binds (ps := ["pot"]) fun _ _ _ _ _ _ us hl => match us, hl with | [_], _ => rfl
  have b23 := F23.binds (ps := ["pot", "pool"]) fun _ _ _ _ _ _ us hl => match us, hl with | [_, _], _ => rfl
  have b24 := F24.binds (ps := ["pot", "pool"]) fun _ _ _ _ _ _ us hl => match us, hl with | [_, _], _ => rfl
  have b25 := F25.binds (ps := ["journal", "place"]) fun _ _ _ _ _ _ us hl => match us, hl with | [_, _], _ => rfl
  have b26 := F26.binds (ps := ["pot", "pool", "journal", "kinds"]) fun _ _ _ _ _ _ us hl => match us, hl with | [_, _, _, _], _ => rfl
  have b27 := F27.binds (ps := ["journal"]) fun _ _ _ _ _ _ us hl => match us, hl with | [_], _ => rfl
  have b28 := F28.binds (ps := ["notes"]) fun _ _ _ _ _ _ us hl => match us, hl with | [_], _ => rfl
  have b29 := F29.binds (ps := ["left", "right"]) fun _ _ _ _ _ _ us hl => match us, hl with | [_, _], _ => rfl
  let T : Tx l.prog K mg := { a__law_draw := f0, d__law_draw := _, f__law_draw := F0, m__law_draw := PySem.W.mg_of X G a0, b__law_draw := b0, a__law_word := f1, d__law_word := _, f__law_word := F1, m__law_word := PySem.W.mg_of X G a1, b__law_word := b1, a__law_bumped := f2, d__law_bumped := _, f__law_bumped := F2, m__law_bumped := PySem.W.mg_of X G a2, b__law_bumped := b2, a__law_names := f3, d__law_names := _, f__law_names := F3, m__law_names := PySem.W.mg_of X G a3, b__law_names := b3, a__law_pot := f4, d__law_pot := _, f__law_pot := F4, m__law_pot := PySem.W.mg_of X G a4, b__law_pot := b4, a__law_ident := f5, d__law_ident := _, f__law_ident := F5, m__law_ident := PySem.W.mg_of X G a5, b__law_ident := b5, a__law_version := f6, d__law_version := _, f__law_version := F6, m__law_version := PySem.W.mg_of X G a6, b__law_version := b6, a__law_some := f7, d__law_some := _, f__law_some := F7, m__law_some := PySem.W.mg_of X G a7, b__law_some := b7, a__law_cause := f8, d__law_cause := _, f__law_cause := F8, m__law_cause := PySem.W.mg_of X G a8, b__law_cause := b8, a__law_stretch := f9, d__law_stretch := _, f__law_stretch := F9, m__law_stretch := PySem.W.mg_of X G a9, b__law_stretch := b9, a__law_content := f10, d__law_content := _, f__law_content := F10, m__law_content := PySem.W.mg_of X G a10, b__law_content := b10, a__law_note := f11, d__law_note := _, f__law_note := F11, m__law_note := PySem.W.mg_of X G a11, b__law_note := b11, a__law_near := f12, d__law_near := _, f__law_near := F12, m__law_near := PySem.W.mg_of X G a12, b__law_near := b12, a__law_pool := f13, d__law_pool := _, f__law_pool := F13, m__law_pool := PySem.W.mg_of X G a13, b__law_pool := b13, a__law_repeated := f14, d__law_repeated := _, f__law_repeated := F14, m__law_repeated := PySem.W.mg_of X G a14, b__law_repeated := b14, a__split := f15, d__split := _, f__split := F15, m__split := PySem.W.mg_of X G a15, b__split := b15, a__counts := f16, d__counts := _, f__counts := F16, m__counts := PySem.W.mg_of X G a16, b__counts := b16, a_stretch_like := f17, d_stretch_like := _, f_stretch_like := F17, m_stretch_like := PySem.W.mg_of X G a17, b_stretch_like := b17, a_run_like := f18, d_run_like := _, f_run_like := F18, m_run_like := PySem.W.mg_of X G a18, b_run_like := b18, a_alike := f19, d_alike := _, f_alike := F19, m_alike := PySem.W.mg_of X G a19, b_alike := b19, a__law_answers := f20, d__law_answers := _, f__law_answers := F20, m__law_answers := PySem.W.mg_of X G a20, b__law_answers := b20, a__law_fixed := f21, d__law_fixed := _, f__law_fixed := F21, m__law_fixed := PySem.W.mg_of X G a21, b__law_fixed := b21, a__law_day := f22, d__law_day := _, f__law_day := F22, m__law_day := PySem.W.mg_of X G a22, b__law_day := b22, a__law_entry := f23, d__law_entry := _, f__law_entry := F23, m__law_entry := PySem.W.mg_of X G a23, b__law_entry := b23, a__law_journal := f24, d__law_journal := _, f__law_journal := F24, m__law_journal := PySem.W.mg_of X G a24, b__law_journal := b24, a__law_flipped := f25, d__law_flipped := _, f__law_flipped := F25, m__law_flipped := PySem.W.mg_of X G a25, b__law_flipped := b25, a__law_turned := f26, d__law_turned := _, f__law_turned := F26, m__law_turned := PySem.W.mg_of X G a26, b__law_turned := b26, a__law_parts := f27, d__law_parts := _, f__law_parts := F27, m__law_parts := PySem.W.mg_of X G a27, b__law_parts := b27, a__law_counted := f28, d__law_counted := _, f__law_counted := F28, m__law_counted := PySem.W.mg_of X G a28, b__law_counted := b28, a__law_due := f29, d__law_due := _, f__law_due := F29, m__law_due := PySem.W.mg_of X G a29, b__law_due := b29, a_law := fa, d_law := _, f_law := F30, n_bool := PySem.W.mg_none_of X G z_bool, n_int := PySem.W.mg_none_of X G z_int, n_isinstance := PySem.W.mg_none_of X G z_isinstance, n_len := PySem.W.mg_none_of X G z_len, n_list := PySem.W.mg_none_of X G z_list, n_max := PySem.W.mg_none_of X G z_max, n_min := PySem.W.mg_none_of X G z_min, n_range := PySem.W.mg_none_of X G z_range, n_sorted := PySem.W.mg_none_of X G z_sorted, n_sum := PySem.W.mg_none_of X G z_sum, n_tuple := PySem.W.mg_none_of X G z_tuple }
  exact ⟨T.d_law, fun s v => .of_eq rfl, fun base _ _ => @ok_law l.prog ⟨w⟩ K mg base T⟩
end Law
open PySem PySem.W PyProof.Rows
set_option maxHeartbeats 0 in
theorem PySem.Challenge.cw_hearthdue_k36_alike_journals_holds : PySem.Challenge.rw_hearthdue_k36_alike_journals.Holds := by
  w_on; o_law; k_head; (case hw => w_witness2)
  k_fill
  refine L2.walk_of (l := PySem.Challenge.rw_hearthdue_k36_alike_journals) (n := 63) (k := 6) (x := "script") (CX := fun w => L2.CX PySem.Challenge.pw_hearthdue_k36_alike_journals w) (sp := fun w => DL.spOf _ 1 (@Law.F_law ⟨w⟩)) rfl (by decide) rfl ⟨rfl, by decide, by decide⟩ (fun w h Y => PySem.W.kIn_of Y) ?F (fun w H a ns hl _ hS => DL.sp_law hl hS (@Law.law_true ⟨w⟩ ns hl)) (fun _ _ _ _ _ h => DL.cx_false h)
  case F =>
    intro w mg fa h KX G hmg
    refine' Law.all_mk KX G hmg ?a0 ?l0 ?c0 ?k0 ?a1 ?l1 ?c1 ?k1 ?a2 ?l2 ?c2 ?k2 ?a3 ?l3 ?c3 ?k3 ?a4 ?l4 ?c4 ?k4 ?a5 ?l5 ?c5 ?k5 ?a6 ?l6 ?c6 ?k6 ?a7 ?l7 ?c7 ?k7 ?a8 ?l8 ?c8 ?k8 ?a9 ?l9 ?c9 ?k9 ?a10 ?l10 ?c10 ?k10 ?a11 ?l11 ?c11 ?k11 ?a12 ?l12 ?c12 ?k12 ?a13 ?l13 ?c13 ?k13 ?a14 ?l14 ?c14 ?k14 ?a15 ?l15 ?c15 ?k15 ?a16 ?l16 ?c16 ?k16 ?a17 ?l17 ?c17 ?k17 ?a18 ?l18 ?c18 ?k18 ?a19 ?l19 ?c19 ?k19 ?a20 ?l20 ?c20 ?k20 ?a21 ?l21 ?c21 ?k21 ?a22 ?l22 ?c22 ?k22 ?a23 ?l23 ?c23 ?k23 ?a24 ?l24 ?c24 ?k24 ?a25 ?l25 ?c25 ?k25 ?a26 ?l26 ?c26 ?k26 ?a27 ?l27 ?c27 ?k27 ?a28 ?l28 ?c28 ?k28 ?a29 ?l29 ?c29 ?k29 ?a30 ?l30 ?c30 ?k30 ?z_bool ?z_int ?z_isinstance ?z_len ?z_list ?z_max ?z_min ?z_range ?z_sorted ?z_sum ?z_tuple
    (case a0 => k_is); (case l0 => k_is); (case c0 => k_is); (case k0 => k_is); (case a1 => k_is); (case l1 => k_is); (case c1 => k_is); (case k1 => k_is); (case a2 => k_is); (case l2 => k_is); (case c2 => k_is); (case k2 => k_is); (case a3 => k_is); (case l3 => k_is); (case c3 => k_is); (case k3 => k_is); (case a4 => k_is); (case l4 => k_is); (case c4 => k_is); (case k4 => k_is); (case a5 => k_is); (case l5 => k_is); (case c5 => k_is); (case k5 => k_is); (case a6 => k_is); (case l6 => k_is); (case c6 => k_is); (case k6 => k_is); (case a7 => k_is); (case l7 => k_is); (case c7 => k_is); (case k7 => k_is); (case a8 => k_is); (case l8 => k_is); (case c8 => k_is); (case k8 => k_is); (case a9 => k_is); (case l9 => k_is); (case c9 => k_is); (case k9 => k_is); (case a10 => k_is); (case l10 => k_is); (case c10 => k_is); (case k10 => k_is); (case a11 => k_is); (case l11 => k_is); (case c11 => k_is); (case k11 => k_is); (case a12 => k_is); (case l12 => k_is); (case c12 => k_is); (case k12 => k_is); (case a13 => k_is); (case l13 => k_is); (case c13 => k_is); (case k13 => k_is); (case a14 => k_is); (case l14 => k_is); (case c14 => k_is); (case k14 => k_is); (case a15 => k_is); (case l15 => k_is); (case c15 => k_is); (case k15 => k_is); (case a16 => k_is); (case l16 => k_is); (case c16 => k_is); (case k16 => k_is); (case a17 => k_is); (case l17 => k_is); (case c17 => k_is); (case k17 => k_is); (case a18 => k_is); (case l18 => k_is); (case c18 => k_is); (case k18 => k_is); (case a19 => k_is); (case l19 => k_is); (case c19 => k_is); (case k19 => k_is); (case a20 => k_is); (case l20 => k_is); (case c20 => k_is); (case k20 => k_is); (case a21 => k_is); (case l21 => k_is); (case c21 => k_is); (case k21 => k_is); (case a22 => k_is); (case l22 => k_is); (case c22 => k_is); (case k22 => k_is); (case a23 => k_is); (case l23 => k_is); (case c23 => k_is); (case k23 => k_is); (case a24 => k_is); (case l24 => k_is); (case c24 => k_is); (case k24 => k_is); (case a25 => k_is); (case l25 => k_is); (case c25 => k_is); (case k25 => k_is); (case a26 => k_is); (case l26 => k_is); (case c26 => k_is); (case k26 => k_is); (case a27 => k_is); (case l27 => k_is); (case c27 => k_is); (case k27 => k_is); (case a28 => k_is); (case l28 => k_is); (case c28 => k_is); (case k28 => k_is); (case a29 => k_is); (case l29 => k_is); (case c29 => k_is); (case k29 => k_is); (case a30 => k_is); (case l30 => k_is); (case c30 => k_is); (case k30 => k_is); (case z_bool => k_is); (case z_int => k_is); (case z_isinstance => k_is); (case z_len => k_is); (case z_list => k_is); (case z_max => k_is); (case z_min => k_is); (case z_range => k_is); (case z_sorted => k_is); (case z_sum => k_is); (case z_tuple => k_is)
