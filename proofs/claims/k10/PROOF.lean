import PyProof.Rows.All
import Wide.All
import OpenK.AllK
import Wide.FinOn
import HandS.ForMost
import HandS.ForExc
import HandS.Strs
import HandS.SetFor
import HandS.SortInts
import HandS.Deep
import HandS.Style
import HandS.Conv
import HandS.NoneIn
import HandS.IsInst
import HandS.Wide
import HandS.Codes
import HandS.Walk
import HandS.Zip
import HandS.StrMore
import HandS.RevRange
import HandS.Rev
import HandS.TupAny
import HandS.TupLen
import HandS.Steps
import HandS.Remove
import HandS.CallSlots
import HandS.ExcIs
import HandS.ExcValue
import KE.KDictDisplayH
import KE.KeyNested
import HandS.RaiseMore
import PySem.Challenge.RW_hotmoves_k10_no_games_played
set_option Elab.async false
set_option linter.all false
set_option maxRecDepth 100000
set_option maxHeartbeats 4000000
/-! F1: set(list of ints); sorted of a set of any size. -/
namespace Hm
open PySem PySem.Spec PyProof.Rows L2

/-- a set as it is made -/
abbrev emptySet (w : World) : Obj := { cls := .type "set", dict := none, data := .set #[] 0 (.fresh 0 0 (!w.params.followText "set-order")) }

section
variable {P : Program} {w : World} {A : Around} {E : Value → Shared → Prop} {s : Shared}

set_option maxHeartbeats 8000000 in
theorem set_of_list {l : Addr} {xs : Array Value} (ks : List Int) {Q : Value → Shared → Prop} (calm : A.handled = none) (isL : s.heap.IsList l xs) (are : IntsAre xs.toList ks) (few : ks.length + 1 < scanBound)
    (fin : ∀ (hp : Heap) (tk n : Nat), SetR w hp s.heap.objs.size (fun j => decide (j ∈ ks)) n → n ≤ ks.length → (∀ b o, s.heap.get? b = some o → hp.get? b = some o) → Q (.ref s.heap.objs.size) { s with heap := hp, toks := tk }) :
    wpAny (model P w) A (call (.type "set") [.ref l]) Q E s := by
  have sz : xs.size = ks.length := (Array.length_toList (xs := xs)).symm.trans (IntsAre.length are)
  have made := F.called_set.made
  have sub := F.called_set.sub
  obtain ⟨c, tl, mro⟩ := F.called_set.mro
  refine wpAny_call (codeAny_of_tree ?_)
  show wpAny _ _ (callAny (.type "set") _) _ _ _
  refine wpAny_pure ⟨Code.quiet_builtin _ (by decide +kernel), codeAny_builtin F.entry_type_call ?_⟩
  rw [Around.under_plain (weight_type_call_type "set" [.ref l] []) rfl]
  have f1 := F.called_set.notType
  have f2 := F.called_set.canCreate
  have f3 := F.typeCall_set_1 (.ref l)
  repeat (any_goals (first | assumption | wp_step))
  refine codeAny_mono (code_set_led1 (.ref l) (E := E) (Q₁ := fun v t => v = .ref s.heap.objs.size ∧ t = { s with heap := s.heap.push (emptySet w) }) ⟨rfl, rfl⟩) fun r t hr => ?_
  cases r with
  | error e => exact hr
  | ok fl =>
    cases fl with
    | next => exact hr.elim
    | brk => exact hr.elim
    | cont => exact hr.elim
    | ret v =>
      obtain ⟨rfl, rfl⟩ := hr
      have at0 : (s.heap.push (emptySet w)).get? s.heap.objs.size = some (emptySet w) := Heap.get?_push_size _ rfl
      have ty0 : Shared.TypeIs { s with heap := s.heap.push (emptySet w) } (.ref s.heap.objs.size) "set" := ⟨_, at0, rfl⟩
      have i1 := F.called_set.init.lookup
      have i2 := F.called_set.init.bind (.ref s.heap.objs.size)
      repeat (any_goals (first | assumption | wp_step))
      refine codeAny_mono (codeAny_call_builtin (R := wants (fun r t => r = .none ∧ ∃ hp tk n, t = { s with heap := hp, toks := tk } ∧ SetR w hp s.heap.objs.size (fun j => decide (j ∈ ks)) n ∧ n ≤ ks.length ∧ (∀ b o, s.heap.get? b = some o → hp.get? b = some o)) E)
        F.called_set.init.plain F.entry_set_init (check_set_init_1 ty0 ?_)) fun r t hr => ?_
      · obtain ⟨⟨oc, od, odt, osl⟩, got, e1, n0, e2⟩ := isL
        simp only at e1 e2
        subst e1 e2
        have got1 : (s.heap.push (emptySet w)).get? l = some { cls := .type "list", dict := od, data := .seq xs n0, slots := osl } := Heap.get?_push_of_some _ got
        have isL1 : (s.heap.push (emptySet w)).IsList l xs := ⟨_, got1, rfl, n0, rfl⟩
        have t1 := F.sub_list_set
        have t2 := F.sub_list_frozenset
        have t3 : (Value.type "list" == Value.type "dict") = false := by decide
        unfold Builtin.«set.__init__» noKeywords Builtin.Frozenset.updateFrom
        generalize eI : pyIter = I
        wp_walk
        subst eI
        refine wpAny_pyIter_list isL1 (wpAny_bind (wpAny_runValue ?_))
        have lt : l < s.heap.objs.size := Heap.lt_size got
        have calm3 : A.in1.in1.in1.handled = none := by simp [calm]
        have sz1 : (s.heap.push (emptySet w)).objs.size = s.heap.objs.size + 1 := Heap.size_push ..
        have neI : l ≠ (s.heap.push (emptySet w)).objs.size := by rw [sz1]; exact Nat.ne_of_lt (Nat.lt_succ_of_lt lt)
        have notS : s.heap.objs.size ∉ [(s.heap.push (emptySet w)).objs.size, l] := by
          rw [sz1]; intro z; simp only [List.mem_cons, List.not_mem_nil, or_false] at z
          rcases z with z | z
          · exact Nat.ne_of_lt (Nat.lt_succ_self _) z
          · exact Nat.ne_of_gt lt z
        have each : ∀ (i : Nat) (v : Value), xs[i]? = some v → ∃ k t, ks[i]? = some k ∧ v = .int k t := fun i v hv => by
          have hi : i < ks.length := by rw [← sz]; exact (Array.getElem?_eq_some_iff.mp hv).1
          obtain ⟨t, e⟩ := PyProof.Rows.IntsAre.int_at are i v (by rw [Array.getElem?_toList]; exact hv)
          exact ⟨ks[i], t, List.getElem?_eq_getElem hi, by rw [e, List.getD_eq_getElem?_getD, List.getElem?_eq_getElem hi]; rfl⟩
        refine set_update_ints ((Walks.list calm3 _ l neI xs).toS) s.heap.objs.size notS ks sz few each (xs.size - 0) 0 _ (by omega) (Nat.zero_le _)
          ⟨⟨_, Heap.get?_push_size _ rfl, rfl, rfl⟩, (isL1.push _)⟩ ?start ?done
        case start =>
          have g : ((s.heap.push (emptySet w)).push { cls := .type "list_iterator", data := .fields #[.ref l, .int 0 0] }).get? s.heap.objs.size = some (emptySet w) := Heap.get?_push_of_some _ at0
          exact ⟨0, Nat.le_refl 0, setR_new_at g⟩
        case done =>
          rintro ⟨hp, gs, dr, tk, os⟩ n mv nle R
          cases (show gs = s.gens from mv.gens)
          cases (show dr = s.drawn from mv.drawn)
          cases (show os = s.os from mv.os)
          show wpAny _ _ _ _ _ _
          refine wpAny_pure ?_
          show wpAny _ _ (ret Value.none) _ _ _
          rw [sz] at nle
          refine wpAny_pure ⟨rfl, hp, tk, n, rfl, R, nle, fun b o e => ?_⟩
          have b0 : b < s.heap.objs.size := Heap.lt_size e
          refine mv.heap b o (fun z => ?_) (Heap.get?_push_of_some _ (Heap.get?_push_of_some _ e))
          simp only [List.mem_cons, List.not_mem_nil, or_false] at z
          rw [sz1] at z
          rcases z with z | z
          · exact Nat.ne_of_lt b0 z
          · exact Nat.ne_of_lt (Nat.lt_succ_of_lt b0) z
      · cases r with
        | error e => exact hr
        | ok fl =>
          cases fl with
          | next => exact hr.elim
          | brk => exact hr.elim
          | cont => exact hr.elim
          | ret v =>
            obtain ⟨rfl, hp, tk, n, rfl, R, nle, keep⟩ := hr
            repeat (any_goals (first | assumption | wp_step))
            exact fin _ _ _ R nle keep

/-- sorted(s) of a set of ints of any size -/
theorem sorted_of_set {a : Addr} {S : Int → Bool} {n : Nat} {Q : Value → Shared → Prop} (R : SetR w s.heap a S n) (calm : A.handled = none)
    (fin : ∀ t p (out : Array Value) (c : Nat) (ns : List Int), (∀ b o, s.heap.get? b = some o → t.heap.get? b = some o) → t.gens = s.gens → t.os = s.os → s.heap.objs.size ≤ p →
      t.heap.get? p = some (seqObj "list" out c) → IntsAre out.toList ns → ns.Pairwise (· < ·) → (∀ k, k ∈ ns ↔ S k = true) → ns.length = n → Q (.ref p) t) :
    wpAny (model P w) A (call (.builtin "sorted") [.ref a]) Q E s := by
  obtain ⟨o, es, ep, t, ho, hex, hd, good, nd, mem, few, fits, num, ris, led⟩ := R
  refine Calls.call_function_entry kind_sorted plain_sorted entry_sorted (args_sorted1 _) ?_
  unfold Builtin.«sorted»
  refine wpAny_bind (m := checkCount "sorted" 1 1 _) (wpAny_pure ?_)
  refine wpAny_bind (collect_set (A := A.in1) calm ⟨o, ho, hex.1, hd⟩ fits few ris led fun s1 vs k1 big g1 o1 pm => ?_)
  have len : vs.length = n := by rw [pm.length_eq, List.length_map, Array.length_toList]; exact num
  have areI : IntsAre vs (vs.map Builtin.Re.reRawOf) := ints_of vs fun v hv => by
    obtain ⟨e, he, q⟩ := List.mem_map.mp (pm.mem_iff.mp hv)
    obtain ⟨k, tk, h1, _⟩ := good e he
    exact ⟨k, tk, q ▸ h1⟩
  have pk : (vs.map Builtin.Re.reRawOf).Perm (es.toList.map keyOf) := by
    have q := pm.map Builtin.Re.reRawOf
    rw [List.map_map] at q
    exact q
  have line : vs.length ≤ sizeLine := by
    rw [len, sizeLine_eq]; have : scanBound = 4096 := rfl; omega
  refine wpAny_bind (wpAny_newList ?_ line)
  have at1 : (s1.heap.push (seqObj "list" vs.toArray 0)).get? s1.heap.objs.size = some (seqObj "list" vs.toArray 0) := Heap.get?_push_size _ rfl
  refine wpAny_bind (wpAny_holding (wpAny_call_entry slot_list_sort ⟨_, at1, rfl⟩ entry_list_sort
    (SrtO.list_sort_ord SrtO.swo_int at1 line (fun h2 => SrtO.ints_sortable areI h2) fun out h1 h2 => ⟨_, rfl, ?_⟩) (args_list_sort _)))
  obtain ⟨j1, j2, j3⟩ := SrtO.ints_out areI h1 h2
  obtain ⟨c, hc⟩ := sortedHeap_at (vs := vs) (out := out.toArray) at1
  have pn : (out.map SrtO.iv).Perm (es.toList.map keyOf) := j2.trans pk
  refine wpAny_pure ⟨_, rfl, fin _ s1.heap.objs.size out.toArray c (out.map SrtO.iv) (fun b u e => ?_) g1 o1 big hc (by simpa using j1) (lt_of_le_nodup _ j3 (pn.nodup_iff.mpr nd)) (fun k => by rw [pn.mem_iff, ← mem k]) ?_⟩
  · have q := k1 b u e
    have lt := Heap.lt_size q
    show (sortedHeap (s1.heap.push (seqObj "list" vs.toArray 0)) s1.heap.objs.size vs out.toArray).get? b = some u
    rw [sortedHeap_old (Nat.ne_of_lt lt) (by rw [size_push']; exact Nat.lt_succ_of_lt lt)]
    exact Heap.get?_push_of_some _ q
  · rw [pn.length_eq, List.length_map, Array.length_toList]; exact num
end

section
variable {X : Cx}
/-- set(xs), xs a list of ints -/
def uSetI (K : PySem.W.Frag) (w : World) : List V → Hp → VK → Prop := fun xs H Q => ∃ (l : Addr) (ns : List Int), xs = [.ref l] ∧ SqL K H l (ns.map V.int) ∧ ns.length ≤ 4000 ∧
  ∀ (a : Addr) (n : Nat), H a = none → n ≤ ns.length → Q (.ref a) (upd H a (SetO w a (fun j => decide (j ∈ ns)) n))
theorem cu_setI (hc : X.calm = true) : CallR X (.type "set") (uSetI X.K X.w) := by
  intro pins s σ H xs us Q I r h
  obtain ⟨l, ns, rfl, hl, few, q⟩ := h
  rw [Vals.ref1 r]
  obtain ⟨its, rv, pl, hz⟩ := I.list hl
  have hs : scanBound = 4096 := rfl
  refine set_of_list ns (I.ok.hd hc) pl.isList (by simpa using rv.ints) (by omega) fun hp tk n R nle keep => ?_
  exact ⟨.ref _, upd H s.heap.objs.size (SetO X.w s.heap.objs.size (fun j => decide (j ∈ ns)) n), I.laid (t' := tk) keep (Nat.le_refl _) (setO_new R), rfl, q _ n (I.hok.fresh (Nat.le_refl _)) nle⟩
/-- sorted(s), s a set of ints -/
def uSortSet (w : World) : List V → Hp → VK → Prop := fun vs H Q => ∃ (a : Addr) (S : Int → Bool) (n : Nat), vs = [V.ref a] ∧ H a = some (SetO w a S n) ∧
  ∀ (ns : List Int) (p : Addr), ns.Pairwise (· < ·) → (∀ k : Int, k ∈ ns ↔ S k = true) → ns.length = n → H p = none → Q (.ref p) (upd H p (.lst (ns.map V.int)))
theorem cu_sortSet (hc : X.calm = true) : CallR X (.builtin "sorted") (uSortSet X.w) := by
  intro pins s σ H vs us Q I r h
  obtain ⟨a, S, n, rfl, ha, q⟩ := h
  have R := setO_get I ha
  have nb : n ≤ 4096 := by
    obtain ⟨_, es, _, _, _, _, _, _, _, _, few, _, num, _⟩ := R
    have hs : scanBound = 4096 := rfl
    omega
  rw [Vals.ref1 r]
  refine sorted_of_set R (I.ok.hd hc) fun s' p out c ns k g o big got areI up mem len => ?_
  have line : (ns.map V.int).length ≤ sizeLine := by rw [List.length_map, len, sizeLine_eq]; omega
  have new : H p = none := I.hok.fresh big
  have J : Inv X pins σ (upd H p (.lst (ns.map V.int))) { s with heap := s'.heap, gens := s'.gens, drawn := s'.drawn, toks := s'.toks } :=
    I.call (ch := []) (Un.laid k big new) (I.hok.laid k big ⟨line, out.toList, c, vals_of_ints areI, got⟩) (by rw [g]; exact I.bare) (fun _ z => nomatch z)
  have same : s' = { s with heap := s'.heap, gens := s'.gens, drawn := s'.drawn, toks := s'.toks } := by
    cases s'; cases s; cases o; rfl
  rw [same]
  exact ⟨.ref p, _, J, rfl, q ns p up mem len new⟩
end
end Hm

/-! F1b: dicts whose keys are nested tuples of ints and texts. -/
namespace Hm
open PySem PySem.Spec PyProof.Rows L2

mutual
/-- the value v is the key k, its tuples tracked -/
def NkV (H : Hp) : NestedKey → V → Prop
  | .none, v => v = .non
  | .num i, v => v = .int i
  | .text x, v => v = .str x
  | .tup ks, v => ∃ a vs, v = .ref a ∧ H a = some (.tup vs) ∧ NkVs H ks vs
def NkVs (H : Hp) : List NestedKey → List V → Prop
  | [], vs => vs = []
  | k :: ks, vs => ∃ v r, vs = v :: r ∧ NkV H k v ∧ NkVs H ks r
end
mutual
theorem NkV.keeps {H H' : Hp} (ht : ∀ b xs, H b = some (.tup xs) → H' b = some (.tup xs)) : ∀ (k : NestedKey) (v : V), NkV H k v → NkV H' k v
  | .none, _, h => by simpa only [NkV] using h
  | .num i, _, h => by simpa only [NkV] using h
  | .text x, _, h => by simpa only [NkV] using h
  | .tup ks, _, h => by
    simp only [NkV] at h ⊢
    obtain ⟨a, vs, e, ha, hs⟩ := h
    exact ⟨a, vs, e, ht _ _ ha, NkVs.keeps ht ks vs hs⟩
theorem NkVs.keeps {H H' : Hp} (ht : ∀ b xs, H b = some (.tup xs) → H' b = some (.tup xs)) : ∀ (ks : List NestedKey) (vs : List V), NkVs H ks vs → NkVs H' ks vs
  | [], _, h => by simpa only [NkVs] using h
  | k :: ks, _, h => by
    simp only [NkVs] at h ⊢
    obtain ⟨v, r, e, h1, h2⟩ := h
    exact ⟨v, r, e, NkV.keeps ht k v h1, NkVs.keeps ht ks r h2⟩
end
section
variable {P : Program} {w : World} {H : Hp} {h : Heap}
mutual
theorem nk_is (ok : HOk P w H h) : ∀ (k : NestedKey) (v : V) (u : Value), NkV H k v → RelV v u → NestedIs h k u
  | .none, _, _, e, r => by simp only [NkV] at e; subst e; cases r; exact .none
  | .num i, _, _, e, r => by simp only [NkV] at e; subst e; obtain ⟨t, rfl⟩ := r; exact .int i t
  | .text x, _, _, e, r => by simp only [NkV] at e; subst e; obtain ⟨t, rfl⟩ := r; exact .text x t
  | .tup ks, _, _, e, r => by
    simp only [NkV] at e
    obtain ⟨a, vs, rfl, ha, hs⟩ := e
    cases r
    obtain ⟨_, its, rv, o, h1, h2, n, h3⟩ := (show ObjOk P w H h a (.tup vs) from ok a _ ha)
    exact .tup h1 h2 h3 (by simpa using nks_are ok ks vs its hs rv)
theorem nks_are (ok : HOk P w H h) : ∀ (ks : List NestedKey) (vs : List V) (us : List Value), NkVs H ks vs → Vals vs us → NestedAll h ks us
  | [], _, _, e, r => by simp only [NkVs] at e; subst e; cases r; exact .nil
  | k :: ks, _, _, e, r => by
    simp only [NkVs] at e
    obtain ⟨v, rr, rfl, h1, h2⟩ := e
    cases r with
    | cons r1 r2 => exact .cons (nk_is ok k v _ h1 r1) (nks_are ok ks rr _ h2 r2)
end
end

/-- an entry: the key, its tuple's address, the value -/
abbrev NX := NestedKey × Addr × V
def NRel (p : NX) (q : NestedKey × Addr × Value) : Prop := p.1 = q.1 ∧ p.2.1 = q.2.1 ∧ RelV p.2.2 q.2.2
/-- the dict at a -/
def NdO (P : Program) (w : World) (a : Addr) (xs : List NX) : HO := .ext fun h => (a == sysModules) = false ∧ xs.length ≤ sizeLine ∧ ∃ ys, Paired NRel xs ys ∧
  ∃ o es ep, h.get? a = some o ∧ o.ExactDict ∧ o.data = .dict es ep ∧ es.toList = ys.map (entryOfKey (nestedKind P w)) ∧ (ys.map (·.1)).Nodup
structure NdAt (P : Program) (w : World) (H : Hp) (a : Addr) (xs : List NX) : Prop where
  here : H a = some (NdO P w a xs)
  keys : ∀ x ∈ xs, NkV H x.1 (.ref x.2.1) ∧ x.1.depth ≤ 8
def nval (xs : List NX) (k : NestedKey) : Option V := (xs.find? fun x => decide (x.1 = k)).map (·.2.2)
def nput (xs : List NX) (k : NestedKey) (a : Addr) (v : V) : List NX := if (nval xs k).isSome then xs.map fun x => if x.1 = k then (x.1, x.2.1, v) else x else xs ++ [(k, a, v)]

section
variable {P : Program} {w : World} {H H' : Hp} {h h' : Heap} {a : Addr} {xs : List NX}
theorem ndO_ok {ys : List (NestedKey × Addr × Value)} (z : (a == sysModules) = false) (l : xs.length ≤ sizeLine) (r : Paired NRel xs ys) (d : h.DictOfH (nestedKind P w) a ys) : ObjOk P w H h a (NdO P w a xs) := by
  obtain ⟨o, es, ep, e1, e2, e3, e4, e5, e6⟩ := d
  refine ⟨⟨z, l, ys, r, o, es, ep, e1, e2, e3, e4, e6⟩, ⟨o, e1⟩, fun h1 h2 q k => ?_⟩
  obtain ⟨z, l, ys, r, o, es, ep, f1, f⟩ := q
  exact ⟨z, l, ys, r, o, es, ep, k o f1, f⟩
theorem NdAt.get (ok : HOk P w H h) (N : NdAt P w H a xs) : (a == sysModules) = false ∧ xs.length ≤ sizeLine ∧ ∃ ys, Paired NRel xs ys ∧ h.DictOfH (nestedKind P w) a ys := by
  obtain ⟨⟨z, l, ys, r, o, es, ep, e1, e2, e3, e4, e6⟩, _, _⟩ := ok a _ N.here
  refine ⟨z, l, ys, r, o, es, ep, e1, e2, e3, e4, ?_, e6⟩
  have all : ∀ {l : List NX} {m : List (NestedKey × Addr × Value)}, Paired NRel l m → (∀ x ∈ l, NkV H x.1 (.ref x.2.1) ∧ x.1.depth ≤ 8) → ∀ y ∈ m, (nestedKind P w).is h y.1 y.2.1 := by
    intro l m q
    induction q with
    | nil => intro _ y hy; exact nomatch hy
    | @cons p q ps qs hq t ih =>
      intro hk y hy
      rcases List.mem_cons.mp hy with e | hy
      · subst e
        obtain ⟨k1, k2⟩ := hk p List.mem_cons_self
        rw [← hq.1, ← hq.2.1]
        exact ⟨nk_is ok p.1 _ _ k1 rfl, k2⟩
      · exact ih (fun x hx => hk x (List.mem_cons_of_mem _ hx)) y hy
  exact all r N.keys
theorem NRel.val {ys : List (NestedKey × Addr × Value)} (r : Paired NRel xs ys) (k : NestedKey) : RelO (nval xs k) ((atKey ys k).map (·.2)) := by
  induction r with
  | nil => exact True.intro
  | @cons p q ps qs hq t ih =>
    obtain ⟨h1, _, h3⟩ := hq
    by_cases e : p.1 = k
    · have e' : q.1 = k := h1.symm.trans e
      have b : atKey (q :: qs) k = some q.2 := by simp [atKey, List.find?_cons, e']
      have c : nval (p :: ps) k = some p.2.2 := by simp [nval, List.find?_cons, e]
      rw [c, b]; exact h3
    · have e' : ¬ q.1 = k := fun z => e (h1.trans z)
      have b : atKey (q :: qs) k = atKey qs k := by simp [atKey, List.find?_cons, e']
      have c : nval (p :: ps) k = nval ps k := by simp [nval, List.find?_cons, e]
      rw [c, b]; exact ih
theorem NRel.put {ys : List (NestedKey × Addr × Value)} (r : Paired NRel xs ys) (k : NestedKey) (b : Addr) {v : V} {u : Value} (rv : RelV v u) : Paired NRel (nput xs k b v) (storedH ys k b u) := by
  have e : (nval xs k).isSome = (atKey ys k).isSome := by rw [(NRel.val r k).isSome_eq, Option.isSome_map]
  unfold nput storedH
  rw [e]
  by_cases q : (atKey ys k).isSome = true
  · rw [if_pos q, if_pos q]
    clear e q
    induction r with
    | nil => exact .nil
    | @cons p q ps qs hq t ih =>
      rw [List.map_cons, List.map_cons]
      refine .cons ?_ ih
      obtain ⟨h1, h2, h3⟩ := hq
      unfold putAt
      by_cases e : p.1 = k
      · rw [if_pos e, if_pos (h1.symm.trans e)]; exact ⟨h1, h2, rv⟩
      · rw [if_neg e, if_neg (fun z => e (h1.trans z))]; exact ⟨h1, h2, h3⟩
  · rw [if_neg q, if_neg q]
    exact Paired.snoc r ⟨rfl, rfl, rv⟩
theorem nput_len (xs : List NX) (k : NestedKey) (b : Addr) (v : V) : (nput xs k b v).length ≤ xs.length + 1 := by
  unfold nput; split <;> simp
theorem nput_keys {k : NestedKey} {b : Addr} {v : V} (hk : ∀ x ∈ xs, NkV H x.1 (.ref x.2.1) ∧ x.1.depth ≤ 8) (hb : NkV H k (.ref b)) (d : k.depth ≤ 8) : ∀ x ∈ nput xs k b v, NkV H x.1 (.ref x.2.1) ∧ x.1.depth ≤ 8 := by
  intro x hx
  unfold nput at hx
  split at hx
  · obtain ⟨y, hy, e⟩ := List.mem_map.mp hx
    subst e
    split
    · exact hk y hy
    · exact hk y hy
  · rcases List.mem_append.mp hx with hx | hx
    · exact hk x hx
    · cases List.mem_singleton.mp hx; exact ⟨hb, d⟩
theorem NdAt.keep (N : NdAt P w H a xs) (ha : H' a = H a) (ht : ∀ b ys, H b = some (.tup ys) → H' b = some (.tup ys)) : NdAt P w H' a xs :=
  ⟨ha.trans N.here, fun x hx => ⟨NkV.keeps ht _ _ (N.keys x hx).1, (N.keys x hx).2⟩⟩
end

theorem nk_key {P : Program} {w : World} {H : Hp} {h : Heap} {k : NestedKey} {p : Addr} (ok : HOk P w H h) (kp : NkV H k (.ref p)) (d : k.depth ≤ 8) : (nestedKind P w).is h k p := ⟨nk_is ok k _ _ kp rfl, d⟩
section
variable {X : Cx}
/-- y in d -/
def uNIn (P : Program) (w : World) (neg : Bool) : R2 := fun y x H Q => ∃ a p k xs, x = .ref a ∧ y = .ref p ∧ NdAt P w H a xs ∧ NkV H k (.ref p) ∧ k.depth ≤ 8 ∧ Q (.bl (neg != (nval xs k).isSome)) H
theorem NdAt.isSome {P : Program} {w : World} {k : NestedKey} {xs : List NX} {ys : List (NestedKey × Addr × Value)} (r : Paired NRel xs ys) : (atKey ys k).isSome = (nval xs k).isSome := by
  rw [(NRel.val r k).isSome_eq, Option.isSome_map]
theorem ou_nin (hu : X.A.units + 64 < cLine) : OpR X (compareOp .In) (uNIn X.prog X.w false) := by
  intro pins s σ H y x v u Q I ry rx h
  obtain ⟨a, p, k, xs, rfl, rfl, N, kp, d, q⟩ := h
  cases rx; cases ry
  obtain ⟨z, l, ys, r, D⟩ := N.get I.hok
  refine wpAny_in_heap (show X.A.units + 1 + 8 < cLine by omega) (nk_key I.hok kp d) z D ?_
  rw [NdAt.isSome (P := X.prog) (w := X.w) r]
  exact ⟨.bl _, H, I.tok _, rfl, by simpa using q⟩
theorem ou_nnotin (hu : X.A.units + 64 < cLine) : OpR X (compareOp .NotIn) (uNIn X.prog X.w true) := by
  intro pins s σ H y x v u Q I ry rx h
  obtain ⟨a, p, k, xs, rfl, rfl, N, kp, d, q⟩ := h
  cases rx; cases ry
  obtain ⟨z, l, ys, r, D⟩ := N.get I.hok
  refine wpAny_notIn_heap (show X.A.units + 1 + 8 < cLine by omega) (nk_key I.hok kp d) z D ?_
  rw [NdAt.isSome (P := X.prog) (w := X.w) r]
  exact ⟨.bl _, H, I.tok _, rfl, by simpa using q⟩
/-- d[y] -/
def uNIx (P : Program) (w : World) : R2 := fun x y H Q => ∃ a p k xs v, x = .ref a ∧ y = .ref p ∧ NdAt P w H a xs ∧ NkV H k (.ref p) ∧ k.depth ≤ 8 ∧ nval xs k = some v ∧ Q v H
theorem ix_nd (hu : X.A.units + 64 < cLine) : IxR X (uNIx X.prog X.w) := by
  intro value slice pins s σ H x y v u Q I rx ry h hs
  obtain ⟨a, p, k, xs, z, rfl, rfl, N, kp, d, e, q⟩ := h
  cases rx; cases ry
  obtain ⟨_, l, ys, r, D⟩ := N.get I.hok
  obtain ⟨w', hw, rw'⟩ := RelO.some_of (v := z) (o := (atKey ys k).map (·.2)) (by rw [← e]; exact NRel.val r k)
  obtain ⟨q2, hq2, e2⟩ := Option.map_eq_some_iff.mp hw
  refine tail_any D.typeIs PySem.F.slot_dict_getitem.lookup (wpAny_getItem_heap (show X.A.units + 1 + 8 < cLine by omega) (nk_key I.hok kp d) D hq2 ?_) hs
  rw [e2]
  exact ⟨z, H, I.tok _, rw', q⟩
/-- a dict's item by int, text, or a flat tuple -/
def uDIx : R2 := fun x y H Q => ∃ a v, x = .ref a ∧ DGet H a y (some v) ∧ Q v H
theorem ix_d (hu : X.A.units + 64 < cLine) : IxR X uDIx := by
  intro value slice pins s σ H x y v u Q I rx ry h hs
  obtain ⟨a, z, rfl, g, q⟩ := h
  cases rx
  exact tail_any (dict_typeIs I g) PySem.F.slot_dict_getitem.lookup (d_getItem (by omega) I g ry fun w' s' I' rw' => ⟨z, H, I', rw', q⟩) hs
/-- y in d, keys ints, texts, flat tuples -/
def uDIn (neg : Bool) : R2 := fun y x H Q => ∃ a o, x = .ref a ∧ DGet H a y o ∧ Q (.bl (neg != o.isSome)) H
theorem ou_din (hu : X.A.units + 64 < cLine) : OpR X (compareOp .In) (uDIn false) := by
  intro pins s σ H y x v u Q I ry rx h
  obtain ⟨a, o, rfl, g, q⟩ := h
  cases rx
  exact d_in (by omega) I g ry fun s' I' => ⟨.bl _, H, I', rfl, by simpa using q⟩
theorem ou_dnotin (hu : X.A.units + 64 < cLine) : OpR X (compareOp .NotIn) (uDIn true) := by
  intro pins s σ H y x v u Q I ry rx h
  obtain ⟨a, o, rfl, g, q⟩ := h
  cases rx
  exact d_notIn (by omega) I g ry fun s' I' => ⟨.bl _, H, I', rfl, by simpa using q⟩
/-- d[y] = v -/
def uNSet (P : Program) (w : World) : V → V → V → Hp → (Hp → Prop) → Prop := fun o i v H Q => ∃ a p k xs, o = .ref a ∧ i = .ref p ∧ NdAt P w H a xs ∧ NkV H k (.ref p) ∧ k.depth ≤ 8 ∧ xs.length < sizeLine ∧ Q (upd H a (NdO P w a (nput xs k p v)))
theorem set_nd (hu : X.A.units + 64 < cLine) : PSet X (uNSet X.prog X.w) := by
  intro pins s σ H o i v ov iv u Q I ro ri rv h
  obtain ⟨a, p, k, xs, rfl, rfl, N, kp, d, few, q⟩ := h
  cases ro; cases ri
  obtain ⟨z, l, ys, r, D⟩ := N.get I.hok
  have hl : (nput xs k p v).length ≤ sizeLine := Nat.le_trans (nput_len xs k p v) few
  refine wpAny_setItem_heap (hsz := by rw [← Paired.length r]; exact l) (show X.A.units + 1 + 8 < cLine by omega) (nk_key I.hok kp d) D fun h' D' hs => ?_
  have he : ∃ q, h'.get? a = some q := let ⟨q, _, _, hq, _⟩ := D'; ⟨q, hq⟩
  exact ⟨_, d_write I (by rw [N.here]; exact True.intro) hs he (ndO_ok z hl (NRel.put r k p rv) D'), q⟩
def uDSet : V → V → V → Hp → (Hp → Prop) → Prop := fun o i v H Q => ∃ a H', o = .ref a ∧ DPut H a i v H' ∧ Q H'
theorem set_d (hu : X.A.units + 64 < cLine) : PSet X uDSet := by
  intro pins s σ H o i v ov iv u Q I ro ri rv h
  obtain ⟨a, H', rfl, g, q⟩ := h
  cases ro
  exact d_setItem (by omega) I g ri rv fun s' I' => ⟨H', I', q⟩
theorem PSet.or {X : Cx} {t t' : TSet} (h : PSet X t) (h' : PSet X t') : PSet X (fun o i v H Q => t o i v H Q ∨ t' o i v H Q) := by
  intro pins s σ H o i v ov iv u Q I ro ri rv q
  rcases q with q | q
  · exact h pins s σ H o i v ov iv u Q I ro ri rv q
  · exact h' pins s σ H o i v ov iv u Q I ro ri rv q
/-- {} with nested keys to come -/
theorem nd_empty {P : Program} {w : World} {H : Hp} (h : Heap) (hb : sysModules < h.objs.size) : ObjOk P w H (h.push { cls := .type "dict", data := .dict #[] }) h.objs.size (NdO P w h.objs.size []) :=
  ndO_ok (beq_eq_false_iff_ne.mpr (Ne.symm (Nat.ne_of_lt hb))) (Nat.zero_le _) .nil (Heap.DictOfH.new h)
def uDNew (P : Program) (w : World) : TE := fun _ H Q => (∃ kind : Bool, ∀ p, H p = none → Q (.ref p) (upd H p (if kind = true then .dK [] else NdO P w p []))) ∨ (∀ p, H p = none → Q (.ref p) (upd H p (.dT [])))
theorem pe_dnew {pos : Pos} : PE X (.Dict [] [] pos) (uDNew X.prog X.w) := ⟨fun pins s σ H Q I h => by
  rcases h with ⟨kind, q⟩ | q
  · cases kind with
    | true => exact wpAny_Dict_empty ⟨.ref s.heap.objs.size, _, I.laid (a := s.heap.objs.size) (o := .dK []) (t' := s.toks) (fun _ _ q => Heap.get?_push_of_some _ q) (Nat.le_refl _) (dk_empty s.heap I.big), rfl, q _ (I.hok.fresh (Nat.le_refl _))⟩
    | false => exact wpAny_Dict_empty ⟨.ref s.heap.objs.size, _, I.laid (a := s.heap.objs.size) (o := NdO X.prog X.w s.heap.objs.size []) (t' := s.toks) (fun _ _ q => Heap.get?_push_of_some _ q) (Nat.le_refl _) (nd_empty s.heap I.big), rfl, q _ (I.hok.fresh (Nat.le_refl _))⟩
  · exact pe_dnewT.run pins s σ H Q I q⟩
/-- {k: v} with one nested key -/
def uDisp1 (P : Program) (w : World) (tk tv : TE) : TE := fun σ H Q => ∀ p, H p = none → tk σ (upd H p (NdO P w p [])) fun x H1 => tv σ H1 fun y H2 =>
  ∃ k b, x = .ref b ∧ H2 p = some (NdO P w p []) ∧ NkV H2 k (.ref b) ∧ k.depth ≤ 8 ∧ Q (.ref p) (upd H2 p (NdO P w p [(k, b, y)]))
theorem pe_disp1 {ke ve : Expr} {tk tv : TE} {pos : Pos} (hu : X.A.units + 64 < cLine) (hk : PE X ke tk) (hv : PE X ve tv)
    (shape : (evalEachOpt [some ke] X.env).zip ((evalEach [ve] X.env).map fun v => do let x ← v; standAt pos; pure x) = [(eval ke X.env, (do let x ← eval ve X.env; standAt pos; pure x))].map fun p => (some p.1, p.2) := by rfl) :
    PE X (.Dict [some ke] [ve] pos) (uDisp1 X.prog X.w tk tv) := by
  refine ⟨fun pins s σ H Q I h => ?_⟩
  have hn := I.hok.fresh (Nat.le_refl s.heap.objs.size)
  have I1 := I.laid (a := s.heap.objs.size) (o := NdO X.prog X.w s.heap.objs.size []) (h' := s.heap.push { cls := .type "dict", data := .dict #[] }) (t' := s.toks) (fun _ _ q => Heap.get?_push_of_some _ q) (Nat.le_refl _) (nd_empty s.heap I.big)
  have h1 : PPs X pos [some ke] [ve] [(tk, tv)] := pps_cons hk hv pps_nil
  have trees : pairTrees [some ke] [ve] X.env pos = [(eval ke X.env, (do let x ← eval ve X.env; standAt pos; pure x))] := by rfl
  have run := h1.run pins _ σ _ (fun ps H2 => match ps with
    | [(x, y)] => ∃ k b, x = .ref b ∧ H2 s.heap.objs.size = some (NdO X.prog X.w s.heap.objs.size []) ∧ NkV H2 k (.ref b) ∧ k.depth ≤ 8 ∧ Q (.ref s.heap.objs.size) (upd H2 s.heap.objs.size (NdO X.prog X.w s.heap.objs.size [(k, b, y)]))
    | _ => False) I1 (h _ hn)
  rw [trees] at run
  rw [arm_eval_Dict, shape, dictDisplay_pairs _ (by simp) (by simp)]
  refine wpAny_bind (wpAny_standAt (wpAny_bind (wpAny_subDictH (knd := nestedKind X.prog X.w) (show X.A.units + 8 < cLine by omega) (by simp) (thn run fun vs s2 hh => ?_))))
  obtain ⟨ps, H2, I2, rel, q⟩ := hh
  split at q
  · rename_i x y
    obtain ⟨k, b, rfl, e, kb, d, q⟩ := q
    cases rel with
    | @cons p1 q1 ps qs rr t =>
    cases t
    obtain ⟨u1, u2⟩ := q1
    obtain ⟨r1, r2⟩ := rr
    cases (show u1 = Value.ref b from r1)
    obtain ⟨z, l, ys, rr, D⟩ := NdAt.get I2.hok (xs := []) ⟨e, fun _ hx => nomatch hx⟩
    cases rr
    refine ⟨[(k, b, u2)], ⟨rfl, rfl, nk_key I2.hok kb d, True.intro⟩, D, fun h' tk' D' hs => wpAny_pure ⟨.ref s.heap.objs.size, _, ?_, rfl, q⟩⟩
    have he : ∃ q, h'.get? s.heap.objs.size = some q := let ⟨q, _, _, hq, _⟩ := D'; ⟨q, hq⟩
    exact d_write I2 (by rw [e]; exact True.intro) hs he (ndO_ok (ys := [(k, b, u2)]) z (by rw [sizeLine_eq]; exact (by decide : (1 : Nat) ≤ 16777216)) (.cons ⟨rfl, rfl, r2⟩ .nil) D')
  · exact q.elim
end
/-! sorted(t), t a tuple of ints -/
section
open PyProof.Rows
variable {P : Program} {w : World} {A : Around} {E : Value → Shared → Prop} {s : Shared}
theorem collect_tup {l : Addr} {vs : List Value} {Q : List Value → Shared → Prop} (hl : s.heap.IsTuple l vs.toArray) (hsz : vs.length ≤ sizeLine)
    (h : Q vs { s with heap := (s.heap.push (seqObj "list" #[] 0)).update s.heap.objs.size (Obj.mapSeq (· ++ vs.toArray)) }) :
    wpAny (model P w) A (collect (.ref l)) Q E s := by
  obtain ⟨o, ho, hc, n, hd⟩ := id hl
  unfold collect
  refine wpAny_bind (wpAny_runValue (codeAny_builtin entry_proto_collect' ?_))
  show wpAny _ _ (do again (.builtin "list.__iadd__" ⟨[← newList [], .ref l], []⟩)) _ _ s
  refine wpAny_bind (wpAny_newList (wpAny_pure ⟨Code.quiet_builtin _ (by decide +kernel), codeAny_builtin entry_list_iadd' ?_⟩))
  show wpAny _ _ (Builtin.List.listExtendWith (.ref s.heap.objs.size) (.ref l) (.ref s.heap.objs.size)) _ _ { s with heap := s.heap.push (seqObj "list" #[] 0) }
  unfold Builtin.List.listExtendWith
  have ho' : (s.heap.push (seqObj "list" #[] 0)).get? l = some o := Heap.get?_push_of_some _ ho
  refine wpAny_bind (wpAny_typeOf (T := "tuple") ⟨o, ho', hc⟩ ?_)
  have ht : (Value.type "tuple" == Value.type "tuple") = true := by rfl
  rw [if_pos (by rw [ht]; simp)]
  refine wpAny_bind (listItems_at ho' hd ?_)
  refine wpAny_bind (listItems_at (xs := #[]) (n := 0) (Heap.get?_push_size _ rfl) rfl ?_)
  rw [if_neg (by simp)]
  refine wpAny_bind (listUpdate_at (xs := #[]) (n := 0) (Heap.get?_push_size _ rfl) rfl ?_ (Nat.zero_le _) (by show (#[] ++ vs.toArray).size ≤ sizeLine + 1; simp only [Array.size_append, List.size_toArray, List.length_nil]; omega))
  refine wpAny_pure ?_
  show wpAny (model P w) A (do
      let o ← load s.heap.objs.size
      match o.data with
      | .seq xs _ => pure xs.toList
      | _ => unsupported "internal:collect") Q E { s with heap := (s.heap.push (seqObj "list" #[] 0)).update s.heap.objs.size (Obj.mapSeq (· ++ vs.toArray)) }
  refine wpAny_bind (wpAny_load (get?_update_seq (Heap.get?_push_size _ rfl) _) ?_)
  show wpAny _ _ (pure ((#[] : Array Value) ++ vs.toArray).toList) Q E _
  rw [show ((#[] : Array Value) ++ vs.toArray).toList = vs by simp]
  exact wpAny_pure h
theorem sorted_of_tup {l : Addr} {vs : List Value} {ns : List Int} {Q : Value → Shared → Prop} (hl : s.heap.IsTuple l vs.toArray) (hsz : vs.length ≤ sizeLine) (areI : IntsAre vs ns)
    (fin : ∀ (h' : Heap) (p : Addr) (out : Array Value) (c : Nat) (ns' : List Int), (∀ b o, s.heap.get? b = some o → h'.get? b = some o) → s.heap.objs.size ≤ p → h'.get? p = some (seqObj "list" out c) → IntsAre out.toList ns' → ns'.Perm ns → ns'.Pairwise (· ≤ ·) → Q (.ref p) { s with heap := h' }) :
    wpAny (model P w) A (call (.builtin "sorted") [.ref l]) Q E s := by
  refine Calls.call_function_entry kind_sorted plain_sorted entry_sorted (args_sorted1 _) ?_
  unfold Builtin.«sorted»
  refine wpAny_bind (m := checkCount "sorted" 1 1 _) (wpAny_pure ?_)
  refine wpAny_bind (collect_tup hl hsz ?_)
  have k1 : ∀ b o, s.heap.get? b = some o → ((s.heap.push (seqObj "list" #[] 0)).update s.heap.objs.size (Obj.mapSeq (· ++ vs.toArray))).get? b = some o := fun b o q => by
    rw [Heap.get?_update_ne _ _ _ _ (Nat.ne_of_lt (Heap.lt_size q))]
    exact Heap.get?_push_of_some _ q
  have big : s.heap.objs.size ≤ ((s.heap.push (seqObj "list" #[] 0)).update s.heap.objs.size (Obj.mapSeq (· ++ vs.toArray))).objs.size := by
    rw [Heap.size_update, size_push']; omega
  generalize (s.heap.push (seqObj "list" #[] 0)).update s.heap.objs.size (Obj.mapSeq (· ++ vs.toArray)) = h1 at k1 big ⊢
  refine wpAny_bind (wpAny_newList ?_ hsz)
  have at1 : (h1.push (seqObj "list" vs.toArray 0)).get? h1.objs.size = some (seqObj "list" vs.toArray 0) := Heap.get?_push_size _ rfl
  refine wpAny_bind (wpAny_holding (wpAny_call_entry slot_list_sort ⟨_, at1, rfl⟩ entry_list_sort
    (SrtO.list_sort_ord SrtO.swo_int at1 hsz (fun h2 => SrtO.ints_sortable areI h2) fun out z1 z2 => ⟨_, rfl, ?_⟩) (args_list_sort _)))
  obtain ⟨j1, j2, j3⟩ := SrtO.ints_out areI z1 z2
  obtain ⟨c, hc⟩ := sortedHeap_at (vs := vs) (out := out.toArray) at1
  refine wpAny_pure ⟨_, rfl, fin _ h1.objs.size out.toArray c (out.map SrtO.iv) (fun b u e => ?_) big hc (by simpa using j1) j2 j3⟩
  have q := k1 b u e
  have lt := Heap.lt_size q
  rw [sortedHeap_old (Nat.ne_of_lt lt) (by rw [size_push']; exact Nat.lt_succ_of_lt lt)]
  exact Heap.get?_push_of_some _ q
end
section
variable {X : Cx}
def rSortTup (K : PySem.W.Frag) : List V → Hp → VK → Prop := fun xs H Q => ∃ (l : Addr) (ns : List Int), xs = [.ref l] ∧ SqT K H l (ns.map V.int) ∧
  ∀ (ns' : List Int) (p : Addr), ns'.Perm ns → ns'.Pairwise (· ≤ ·) → H p = none → Q (.ref p) (upd H p (.lst (ns'.map V.int)))
theorem cu_sortTup : CallR X (.builtin "sorted") (rSortTup X.K) := by
  intro pins s σ H vs us Q I r h
  obtain ⟨l, ns, rfl, hq, q⟩ := h
  rw [Vals.ref1 r]
  obtain ⟨its, rv, p, hz⟩ := I.tuple hq
  have areI : IntsAre its ns := rv.ints
  refine sorted_of_tup (show s.heap.IsTuple l its.toArray from p) (by rw [← rv.length]; exact hz) areI fun h' p' out c ns' k big got a1 a2 a3 => ?_
  have line : (ns'.map V.int).length ≤ sizeLine := by rw [List.length_map, a2.length_eq]; rw [List.length_map] at hz; exact hz
  have new : H p' = none := I.hok.fresh big
  exact ⟨.ref p', upd H p' (.lst (ns'.map V.int)), I.laid (t' := s.toks) k big ⟨line, out.toList, c, vals_of_ints a1, got⟩, rfl, q ns' p' a2 a3 new⟩
/-- sorted(d), d a dict whose keys are ints, of any size -/
def uSortDict : List V → Hp → VK → Prop := fun xs H Q => ∃ (a : Addr) (kvs : List (L2.Key × V)) (ks : List Int), xs = [.ref a] ∧ H a = some (.dK kvs) ∧ kvs.map (·.1) = ks.map Sum.inl ∧
  ∀ (ys : List Int) (p : Addr), ys.Perm ks → ys.Pairwise (· ≤ ·) → H p = none → Q (.ref p) (upd H p (.lst (ys.map V.int)))
theorem ints_each' : ∀ {us : List Value} {ks : List Int}, us.length = ks.length → (∀ (j : Nat) (v : Value), us[j]? = some v → ∃ (x : Int) (t : _), ks[j]? = some x ∧ v = .int x t) → IntsAre us ks
  | [], [], _, _ => .nil
  | u :: us, k :: ks, hl, h => by
    obtain ⟨x, t, e1, e2⟩ := h 0 u rfl
    have e1' : k = x := Option.some.inj e1
    subst e1'
    subst e2
    refine .cons _ _ (ints_each' (by simpa using hl) fun j v e => ?_)
    obtain ⟨x, t, a, b⟩ := h (j + 1) v (by simpa using e)
    exact ⟨x, t, by simpa using a, b⟩
  | [], _ :: _, hl, _ => by simp at hl
  | _ :: _, [], hl, _ => by simp at hl
theorem cu_sortDict (hcalm : X.calm = true) : CallR X (.builtin "sorted") uSortDict := by
  intro pins s σ H xs us Q I r q
  obtain ⟨a, kvs, ks, rfl, hd, hks, q⟩ := q
  rw [Vals.ref1 r]
  obtain ⟨z, lo, vs, rel, dd⟩ := dk_rd I.hok (.inl hd)
  obtain ⟨ep, hat⟩ := dd.dictAt
  have hkeys : vs.map (·.1) = ks.map Sum.inl := rel.keys.symm.trans hks
  have hl : vs.length = ks.length := by
    have e := congrArg List.length hkeys
    rw [List.length_map, List.length_map] at e
    exact e
  have h16 : vs.length ≤ sizeLine := by rw [← rel.length]; exact z
  refine Calls.call_function_entry kind_sorted plain_sorted entry_sorted (args_sorted1 _) ?_
  unfold Builtin.«sorted»
  refine wpAny_bind (m := checkCount "sorted" 1 1 _) (wpAny_pure ?_)
  refine wpAny_bind (PySem.W.kdu_collect (A := X.A.in1) (PySem.W.kdl_dict (knd := mixKind X.prog X.w) (kvs := vs) (ep := ep) lo) (I.ok.hd hcalm) hat h16 fun h' tk acc hk hacc => ?_)
  have hal : acc.toList.length = ks.length := by rw [Array.length_toList, hacc.1, hl]
  have areI : IntsAre acc.toList ks := ints_each' hal fun j v e => by
    obtain ⟨k, x, e1, e2⟩ := hacc.2 j v (by rw [← Array.getElem?_toList]; exact e)
    have e3 : (vs.map (·.1))[j]? = some k := by rw [List.getElem?_map, e1]; rfl
    rw [hkeys, List.getElem?_map] at e3
    cases e4 : ks[j]? with
    | none => rw [e4] at e3; cases e3
    | some y =>
      rw [e4] at e3
      have e5 : Sum.inl y = k := Option.some.inj e3
      subst e5
      rcases keyIs_shape (show keyIs (Sum.inl y) v = true from e2) with ⟨i, t, ek, ev⟩ | ⟨z, t, ek, ev⟩
      · cases ek
        exact ⟨y, t, rfl, ev⟩
      · cases ek
  have I1 : Inv X pins σ H { s with heap := h', toks := tk } := I.kept hk
  have hal2 : acc.toList.length ≤ sizeLine := by rw [hal, ← hl]; exact h16
  refine wpAny_bind (wpAny_newList ?_ hal2)
  have at1 : (h'.push (seqObj "list" acc.toList.toArray 0)).get? h'.objs.size = some (seqObj "list" acc.toList.toArray 0) := Heap.get?_push_size _ rfl
  show wpAny _ _ _ _ _ { s with heap := h'.push (seqObj "list" acc.toList.toArray 0), toks := tk }
  refine wpAny_bind (wpAny_holding (wpAny_call_entry slot_list_sort ⟨_, at1, rfl⟩ entry_list_sort
    (SrtO.list_sort_ord SrtO.swo_int (s := { s with heap := h'.push (seqObj "list" acc.toList.toArray 0), toks := tk }) at1 hal2 (fun h2 => SrtO.ints_sortable areI h2) fun out z1 z2 => ⟨_, rfl, ?_⟩) (args_list_sort _)))
  obtain ⟨j1, j2, j3⟩ := SrtO.ints_out areI z1 z2
  obtain ⟨c, hc⟩ := sortedHeap_at (vs := acc.toList) (out := out.toArray) at1
  have hlen : ((out.map SrtO.iv).map V.int).length ≤ sizeLine := by
    rw [List.length_map, j2.length_eq, ← hl]; exact h16
  refine wpAny_pure ⟨_, rfl, .ref h'.objs.size, upd H h'.objs.size (.lst ((out.map SrtO.iv).map V.int)), I1.laid (t' := tk) (fun b u e => ?_) (Nat.le_refl _)
    (show ObjOk X.prog X.w _ _ _ (.lst ((out.map SrtO.iv).map V.int)) from ⟨hlen, out, c, vals_of_ints j1, hc⟩), rfl, q _ _ j2 j3 (I1.hok.fresh (Nat.le_refl _))⟩
  have hb : b < h'.objs.size := Heap.lt_size e
  rw [sortedHeap_old (Nat.ne_of_lt hb) (by rw [size_push']; exact Nat.lt_succ_of_lt hb)]
  exact Heap.get?_push_of_some _ e
end
end Hm

/-! F2: rules by syntax alone (each a choice by values), and their readings. -/
namespace Hm
open PySem PySem.Spec PyProof.Rows L2

/-! ### choices by values -/
def bAdd (K : PySem.W.Frag) : R2 := fun x y H Q => rI0 (fun i j => .int (i + j)) x y H Q ∨ rCat x y H Q ∨
  (∃ i j, x = .str i ∧ y = .str j ∧ i.length + j.length ≤ sizeLine ∧ Q (.str (i ++ j)) H) ∨ rCatA K x y H Q
def bSub : R2 := rI0 fun i j => .int (i - j)
def bMul : R2 := fun x y H Q => rI CMul (fun i j => .int (i * j)) x y H Q ∨ rI CMulW (fun i j => .int (i * j)) x y H Q ∨ rRep x y H Q
def bMod : R2 := rI (fun _ j => 0 < j) fun i j => .int (i % j)
def bDiv : R2 := fun x y H Q => rI CDiv (fun i j => .int (i / j)) x y H Q ∨ rI CDivW (fun i j => .int (i / j)) x y H Q
def bPow : R2 := rI CPow fun i j => .int (i ^ j.toNat)
def bAnd : R2 := rI0 fun i j => .int (Builtin.bitAnd i j)
def bXor : R2 := rI0 fun i j => .int (Builtin.bitXor i j)
def cEq (K : PySem.W.Frag) : R2 := fun x y H Q => rEq x y H Q ∨ rEqD K x y H Q
def cNe (K : PySem.W.Frag) : R2 := fun x y H Q => rNe x y H Q ∨ rNeD K x y H Q
def cLt (K : PySem.W.Frag) : R2 := fun x y H Q => rI0 (fun i j => .bl (decide (i < j))) x y H Q ∨
  (∃ i j, x = .str i ∧ y = .str j ∧ Q (.bl (decide (i.cps.toList < j.cps.toList))) H) ∨ rLtT K x y H Q
def cLe : R2 := rI0 fun i j => .bl (decide (i ≤ j))
def cGt : R2 := rI0 fun i j => .bl (decide (j < i))
def cGe : R2 := rI0 fun i j => .bl (decide (j ≤ i))
def cIs : R2 := fun x y H Q => (y = .non ∧ Q (.bl (decide (x = .non))) H) ∨ rIsB x y H Q
def cIsNot : R2 := fun x y H Q => (y = .non ∧ Q (.bl (!decide (x = .non))) H) ∨ rNotB x y H Q
def cIn (P : Program) (w : World) (K : PySem.W.Frag) : R2 := fun x y H Q => rIn K false x y H Q ∨ rInD K x y H Q ∨ rInS x y H Q ∨ uDIn false x y H Q ∨ uNIn P w false x y H Q
def cNotIn (P : Program) (w : World) (K : PySem.W.Frag) : R2 := fun x y H Q => rIn K true x y H Q ∨ rNotInD K x y H Q ∨ rNotInS x y H Q ∨ uDIn true x y H Q ∨ uNIn P w true x y H Q
def bIx (P : Program) (w : World) (K : PySem.W.Frag) : R2 := fun x y H Q => rIxL K x y H Q ∨ rIxT K x y H Q ∨ rIxS x y H Q ∨ uDIx x y H Q ∨ uNIx P w x y H Q
def bSet (P : Program) (w : World) : TSet := fun o i v H Q => rSetL o i v H Q ∨ uDSet o i v H Q ∨ uNSet P w o i v H Q
def kLen (K : PySem.W.Frag) : List V → Hp → VK → Prop := fun xs H Q => (∃ x n, xs = [x] ∧ LenV K x H n ∧ Q (.int n) H) ∨ (∃ a kvs, xs = [V.ref a] ∧ H a = some (.dK kvs) ∧ Q (.int kvs.length) H)
def kList (K : PySem.W.Frag) : List V → Hp → VK → Prop := fun xs H Q => (∃ p ys, xs = [.ref p] ∧ (SqL K H p ys ∨ SqT K H p ys) ∧ ∀ l, H l = none → Q (.ref l) (upd H l (.lst ys))) ∨ rListD xs H Q
def kTuple (K : PySem.W.Frag) : List V → Hp → VK → Prop := fun xs H Q => ∃ p ys, xs = [.ref p] ∧ ((SqL K H p ys ∧ ∀ l, H l = none → Q (.ref l) (upd H l (.tup ys))) ∨ (SqT K H p ys ∧ Q (.ref p) H))
def kSorted (K : PySem.W.Frag) (w : World) : List V → Hp → VK → Prop := fun xs H Q => rSortedI K xs H Q ∨ uSortSet w xs H Q ∨ rSortTup K xs H Q ∨ uSortDict xs H Q
def kMax (K : PySem.W.Frag) : List V → Hp → VK → Prop := fun xs H Q => (∃ i j, xs = [.int i, .int j] ∧ Q (.int (if j > i then j else i)) H) ∨ rMax K xs H Q
def kMin (K : PySem.W.Frag) : List V → Hp → VK → Prop := fun xs H Q => (∃ i j, xs = [.int i, .int j] ∧ Q (.int (if j < i then j else i)) H) ∨ rMin K xs H Q
def kAbs : List V → Hp → VK → Prop := fun xs H Q => ∃ i, xs = [.int i] ∧ Q (.int (if i < 0 then -i else i)) H
def kInt : List V → Hp → VK → Prop := fun xs H Q => (∃ i, xs = [.int i] ∧ Q (.int i) H) ∨ ∃ k, xs = [.bl k] ∧ Q (.int (if k then 1 else 0)) H
def tTru (K : PySem.W.Frag) (ta : TE) : TT := fun σ H Q => ta σ H fun x H' => ∃ k, TruV K x H' k ∧ Q k H'
def bSl (K : PySem.W.Frag) : V → Option Int → Option Int → Hp → VK → Prop := fun x lo hi H Q => rSlL K x lo hi H Q ∨ rSlA K x lo hi H Q
/-- (a, b) = a tuple or a list of that length -/
def gSeq (K : PySem.W.Frag) (n : Nat) (t : TGs) : TG := fun v σ H Q => gTup K n t v σ H Q ∨ gUnl K n t v σ H Q
def kInsert : V → List V → Hp → VK → Prop := fun x vs H Q => ∃ (l : Addr) (xs : List V) (i : Int) (y : V), x = .ref l ∧ vs = [.int i, y] ∧ H l = some (.lst xs) ∧ xs.length < sizeLine ∧ 0 ≤ i ∧ i < 2 ^ 63 ∧
    Q .non (upd H l (.lst (xs.take i.toNat ++ [y] ++ xs.drop i.toNat)))
def kIndex (K : PySem.W.Frag) : V → List V → Hp → VK → Prop := fun x xs H Q => rIndex K x xs H Q ∨ rIndexD K x xs H Q

def rTupIndex (K : PySem.W.Frag) : V → List V → Hp → VK → Prop := fun x xs H Q => ∃ p, ∃ ys : List Str, ∃ z j, x = .ref p ∧ xs = [.str z] ∧ SqT K H p (ys.map V.str) ∧ ys[j]? = some z ∧ (∀ m, m < j → ys[m]? ≠ some z) ∧ Q (.int (j : Nat)) H

section
variable {X : Cx}
theorem hu64 {k : Nat} {A : Around} (hr : Room k A) : A.units + 64 < cLine := hr.units
theorem hu1 {k : Nat} {A : Around} (hr : Room k A) : A.units + 1 < cLine := by have := hr.un; omega
theorem hu65 {k : Nat} {A : Around} (hr : Room k A) : A.units + 65 < cLine := by have := hr.un; omega
theorem o_add : OpR X (binaryOp .Add) (bAdd X.K) := op_add.or (op_cat.or (op_add_str.or op_catA))
theorem o_sub : OpR X (binaryOp .Sub) bSub := op_sub
theorem o_mul : OpR X (binaryOp .Mult) bMul := op_mul.or (op_mulW.or op_rep)
theorem o_mod : OpR X (binaryOp .Mod) bMod := op_mod
theorem o_div : OpR X (binaryOp .FloorDiv) bDiv := op_fdiv.or op_fdivW
theorem o_pow : OpR X (binaryOp .Pow) bPow := op_pow
theorem o_and : OpR X (binaryOp .BitAnd) bAnd := op_and
theorem o_xor : OpR X (binaryOp .BitXor) bXor := op_xor
theorem o_eq (hu : X.A.units + 64 < cLine) : OpR X (compareOp .Eq) (cEq X.K) := op_eq.or (op_eqD hu)
theorem o_ne (hu : X.A.units + 64 < cLine) : OpR X (compareOp .NotEq) (cNe X.K) := op_ne.or (op_neD hu)
theorem o_lt (hu : X.A.units + 64 < cLine) : OpR X (compareOp .Lt) (cLt X.K) := op_lt.or (op_lt_str.or (op_ltT (by omega)))
theorem o_le : OpR X (compareOp .LtE) cLe := op_le
theorem o_gt : OpR X (compareOp .Gt) cGt := op_gt
theorem o_ge : OpR X (compareOp .GtE) cGe := op_ge
theorem o_is : OpR X (compareOp .Is) cIs := op_isN.or op_isBl
theorem o_isnot : OpR X (compareOp .IsNot) cIsNot := op_notN.or op_notBl
theorem o_in (hu : X.A.units + 65 < cLine) : OpR X (compareOp .In) (cIn X.prog X.w X.K) := op_in_seq.or ((op_inD hu).or (op_inS.or ((ou_din (by omega)).or (ou_nin (by omega)))))
theorem o_notin (hu : X.A.units + 65 < cLine) : OpR X (compareOp .NotIn) (cNotIn X.prog X.w X.K) := op_notIn_seq.or ((op_notInD hu).or (op_notInS.or ((ou_dnotin (by omega)).or (ou_nnotin (by omega)))))
theorem x_ix (hu : X.A.units + 64 < cLine) : IxR X (bIx X.prog X.w X.K) := ix_list.or (ix_tup.or (ix_str.or ((ix_d hu).or (ix_nd hu))))
theorem s_set (hu : X.A.units + 64 < cLine) : PSet X (bSet X.prog X.w) := PSet.or set_list (PSet.or (set_d hu) (set_nd hu))
theorem k_len : CallR X (.builtin "len") (kLen X.K) := call_len.or call_lenD
theorem k_list (hc : X.calm = true) : CallR X (.type "list") (kList X.K) := call_list_of.or (call_list_dK hc)
theorem k_tuple : CallR X (.type "tuple") (kTuple X.K) := call_tuple_of
theorem k_sorted (hc : X.calm = true) : CallR X (.builtin "sorted") (kSorted X.K X.w) := cr_sortedI.or ((cu_sortSet hc).or (cu_sortTup.or (cu_sortDict hc)))
theorem k_set (hc : X.calm = true) : CallR X (.type "set") (uSetI X.K X.w) := cu_setI hc
theorem k_max (hc : X.calm = true) : CallR X (.builtin "max") (kMax X.K) := (call_max2 hc).or (cr_max hc)
theorem k_min (hc : X.calm = true) : CallR X (.builtin "min") (kMin X.K) := (call_min2 hc).or (cr_min hc)
theorem k_abs : CallR X (.builtin "abs") kAbs := call_abs
theorem k_int : CallR X (.type "int") kInt := call_int1
theorem k_isi : CallR X (.builtin "isinstance") (rIsi X.K) := call_isi
theorem p_tru {a : Expr} {ta : TE} (ha : PE X a ta) (he : ∀ whole, isTrue a X.env whole = (do let v ← whole; standAt a.pos; holding [v] (truthy v)) := by intro _; rfl) : PT X a (tTru X.K ta) := pt_truth ha he
theorem s_sl : SlR X (bSl X.K) := sl_list.or sl_tupA
theorem g_seq {es : List Expr} {k : Nat} {t : TGs} {n : Nat} {pos : Pos} (hc : X.calm = true) (h : PGs X es t)
    (hn : (assignEach es X.env).length = n := by rfl) (hst : (assignEach es X.env).findIdx? (·.1) = none := by rfl) : PG X (.Tuple es k pos) (gSeq X.K n t) := by
  refine ⟨fun pins s σ H v u Q I r hw => ?_⟩
  rcases hw with hw | hw
  · exact (pg_tup hc h hn hst).run pins s σ H v u Q I r hw
  · exact (pg_unl hc h hn hst).run pins s σ H v u Q I r hw
/-- what a for walks, by its value -/
def kIter (K : PySem.W.Frag) (x : V) (H : Hp) (R : It → Hp → Prop) : Prop := (∃ a, x = .ref a ∧ (∃ xs, SqL K H a xs) ∧ R (Itl K a) H) ∨ (∃ a, x = .ref a ∧ (∃ xs, SqT K H a xs) ∧ R (Itt K a) H) ∨ ∃ z, x = .str z ∧ R (Its z) H
def iAny (K : PySem.W.Frag) (tl : TE) : TI := fun σ H R => tl σ H fun x H1 => kIter K x H1 R
theorem pi_any {tg l : Expr} {tl : TE} (hl : PE X l tl) : PI X tg l (iAny X.K tl) := by
  refine ⟨fun pins s σ H R I h => thn (hl.run pins s σ H _ I h) fun v s1 ⟨x, H1, I1, r1, q1⟩ => ?_⟩
  have own : ∀ {Q : Hp}, Inv X pins σ Q s1 → ∀ b ∈ [s1.heap.objs.size], FpOk X pins Q b := fun J b hb => by
    cases List.mem_singleton.mp hb
    exact J.fpOk (Nat.le_refl _) (J.hok.fresh (Nat.le_refl _))
  rcases q1 with ⟨a, rfl, ⟨xs, hq⟩, q⟩ | ⟨a, rfl, ⟨xs, hq⟩, q⟩ | ⟨z, rfl, q⟩
  · cases r1
    obtain ⟨its, rv, p, hz⟩ := I1.list hq
    exact wpAny_pyIter_list p.isList ⟨_, [s1.heap.objs.size], _, _, H1, rfl, I1.kept (t' := s1.toks) fun b o e => Heap.get?_push_of_some _ e, turn_list a _, ⟨_, Heap.get?_push_size _ rfl, rfl, rfl⟩, own I1, q⟩
  · cases r1
    obtain ⟨its, rv, p, hz⟩ := I1.tuple hq
    exact wpAny_pyIter_tuple (show s1.heap.IsTuple a its.toArray from p) ⟨_, [s1.heap.objs.size], _, _, H1, rfl, I1.kept (t' := s1.toks) fun b o e => Heap.get?_push_of_some _ e, turn_tuple a _, ⟨_, Heap.get?_push_size _ rfl, rfl, rfl⟩, own I1, q⟩
  · obtain ⟨t, rfl⟩ := r1
    cases ha : z.cps.all (· < 128)
    · exact wpAny_pyIter_wide ha (pi_one (tk := s1.toks) I1 _ (turn_str _ z t "str_iterator" (.inr rfl)) ⟨_, Heap.get?_push_size _ rfl, rfl, rfl⟩ q)
    · exact wpAny_pyIter_ascii ha (pi_one (tk := s1.toks) I1 _ (turn_str _ z t "str_ascii_iterator" (.inl rfl)) ⟨_, Heap.get?_push_size _ rfl, rfl, rfl⟩ q)
theorem mt_kindex (hu : X.A.units + 65 < cLine) : MtR X "list.index" (kIndex X.K) := mt_index.or (mt_indexD hu)
end
/-! ### defs, methods, classes of the text, by their promises -/
structure Cal (P : Program) (w : World) (K : PySem.W.Frag) (mg : Str → Option Value) (base : Heap) (CX : CXT) (k : Nat) (x : Str) (sp : Sp) : Prop where
  ex : ∃ (f : Addr) (fd : FuncData) (ps : List Str), FnOk P w K mg base CX k f fd ps sp ∧ mg x = some (.ref f) ∧ PySem.W.keepIn K (.ref f) = true ∧ Binds K fd ps []
structure Met (P : Program) (w : World) (K : PySem.W.Frag) (mg : Str → Option Value) (base : Heap) (CX : CXT) (k : Nat) (C : Addr) (m : Str) (sp : Sp) : Prop where
  ex : ∃ (f : Addr) (fd : FuncData) (ps : List Str), Cls K C ∧ Meth K C m f ∧ FnOk P w K mg base CX k f fd ps sp ∧ Binds K fd ps []
structure Mak (P : Program) (w : World) (K : PySem.W.Frag) (mg : Str → Option Value) (base : Heap) (CX : CXT) (k : Nat) (x : Str) (C : Addr) (sp : Sp) : Prop where
  ex : ∃ (f : Addr) (fd : FuncData) (ps : List Str), Mk K C f ∧ FnOk P w K mg base CX k f fd ps sp ∧ mg x = some (.ref C) ∧ Binds K fd ps []
section
variable {X : Cx} {CX : CXT} {E : XK} {k j : Nat} {C : Addr} {x m : Str} {sp : Sp} {p pos apos : Pos} {e o : Expr} {es : List Expr} {ta : TE} {t : TA}
theorem e_call (c : Cal X.prog X.w X.K X.mg X.base CX k x sp) (hr : Room j X.A) (hk : k ≤ j) (hx : Passes CX X E) (hg : Gl X x) (ha : PA X (e :: es) t)
    (hdb : (x == ("__debug__" : Str)) = false := by decide) (he : starEach (e :: es) X.env = (false, eval e X.env) :: starEach es X.env := by rfl) (hpl : (backTo pos (starEach es X.env)).any (·.1) = false := by rfl) :
    PE X (.Call (.Name x p) (e :: es) [] pos) (tCall sp [] E t) := by
  obtain ⟨f, fd, ps, F, hm, kp, b⟩ := c.ex
  exact pe_call F (hr.mono hk) hg hm kp b .nil hx ha hdb he hpl
theorem e_call0 (c : Cal X.prog X.w X.K X.mg X.base CX k x sp) (hr : Room j X.A) (hk : k ≤ j) (hx : Passes CX X E) (hg : Gl X x) (hdb : (x == ("__debug__" : Str)) = false := by decide) :
    PE X (.Call (.Name x p) [] [] pos) (tCall sp [] E tNil) := by
  obtain ⟨f, fd, ps, F, hm, kp, b⟩ := c.ex
  exact pe_call0 F (hr.mono hk) hg hm kp b .nil hx hdb
theorem e_make (c : Mak X.prog X.w X.K X.mg X.base CX k x C sp) (hr : Room j X.A) (hk : k + 1 ≤ j) (hx : Passes CX X E) (hg : Gl X x) (ha : PA X (e :: es) t)
    (hdb : (x == ("__debug__" : Str)) = false := by decide) (he : starEach (e :: es) X.env = (false, eval e X.env) :: starEach es X.env := by rfl) (hpl : (backTo pos (starEach es X.env)).any (·.1) = false := by rfl) :
    PE X (.Call (.Name x p) (e :: es) [] pos) (tMake C sp [] E t) := by
  obtain ⟨f, fd, ps, M, F, hm, b⟩ := c.ex
  exact pe_make M F (hr.mono hk) hg hm b .nil hx ha hdb he hpl
theorem e_make0 (c : Mak X.prog X.w X.K X.mg X.base CX k x C sp) (hr : Room j X.A) (hk : k + 1 ≤ j) (hx : Passes CX X E) (hg : Gl X x) (hdb : (x == ("__debug__" : Str)) = false := by decide) :
    PE X (.Call (.Name x p) [] [] pos) (tMake C sp [] E tNil) := by
  obtain ⟨f, fd, ps, M, F, hm, b⟩ := c.ex
  exact pe_make0 M F (hr.mono hk) hg hm b .nil hx hdb
theorem e_meth {pl : Sem Bool} (c : Met X.prog X.w X.K X.mg X.base CX k C m sp) (hr : Room j X.A) (hk : k ≤ j) (hx : Passes CX X E) (he : PE X o ta) (ha : PA X (e :: es) t)
    (h1 : starEach (e :: es) X.env = (false, eval e X.env) :: starEach es X.env := by rfl) (h2 : (backTo pos (starEach es X.env)).any (·.1) = false := by rfl)
    (h3 : eval (.Call (.Attribute o m apos) (e :: es) [] pos) X.env = (do let ov ← eval o X.env; standAt apos.atName; let (f, first) ← holding [ov] (getMethod ov m pl)
                                                                          callWith pos f first (backTo pos (starEach (e :: es) X.env)) (backToKw pos (keywordEach [] X.env))) := by rfl) :
    PE X (.Call (.Attribute o m apos) (e :: es) [] pos) (tMeth C m sp [] E ta t) := by
  obtain ⟨f, fd, ps, hc, hm, F, b⟩ := c.ex
  exact pe_meth (pl := pl) he hc hm F (hr.mono hk) b .nil hx ha h1 h2 h3
theorem e_meth0 {pl : Sem Bool} (c : Met X.prog X.w X.K X.mg X.base CX k C m sp) (hr : Room j X.A) (hk : k ≤ j) (hx : Passes CX X E) (he : PE X o ta)
    (h3 : eval (.Call (.Attribute o m apos) [] [] pos) X.env = (do let ov ← eval o X.env; standAt apos.atName; let (f, first) ← holding [ov] (getMethod ov m pl)
                                                                   callWith pos f first (backTo pos (starEach [] X.env)) (backToKw pos (keywordEach [] X.env))) := by rfl) :
    PE X (.Call (.Attribute o m apos) [] [] pos) (tMeth C m sp [] E ta tNil) := by
  obtain ⟨f, fd, ps, hc, hm, F, b⟩ := c.ex
  exact pe_meth0 (pl := pl) he hc hm F (hr.mono hk) b .nil hx h3
end
end Hm

/-! F3: readings, one lemma a head. -/
namespace Hm
open PySem L2

/-! ### heaps -/
/-- what stood stands, but for the cells of M -/
def Keep (M : Addr → Prop) (H H' : Hp) : Prop := ∀ a o, ¬ M a → H a = some o → H' a = some o
abbrev Nil : Addr → Prop := fun _ => False
theorem Keep.refl {M : Addr → Prop} {H : Hp} : Keep M H H := fun _ _ _ h => h
theorem Keep.trans {M : Addr → Prop} {H H1 H2 : Hp} (a : Keep M H H1) (b : Keep M H1 H2) : Keep M H H2 := fun c o n h => b c o n (a c o n h)
theorem Keep.mono {M N : Addr → Prop} {H H' : Hp} (k : Keep M H H') (s : ∀ a, M a → N a) : Keep N H H' := fun a o n h => k a o (fun z => n (s a z)) h
theorem Keep.weak {M : Addr → Prop} {H H' : Hp} (k : Keep Nil H H') : Keep M H H' := k.mono fun _ z => z.elim
theorem Keep.new {M : Addr → Prop} {H H' : Hp} {p : Addr} {o : HO} (k : Keep M H H') (hp : H' p = none) : Keep M H (upd H' p o) := fun a u n h => by
  rw [upd_ne (ne_of_none (k a u n h) hp)]; exact k a u n h
theorem Keep.alloc {M : Addr → Prop} {H : Hp} {p : Addr} {o : HO} (hp : H p = none) : Keep M H (upd H p o) := Keep.refl.new hp
theorem Keep.set {M : Addr → Prop} {H H' : Hp} {p : Addr} {o : HO} (k : Keep M H H') (hp : M p) : Keep M H (upd H' p o) := fun a u n h => by
  rw [upd_ne (fun z => n (by rw [z]; exact hp))]; exact k a u n h
/-- a cell that was new at the start may be forgotten -/
theorem Keep.hide {M : Addr → Prop} {H H' : Hp} {l : Addr} (k : Keep (fun a => M a ∨ a = l) H H') (hl : H l = none) : Keep M H H' := fun a o n h =>
  k a o (fun z => z.elim n fun e => by rw [e, hl] at h; cases h) h
theorem Keep.setN {M : Addr → Prop} {H H' : Hp} {p : Addr} {o : HO} (k : Keep M H H') (hp : H p = none) : Keep M H (upd H' p o) := fun a u n h => by
  rw [upd_ne (fun z => by rw [z, hp] at h; cases h)]; exact k a u n h
theorem Keep.get {M : Addr → Prop} {H H' : Hp} {a : Addr} {o : HO} (k : Keep M H H') (n : ¬ M a) (h : H a = some o) : H' a = some o := k a o n h
theorem is_upd {H : Hp} {p a : Addr} {o : HO} {v : Option HO} (e : upd H p o a = v) : upd H p o a = v := e
theorem upd_at {H : Hp} {p : Addr} {o o' : HO} (e : o = o') : upd H p o p = some o' := by rw [upd_same, e]
theorem get_new {H : Hp} {a p : Addr} {o u : HO} (hp : H p = none) (h : H a = some o) : upd H p u a = some o := by rw [upd_ne (ne_of_none h hp)]; exact h
theorem get_set {H : Hp} {a p : Addr} {o u : HO} (n : a ≠ p) (h : H a = some o) : upd H p u a = some o := by rw [upd_ne n]; exact h
theorem get_setK {H : Hp} {a p : Addr} {o u u0 : HO} (hp : H p = some u0) (h : H a = some o) (d : o ≠ u0) : upd H p u a = some o := get_set (ne_of h hp d) h
theorem ne_old {H : Hp} {a p : Addr} {o : HO} (hp : H p = none) (h : H a = some o) : a ≠ p := ne_of_none h hp
theorem ne_new {H : Hp} {a p : Addr} {o : HO} (hp : H p = none) (h : H a = some o) : p ≠ a := (ne_of_none h hp).symm
theorem none_of_upd {H : Hp} {a p : Addr} {o : HO} (h : upd H p o a = none) : H a = none := by
  unfold upd at h; split at h
  · cases h
  · exact h
theorem none_ne {H : Hp} {a p : Addr} {o : HO} (h : upd H p o a = none) : a ≠ p := fun z => by rw [z, upd_same] at h; cases h
theorem none_ne' {H : Hp} {a p : Addr} {o : HO} (h : upd H p o a = none) : p ≠ a := (none_ne h).symm

theorem seq_keep {K : PySem.W.Frag} {H H' : Hp} {a : Addr} {xs : List V} (k : Keep Nil H H') (h : SqL K H a xs) : SqL K H' a xs := Same.seq (fun b o e => k b o (fun z => z) e) h
theorem seq_new {K : PySem.W.Frag} {H : Hp} {a p : Addr} {o : HO} {xs : List V} (hp : H p = none) (h : SqL K H a xs) : SqL K (upd H p o) a xs := seq_keep (Keep.alloc hp) h
theorem keep_none {H H' : Hp} {p : Addr} (k : Keep Nil H H') (h : H' p = none) : H p = none := by
  cases e : H p with
  | none => rfl
  | some o => rw [k p o (fun z => z) e] at h; cases h
section
variable {P : Program} {w : World} {K : PySem.W.Frag} {σ : St} {H : Hp} {Q : VK} {D : Ends} {C : Addr} {E : XK} {sp : Sp} {f m : Str}
variable {t u tb : TS} {te ta td tv : TE} {tt : TT} {tr : TA} {g : TG} {i j : Nat} {v x y : V} {r : R2}

/-! ### constants of the text -/
theorem gint {mg : Str → Option Value} {x : Str} {i : Int} (h : ∃ t, mg x = some (.int i t)) : ∃ u, mg x = some u ∧ RelV (.int i) u := by
  obtain ⟨t, e⟩ := h
  exact ⟨_, e, t, rfl⟩
theorem gstr {mg : Str → Option Value} {x z : Str} (h : ∃ t, mg x = some (.str z t)) : ∃ u, mg x = some u ∧ RelV (.str z) u := by
  obtain ⟨t, e⟩ := h
  exact ⟨_, e, t, rfl⟩
/-! ### statements -/
theorem absQ {S : Hp → Prop} {v : V} (h : S H) (k : ∀ HT, S HT → Q v HT) : Q v H := k H h
theorem absS {S : Hp → Prop} (h : S H) (k : ∀ HT, S HT → t D σ HT) : t D σ H := k H h

theorem absT {S : Hp → Prop} {R : Bool → Hp → Prop} (h : S H) (k : ∀ HT, S HT → tt σ HT R) : tt σ H R := k H h
theorem absE {S : Hp → Prop} (h : S H) (k : ∀ HT, S HT → te σ HT Q) : te σ H Q := k H h
theorem r_seq (h : t { D with nx := u D } σ H) : tSeq t u D σ H := h
theorem r_nx {n b c : L2.St → Hp → Prop} {rt : VK} (h : n σ H) : (Ends.mk n rt b c).nx σ H := h
theorem r_rt {n b c : L2.St → Hp → Prop} {rt : VK} (h : rt v H) : (Ends.mk n rt b c).rt v H := h
theorem r_bk {n b c : L2.St → Hp → Prop} {rt : VK} (h : b σ H) : (Ends.mk n rt b c).bk σ H := h
theorem r_ct {n b c : L2.St → Hp → Prop} {rt : VK} (h : c σ H) : (Ends.mk n rt b c).ct σ H := h
theorem r_next (h : D.nx σ H) : tNext D σ H := h
theorem r_asg (h : te σ H fun x H1 => g x σ H1 D.nx) : tAsg te g D σ H := h
theorem r_gname {Q : St → Hp → Prop} (h : Q (σ.set i (some v)) H) : gName i v σ H Q := h
theorem r_drop (h : te σ H fun _ H1 => D.nx σ H1) : tDrop te D σ H := h
theorem r_ret (h : te σ H D.rt) : tRet te D σ H := h
theorem r_if (h : tt σ H fun b H1 => if b = true then t D σ H1 else u D σ H1) : tIfS tt t u D σ H := h
theorem r_brk (h : D.bk σ H) : tBreak D σ H := h
theorem r_cont (h : D.ct σ H) : tCont D σ H := h
theorem r_par {tas : TA} (h : tas σ H fun vs H1 => ∃ v w, vs = [v, w] ∧ D.nx ((σ.set i (some v)).set j (some w)) H1) : tPar i j tas D σ H := h
theorem r_par2 {v w : V} {R : V → V → Prop} (h : R v w) : ∃ v' w', [v, w] = [v', w'] ∧ R v' w' := ⟨v, w, rfl, h⟩
/-! ### tests -/
def kB (x : V) (R : Bool → Prop) : Prop := ∃ k, x = .bl k ∧ R k
theorem r_test {R : Bool → Hp → Prop} (h : te σ H fun x H' => kB x fun k => R k H') : tTest te σ H R := h
theorem r_kB {b : Bool} {R : Bool → Prop} (h : R b) : kB (.bl b) R := ⟨b, rfl, h⟩
theorem r_and {t1 t2 : TT} {R : Bool → Hp → Prop} (h : t1 σ H fun c H1 => if c = true then t2 σ H1 R else R false H1) : tAnd t1 t2 σ H R := h
theorem r_or {t1 t2 : TT} {R : Bool → Hp → Prop} (h : t1 σ H fun c H1 => if c = true then R true H1 else t2 σ H1 R) : tOr t1 t2 σ H R := h
theorem r_not {t1 : TT} {R : Bool → Hp → Prop} (h : t1 σ H fun c H1 => R (!c) H1) : tNot t1 σ H R := h
theorem r_tru {R : Bool → Hp → Prop} (h : te σ H fun x H' => ∃ k, TruV K x H' k ∧ R k H') : tTru K te σ H R := h
theorem r_tru_bl {b : Bool} {R : Bool → Prop} (h : R b) : ∃ k, TruV K (.bl b) H k ∧ R k := ⟨b, rfl, h⟩
theorem r_ite_tt {A B : Prop} (h : A) : if true = true then A else B := by rw [if_pos rfl]; exact h
theorem r_ite_ff {A B : Prop} (h : B) : if false = true then A else B := by rw [if_neg Bool.false_ne_true]; exact h
theorem r_ite {p A B : Prop} [Decidable p] (h1 : p → A) (h2 : ¬ p → B) : if decide p = true then A else B := by
  by_cases h : p
  · rw [if_pos (decide_eq_true h)]; exact h1 h
  · rw [if_neg (by simp [h])]; exact h2 h
theorem r_iteT' {p A B : Prop} [Decidable p] (c : p) (h : A) : if decide p = true then A else B := by rw [if_pos (decide_eq_true c)]; exact h
theorem r_iteF' {p A B : Prop} [Decidable p] (c : ¬ p) (h : B) : if decide p = true then A else B := by rw [if_neg (by simp [c])]; exact h
theorem r_iteNT' {p A B : Prop} [Decidable p] (c : ¬ p) (h : A) : if (!decide p) = true then A else B := by rw [if_pos (by simp [c])]; exact h
theorem r_iteNF' {p A B : Prop} [Decidable p] (c : p) (h : B) : if (!decide p) = true then A else B := by rw [if_neg (by simp [c])]; exact h
theorem r_ite_nt {A B : Prop} (h : B) : if (!true) = true then A else B := by rw [if_neg (by simp)]; exact h
theorem r_ite_nf {A B : Prop} (h : A) : if (!false) = true then A else B := by rw [if_pos (by simp)]; exact h
theorem r_iteN {p A B : Prop} [Decidable p] (h1 : ¬ p → A) (h2 : p → B) : if (!decide p) = true then A else B := by
  by_cases h : p
  · rw [if_neg (by simp [h])]; exact h2 h
  · rw [if_pos (by simp [h])]; exact h1 h
theorem r_iteB {b : Bool} {A B : Prop} (h1 : b = true → A) (h2 : b = false → B) : if b = true then A else B := by
  cases b
  · exact r_ite_ff (h2 rfl)
  · exact r_ite_tt (h1 rfl)
theorem r_iteNB {b : Bool} {A B : Prop} (h1 : b = false → A) (h2 : b = true → B) : if (!b) = true then A else B := by
  cases b
  · exact r_ite_tt (h1 rfl)
  · exact r_ite_ff (h2 rfl)
theorem r_ite_if {b : Bool} {A B : Prop} (hb : b = true) (h : A) : if b = true then A else B := by rw [if_pos hb]; exact h
theorem r_ite_else {b : Bool} {A B : Prop} (hb : b = false) (h : B) : if b = true then A else B := by rw [hb, if_neg Bool.false_ne_true]; exact h
/-! ### values -/
theorem r_var (h : σ[i]? = some (some v)) (k : Q v H) : tVar i σ H Q := ⟨v, h, k⟩
theorem r_c (k : Q v H) : tC v σ H Q := k
theorem r_op (k : ta σ H fun x H1 => te σ H1 fun y H2 => r x y H2 Q) : tOp r ta te σ H Q := k
theorem r_un {q : V → Hp → VK → Prop} (k : ta σ H fun x H1 => q x H1 Q) : tUn q ta σ H Q := k
theorem r_rU {gI : Int → V} {z : Int} (k : Q (gI z) H) : rU gI (.int z) H Q := ⟨z, rfl, k⟩
theorem r_nil {R : List V → Hp → Prop} (k : R [] H) : tNil σ H R := k
theorem r_cons {R : List V → Hp → Prop} (k : te σ H fun x H1 => tr σ H1 fun xs H2 => R (x :: xs) H2) : tCons te tr σ H R := k
theorem r_cb {q : List V → Hp → VK → Prop} (k : tr σ H fun vs H1 => q vs H1 Q) : tCB q tr σ H Q := k
theorem r_call (k : tr σ H fun vs H1 => sp vs H1 Q E) : tCall sp [] E tr σ H Q := by
  have e : (fun vs H1 => sp (vs ++ []) H1 Q E) = fun vs H1 => sp vs H1 Q E := by funext vs H1; rw [List.append_nil]
  show tr σ H fun vs H1 => sp (vs ++ []) H1 Q E
  rw [e]; exact k
def kMeth (C : Addr) (m : Str) (sp : Sp) (E : XK) (tr : TA) (σ : St) (x : V) (H : Hp) (Q : VK) : Prop := ∃ a dx fs, x = .ref a ∧ H a = some (.ins C dx fs) ∧ fs.lookup m = none ∧ tr σ H fun vs H2 => sp (x :: vs) H2 Q E
theorem r_meth (k : ta σ H fun x H1 => kMeth C m sp E tr σ x H1 Q) : tMeth C m sp [] E ta tr σ H Q := by
  have e : ∀ x, (fun vs H1 => sp (x :: (vs ++ [])) H1 Q E) = fun vs H1 => sp (x :: vs) H1 Q E := fun x => by funext vs H1; rw [List.append_nil]
  show ta σ H fun x H1 => ∃ a dx fs, x = .ref a ∧ H1 a = some (.ins C dx fs) ∧ fs.lookup m = none ∧ tr σ H1 fun vs H2 => sp (x :: (vs ++ [])) H2 Q E
  simp only [e]; exact k
theorem r_kmeth {a dx : Addr} {fs : List (Str × V)} (h : H a = some (.ins C dx fs)) (l : fs.lookup m = none) (k : tr σ H fun vs H2 => sp (.ref a :: vs) H2 Q E) : kMeth C m sp E tr σ (.ref a) H Q := ⟨a, dx, fs, rfl, h, l, k⟩
theorem r_make (k : tr σ H fun vs H1 => ∀ x dx, H1 x = none → H1 dx = none → dx ≠ x → sp (.ref x :: vs) (upd (upd H1 dx (.own x)) x (.ins C dx [])) (fun v H2 => v = .non ∧ Q (.ref x) H2) E) : tMake C sp [] E tr σ H Q := by
  have e : ∀ (x : Addr) (S : VK), (fun vs H1 => sp (.ref x :: (vs ++ [])) H1 S E) = fun vs H1 => sp (.ref x :: vs) H1 S E := fun x S => by funext vs H1; rw [List.append_nil]
  show tr σ H fun vs H1 => ∀ x dx, H1 x = none → H1 dx = none → dx ≠ x → sp (.ref x :: (vs ++ [])) (upd (upd H1 dx (.own x)) x (.ins C dx [])) (fun v H2 => v = .non ∧ Q (.ref x) H2) E
  simp only [List.append_nil]; exact k
def kFld (K : PySem.W.Frag) (f : Str) (x : V) (H : Hp) (Q : VK) : Prop := ∃ a C dx fs v, x = .ref a ∧ H a = some (.ins C dx fs) ∧ Cls K C ∧ NoAttr K C f ∧ fs.lookup f = some v ∧ Q v H
theorem r_fld (k : ta σ H fun x H1 => kFld K f x H1 Q) : tFld K ta f σ H Q := k
theorem r_kfld {a dx : Addr} {fs : List (Str × V)} (h : H a = some (.ins C dx fs)) (c : Cls K C) (n : NoAttr K C f) (l : fs.lookup f = some v) (k : Q v H) : kFld K f (.ref a) H Q := ⟨a, C, dx, fs, v, rfl, h, c, n, l, k⟩
def kSFld (K : PySem.W.Frag) (f : Str) (x y : V) (H : Hp) (R : Hp → Prop) : Prop := ∃ a C dx fs, x = .ref a ∧ H a = some (.ins C dx fs) ∧ Cls K C ∧ NoAttr K C f ∧ fs.length < 1000 ∧ R (upd H a (.ins C dx (putF f y fs)))
theorem r_sfld (k : tv σ H fun y H1 => ta σ H1 fun x H2 => kSFld K f x y H2 fun H3 => D.nx σ H3) : sFld K ta tv f D σ H := k
theorem r_ksfld {a dx : Addr} {fs : List (Str × V)} {R : Hp → Prop} (h : H a = some (.ins C dx fs)) (c : Cls K C) (n : NoAttr K C f) (l : fs.length < 1000) (k : R (upd H a (.ins C dx (putF f y fs)))) : kSFld K f (.ref a) y H R := ⟨a, C, dx, fs, rfl, h, c, n, l, k⟩
def kTup (xs : List V) (H : Hp) (Q : VK) : Prop := xs.length ≤ sizeLine ∧ ∀ p, H p = none → Q (.ref p) (upd H p (.tup xs))
def kLst (xs : List V) (H : Hp) (Q : VK) : Prop := xs.length ≤ sizeLine ∧ ∀ p, H p = none → Q (.ref p) (upd H p (.lst xs))
theorem r_tup (k : tr σ H fun xs H1 => kTup xs H1 Q) : tTup tr σ H Q := k
theorem r_lst (k : tr σ H fun xs H1 => kLst xs H1 Q) : tLst tr σ H Q := k
theorem few {n : Nat} (h : n ≤ 100) : n ≤ sizeLine := by rw [sizeLine_eq]; omega
theorem few1 {n : Nat} (h : n ≤ 100000) : n < sizeLine := by rw [sizeLine_eq]; omega
theorem few2 {n : Nat} (h : n ≤ 100000) : n ≤ sizeLine := by rw [sizeLine_eq]; omega
theorem r_ktup {xs : List V} (l : xs.length ≤ 100) (k : ∀ p, H p = none → Q (.ref p) (upd H p (.tup xs))) : kTup xs H Q := ⟨few l, k⟩
theorem r_klst {xs : List V} (l : xs.length ≤ 100) (k : ∀ p, H p = none → Q (.ref p) (upd H p (.lst xs))) : kLst xs H Q := ⟨few l, k⟩
theorem r_sl {q : V → Option Int → Option Int → Hp → VK → Prop} {tl th : TO} (k : te σ H fun x H1 => tl σ H1 fun l H2 => th σ H2 fun u H3 => q x l u H3 Q) : tSl q te tl th σ H Q := k
theorem r_nopart {R : Option Int → Hp → Prop} (k : R none H) : tNoPart σ H R := k
def kI (x : V) (R : Int → Prop) : Prop := ∃ i, x = .int i ∧ R i
theorem r_part {R : Option Int → Hp → Prop} (k : te σ H fun x H1 => kI x fun i => R (some i) H1) : tPart te σ H R := k
theorem r_kI {z : Int} {R : Int → Prop} (h : R z) : kI (.int z) R := ⟨z, rfl, h⟩
def kBM (K : PySem.W.Frag) (T : String) (q : V → List V → Hp → VK → Prop) (tr : TA) (σ : St) (x : V) (H : Hp) (Q : VK) : Prop := tyV K T x H ∧ tr σ H fun xs H2 => q x xs H2 Q
theorem r_bm {T : String} {q : V → List V → Hp → VK → Prop} (k : ta σ H fun x H1 => kBM K T q tr σ x H1 Q) : tBM K T q ta tr σ H Q := k
theorem r_bm0 {T : String} {q : V → List V → Hp → VK → Prop} (k : ta σ H fun x H1 => kBM K T q tNil σ x H1 Q) : tBM0 K T q ta σ H Q := k
theorem r_kbm_l {q : V → List V → Hp → VK → Prop} {l : Addr} {xs : List V} (h : H l = some (.lst xs)) (k : tr σ H fun xs H2 => q (.ref l) xs H2 Q) : kBM K "list" q tr σ (.ref l) H Q := ⟨.inl ⟨rfl, xs, SqL.of h⟩, k⟩
theorem r_revL {l : Addr} {xs : List V} (k : te σ H fun x H1 => x = .ref l ∧ H1 l = some (.lst xs) ∧ ∀ p, H1 p = none → Q (.ref p) (upd H1 p (.lst xs.reverse))) (mono : ∀ S S' : VK, (∀ x H, S x H → S' x H) → te σ H S → te σ H S') : tRevL K te σ H Q :=
  mono _ _ (fun x H1 h => ⟨l, xs, h.1, SqL.of h.2.1, h.2.2⟩) k
def kRev (K : PySem.W.Frag) (x : V) (H : Hp) (Q : VK) : Prop := ∃ a xs, x = .ref a ∧ SqL K H a xs ∧ ∀ p, H p = none → Q (.ref p) (upd H p (.lst xs.reverse))
theorem r_rev (k : te σ H fun x H1 => kRev K x H1 Q) : tRevL K te σ H Q := k
theorem r_krev {l : Addr} {xs : List V} (h : H l = some (.lst xs)) (k : ∀ p, H p = none → Q (.ref p) (upd H p (.lst xs.reverse))) : kRev K (.ref l) H Q := ⟨l, xs, rfl, SqL.of h, k⟩
def kNotV (x : V) (R : Bool → Prop) : Prop := kB x R
theorem r_notV (k : ta σ H fun x H1 => kB x fun b => Q (.bl (!b)) H1) : tNotV ta σ H Q := k
theorem r_andV (k : ta σ H fun x H1 => kB x fun b => if b = true then te σ H1 Q else Q (.bl false) H1) : tAndV ta te σ H Q := k
theorem r_orV (k : ta σ H fun x H1 => kB x fun b => if b = true then Q (.bl true) H1 else te σ H1 Q) : tOrV ta te σ H Q := k
theorem r_chain {r' : R2} {tc : TE} (k : ta σ H fun x H1 => te σ H1 fun y H2 => r x y H2 fun z H3 => kB z fun b => if b = true then tc σ H3 fun w' H4 => r' y w' H4 Q else Q (.bl false) H3) : tChain r r' ta te tc σ H Q := k
theorem r_gsub {tsv : TSet} {R : St → Hp → Prop} (k : ta σ H fun o H1 => te σ H1 fun i H2 => tsv o i v H2 fun H3 => R σ H3) : gSub ta te tsv v σ H R := k
/-! ### operators by values -/
variable {a b : Int} {l l' p q : Addr} {xs zs : List V}
theorem v_add (k : Q (.int (a + b)) H) : bAdd K (.int a) (.int b) H Q := .inl ⟨a, b, rfl, rfl, k⟩
theorem v_addL (h1 : H l = some (.lst xs)) (h2 : H l' = some (.lst zs)) (n : xs.length + zs.length ≤ sizeLine) (k : ∀ p, H p = none → Q (.ref p) (upd H p (.lst (xs ++ zs)))) : bAdd K (.ref l) (.ref l') H Q := .inr (.inl ⟨l, l', xs, zs, rfl, rfl, h1, h2, n, k⟩)
theorem v_addS {s z : Str} (n : s.length + z.length ≤ sizeLine) (k : Q (.str (s ++ z)) H) : bAdd K (.str s) (.str z) H Q := .inr (.inr (.inl ⟨s, z, rfl, rfl, n, k⟩))
theorem v_addT (h1 : H l = some (.tup xs)) (h2 : H l' = some (.tup zs)) (n : xs.length + zs.length ≤ sizeLine) (k : ∀ p H', H' p = some (.tup (xs ++ zs)) → Keep Nil H H' → Q (.ref p) H') : bAdd K (.ref l) (.ref l') H Q := by
  refine .inr (.inr (.inr ⟨l, l', xs, zs, rfl, rfl, SqT.of h1, SqT.of h2, n, fun e => ?_, fun _ e => ?_, fun _ _ p hp => k p _ upd_same (Keep.alloc hp)⟩))
  · subst e; exact k l' H (by simpa using h2) Keep.refl
  · subst e; exact k l H (by simpa using h1) Keep.refl
theorem v_sub (k : Q (.int (a - b)) H) : bSub (.int a) (.int b) H Q := ⟨a, b, rfl, rfl, k⟩
theorem v_mul (n : -(2 ^ 64) < a ∧ a < 2 ^ 64) (k : Q (.int (a * b)) H) : bMul (.int a) (.int b) H Q := .inl ⟨a, b, rfl, rfl, .inl n, k⟩
theorem v_mulR (n : -(2 ^ 64) < b ∧ b < 2 ^ 64) (k : Q (.int (a * b)) H) : bMul (.int a) (.int b) H Q := .inl ⟨a, b, rfl, rfl, .inr n, k⟩
theorem v_mulW (n : CMulW a b) (k : Q (.int (a * b)) H) : bMul (.int a) (.int b) H Q := .inr (.inl ⟨a, b, rfl, rfl, n, k⟩)
theorem v_mulL (h : H l = some (.lst xs)) (n : -(2 ^ 63) ≤ a ∧ a < 2 ^ 63 ∧ xs.length * a.toNat ≤ sizeLine) (k : ∀ p, H p = none → Q (.ref p) (upd H p (.lst (List.replicate a.toNat xs).flatten))) : bMul (.ref l) (.int a) H Q :=
  .inr (.inr ⟨l, a, xs, rfl, rfl, h, n.1, n.2.1, n.2.2, k⟩)
theorem v_mod (n : 0 < b) (k : Q (.int (a % b)) H) : bMod (.int a) (.int b) H Q := ⟨a, b, rfl, rfl, n, k⟩
theorem v_div (n : 0 < b ∧ b < 1073741824) (k : Q (.int (a / b)) H) : bDiv (.int a) (.int b) H Q := .inl ⟨a, b, rfl, rfl, n, k⟩
theorem v_divW (n : CDivW a b) (k : Q (.int (a / b)) H) : bDiv (.int a) (.int b) H Q := .inr ⟨a, b, rfl, rfl, n, k⟩
theorem v_pow (n : CPow a b) (k : Q (.int (a ^ b.toNat)) H) : bPow (.int a) (.int b) H Q := ⟨a, b, rfl, rfl, n, k⟩
theorem v_eq (k : Q (.bl (decide (a = b))) H) : cEq K (.int a) (.int b) H Q := .inl ⟨rfl, by
  have e : decide (V.int a = V.int b) = decide (a = b) := by
    by_cases h : a = b
    · subst h; simp
    · rw [decide_eq_false h, decide_eq_false (fun z => h (V.int.inj z))]
  rw [e]; exact k⟩
theorem v_eqS {s z : Str} (k : Q (.bl (decide (s = z))) H) : cEq K (.str s) (.str z) H Q := .inl ⟨rfl, by
  have e : decide (V.str s = V.str z) = decide (s = z) := by
    by_cases h : s = z
    · subst h; simp
    · rw [decide_eq_false h, decide_eq_false (fun z => h (V.str.inj z))]
  rw [e]; exact k⟩
theorem v_ne (k : Q (.bl (!decide (a = b))) H) : cNe K (.int a) (.int b) H Q := .inl ⟨rfl, by
  have e : decide (V.int a = V.int b) = decide (a = b) := by
    by_cases h : a = b
    · subst h; simp
    · rw [decide_eq_false h, decide_eq_false (fun z => h (V.int.inj z))]
  rw [e]; exact k⟩
theorem v_neS {s z : Str} (k : Q (.bl (!decide (s = z))) H) : cNe K (.str s) (.str z) H Q := .inl ⟨rfl, by
  have e : decide (V.str s = V.str z) = decide (s = z) := by
    by_cases h : s = z
    · subst h; simp
    · rw [decide_eq_false h, decide_eq_false (fun z => h (V.str.inj z))]
  rw [e]; exact k⟩
theorem v_eqD {d e : PyData} (h1 : Dp K H x d) (h2 : Dp K H y e) (s1 : SeqAt.shaped d = true) (s2 : SeqAt.shaped e = true) (k : Q (.bl (PyData.eqv d e)) H) : cEq K x y H Q := .inr ⟨d, e, h1, h2, s1, s2, k⟩
theorem v_neD {d e : PyData} (h1 : Dp K H x d) (h2 : Dp K H y e) (s1 : SeqAt.shaped d = true) (s2 : SeqAt.shaped e = true) (k : Q (.bl (!PyData.eqv d e)) H) : cNe K x y H Q := .inr ⟨d, e, h1, h2, s1, s2, k⟩
theorem v_lt (k : Q (.bl (decide (a < b))) H) : cLt K (.int a) (.int b) H Q := .inl ⟨a, b, rfl, rfl, k⟩
theorem v_le (k : Q (.bl (decide (a ≤ b))) H) : cLe (.int a) (.int b) H Q := ⟨a, b, rfl, rfl, k⟩
theorem v_gt (k : Q (.bl (decide (b < a))) H) : cGt (.int a) (.int b) H Q := ⟨a, b, rfl, rfl, k⟩
theorem v_ge (k : Q (.bl (decide (b ≤ a))) H) : cGe (.int a) (.int b) H Q := ⟨a, b, rfl, rfl, k⟩
theorem v_isN (k : Q (.bl (decide (x = .non))) H) : cIs x .non H Q := .inl ⟨rfl, k⟩
theorem v_notN (k : Q (.bl (!decide (x = .non))) H) : cIsNot x .non H Q := .inl ⟨rfl, k⟩
theorem v_isB {c d : Bool} (k : Q (.bl (decide (c = d))) H) : cIs (.bl c) (.bl d) H Q := .inr ⟨c, d, rfl, rfl, k⟩
theorem v_notB {c d : Bool} (k : Q (.bl (!decide (c = d))) H) : cIsNot (.bl c) (.bl d) H Q := .inr ⟨c, d, rfl, rfl, k⟩
theorem v_ixL (h : H l = some (.lst xs)) (n : atI xs a = some v) (k : Q v H) : bIx P w K (.ref l) (.int a) H Q := .inl ⟨l, xs, a, v, rfl, rfl, SqL.of h, n, k⟩
theorem v_ixK (h : SqL K H l xs) (n : atI xs a = some v) (k : Q v H) : bIx P w K (.ref l) (.int a) H Q := .inl ⟨l, xs, a, v, rfl, rfl, h, n, k⟩
theorem v_ixT (h : H l = some (.tup xs)) (n : atI xs a = some v) (k : Q v H) : bIx P w K (.ref l) (.int a) H Q := .inr (.inl ⟨l, xs, a, v, rfl, rfl, SqT.of h, n, k⟩)
theorem v_setL {R : Hp → Prop} {jj : Nat} (h : H l = some (.lst xs)) (n : ixN xs.length a = some jj) (k : R (upd H l (.lst (xs.set jj v)))) : bSet P w (.ref l) (.int a) v H R := .inl ⟨l, xs, a, jj, rfl, rfl, h, n, k⟩
theorem v_lenL (h : H l = some (.lst xs)) (k : Q (.int xs.length) H) : kLen K [.ref l] H Q := .inl ⟨.ref l, xs.length, rfl, .inl ⟨xs, SqL.of h, rfl⟩, k⟩
theorem v_lenK (h : SqL K H l xs) (k : Q (.int xs.length) H) : kLen K [.ref l] H Q := .inl ⟨.ref l, xs.length, rfl, .inl ⟨xs, h, rfl⟩, k⟩
theorem v_lenT (h : H l = some (.tup xs)) (k : Q (.int xs.length) H) : kLen K [.ref l] H Q := .inl ⟨.ref l, xs.length, rfl, .inr ⟨xs, SqT.of h, rfl⟩, k⟩
theorem v_int (k : Q (.int a) H) : kInt [.int a] H Q := .inl ⟨a, rfl, k⟩
theorem v_intB {c : Bool} (k : Q (.int (if c then 1 else 0)) H) : kInt [.bl c] H Q := .inr ⟨c, rfl, k⟩
theorem v_max (k : Q (.int (if b > a then b else a)) H) : kMax K [.int a, .int b] H Q := .inl ⟨a, b, rfl, k⟩
theorem v_min (k : Q (.int (if b < a then b else a)) H) : kMin K [.int a, .int b] H Q := .inl ⟨a, b, rfl, k⟩
theorem v_maxL {ns : List Int} (h : H l = some (.lst (ns.map V.int))) (n : 0 < ns.length) (k : ∀ m, m ∈ ns → (∀ y, y ∈ ns → y ≤ m) → Q (.int m) H) : kMax K [.ref l] H Q := .inr ⟨l, ns, rfl, SqL.of h, n, k⟩
theorem v_abs (k : Q (.int (if a < 0 then -a else a)) H) : kAbs [.int a] H Q := ⟨a, rfl, k⟩
theorem v_listL (h : H l = some (.lst xs)) (k : ∀ p, H p = none → Q (.ref p) (upd H p (.lst xs))) : kList K [.ref l] H Q := .inl ⟨l, xs, rfl, .inl (SqL.of h), k⟩
theorem v_listT (h : H l = some (.tup xs)) (k : ∀ p, H p = none → Q (.ref p) (upd H p (.lst xs))) : kList K [.ref l] H Q := .inl ⟨l, xs, rfl, .inr (SqT.of h), k⟩
theorem v_tupleL (h : H l = some (.lst xs)) (k : ∀ p, H p = none → Q (.ref p) (upd H p (.tup xs))) : kTuple K [.ref l] H Q := ⟨l, xs, rfl, .inl ⟨SqL.of h, k⟩⟩
theorem v_sortedL {ns : List Int} (h : H l = some (.lst (ns.map V.int))) (k : ∀ (ns' : List Int) (p : Addr), ns'.Perm ns → ns'.Pairwise (· ≤ ·) → H p = none → Q (.ref p) (upd H p (.lst (ns'.map V.int)))) : kSorted K w [.ref l] H Q := .inl ⟨l, ns, rfl, SqL.of h, k⟩
theorem v_sortedS {S : Int → Bool} {n : Nat} (h : H l = some (SetO w l S n)) (k : ∀ (ns : List Int) (p : Addr), ns.Pairwise (· < ·) → (∀ z : Int, z ∈ ns ↔ S z = true) → ns.length = n → H p = none → Q (.ref p) (upd H p (.lst (ns.map V.int)))) : kSorted K w [.ref l] H Q := .inr (.inl ⟨l, S, n, rfl, h, k⟩)
theorem v_sortedT {ns : List Int} (h : H l = some (.tup (ns.map V.int))) (k : ∀ (ns' : List Int) (p : Addr), ns'.Perm ns → ns'.Pairwise (· ≤ ·) → H p = none → Q (.ref p) (upd H p (.lst (ns'.map V.int)))) : kSorted K w [.ref l] H Q := .inr (.inr (.inl ⟨l, ns, rfl, SqT.of h, k⟩))
theorem v_sortedD {kvs : List (L2.Key × V)} {ks : List Int} (h : H l = some (.dK kvs)) (e : kvs.map (·.1) = ks.map Sum.inl) (k : ∀ (ns' : List Int) (p : Addr), ns'.Perm ks → ns'.Pairwise (· ≤ ·) → H p = none → Q (.ref p) (upd H p (.lst (ns'.map V.int)))) : kSorted K w [.ref l] H Q := .inr (.inr (.inr ⟨l, kvs, ks, rfl, h, e, k⟩))
theorem v_set {ns : List Int} (h : H l = some (.lst (ns.map V.int))) (n : ns.length ≤ 4000) (k : ∀ (p : Addr) (c : Nat), H p = none → c ≤ ns.length → Q (.ref p) (upd H p (SetO w p (fun j => decide (j ∈ ns)) c))) : uSetI K w [.ref l] H Q := ⟨l, ns, rfl, SqL.of h, n, k⟩
theorem v_append (h : H l = some (.lst xs)) (n : xs.length < sizeLine) (k : Q .non (upd H l (.lst (xs ++ [v])))) : rAppend (.ref l) [v] H Q := ⟨l, xs, v, rfl, rfl, h, n, k⟩
theorem v_clear (h : H l = some (.lst xs)) (k : Q .non (upd H l (.lst []))) : rClear (.ref l) [] H Q := ⟨l, xs, rfl, rfl, h, k⟩
theorem v_insert (h : H l = some (.lst xs)) (n : xs.length < sizeLine) (z : 0 ≤ a ∧ a < 2 ^ 63) (k : Q .non (upd H l (.lst (xs.take a.toNat ++ [v] ++ xs.drop a.toNat)))) : kInsert (.ref l) [.int a, v] H Q := ⟨l, xs, a, v, rfl, rfl, h, n, z.1, z.2, k⟩
theorem v_slL {lo hi : Option Int} (h : H l = some (.lst xs)) (k : ∀ p, H p = none → Q (.ref p) (upd H p (.lst (cutV xs lo hi)))) : bSl K (.ref l) lo hi H Q := .inl ⟨l, xs, rfl, SqL.of h, k⟩
theorem v_isi {t u : Value} {c : V} {b : Bool} (c1 : ClsV c u) (c2 : TyX K H x t) (e : PySem.W.kitOne K t u = some b) (k : Q (.bl b) H) : rIsi K [x, c] H Q := ⟨x, c, t, u, b, rfl, c1, c2, e, k⟩
theorem v_isiI {n : String} {b : Bool} (e : kitB "int" n = some b) (k : Q (.bl b) H) : rIsi K [.int a, .ty n] H Q := v_isi (.ty n) (.base (.int _)) (kit_ty e) k
theorem v_isiB {n : String} {c b : Bool} (e : kitB "bool" n = some b) (k : Q (.bl b) H) : rIsi K [.bl c, .ty n] H Q := v_isi (.ty n) (.base (.bl _)) (kit_ty e) k
theorem v_isiL {n : String} {b : Bool} (h : H l = some (.lst xs)) (e : kitB "list" n = some b) (k : Q (.bl b) H) : rIsi K [.ref l, .ty n] H Q := v_isi (.ty n) (.base (.lst h)) (kit_ty e) k
theorem v_isiT {n : String} {b : Bool} (h : H l = some (.tup xs)) (e : kitB "tuple" n = some b) (k : Q (.bl b) H) : rIsi K [.ref l, .ty n] H Q := v_isi (.ty n) (.base (.tup h)) (kit_ty e) k
theorem v_isiS {n : String} {s : Str} {b : Bool} (e : kitB "str" n = some b) (k : Q (.bl b) H) : rIsi K [.str s, .ty n] H Q := v_isi (.ty n) (.base (.str _)) (kit_ty e) k
theorem kit_int_int : kitB "int" "int" = some true := by decide +kernel
theorem kit_int_bool : kitB "int" "bool" = some false := by decide +kernel
theorem kit_int_list : kitB "int" "list" = some false := by decide +kernel
theorem kit_int_tuple : kitB "int" "tuple" = some false := by decide +kernel
theorem kit_int_str : kitB "int" "str" = some false := by decide +kernel
theorem kit_bool_int : kitB "bool" "int" = some true := by decide +kernel
theorem kit_bool_bool : kitB "bool" "bool" = some true := by decide +kernel
theorem kit_bool_list : kitB "bool" "list" = some false := by decide +kernel
theorem kit_bool_tuple : kitB "bool" "tuple" = some false := by decide +kernel
theorem kit_bool_str : kitB "bool" "str" = some false := by decide +kernel
theorem kit_list_int : kitB "list" "int" = some false := by decide +kernel
theorem kit_list_bool : kitB "list" "bool" = some false := by decide +kernel
theorem kit_list_list : kitB "list" "list" = some true := by decide +kernel
theorem kit_list_tuple : kitB "list" "tuple" = some false := by decide +kernel
theorem kit_list_str : kitB "list" "str" = some false := by decide +kernel
theorem kit_tuple_int : kitB "tuple" "int" = some false := by decide +kernel
theorem kit_tuple_bool : kitB "tuple" "bool" = some false := by decide +kernel
theorem kit_tuple_list : kitB "tuple" "list" = some false := by decide +kernel
theorem kit_tuple_tuple : kitB "tuple" "tuple" = some true := by decide +kernel
theorem kit_tuple_str : kitB "tuple" "str" = some false := by decide +kernel
theorem kit_str_int : kitB "str" "int" = some false := by decide +kernel
theorem kit_str_bool : kitB "str" "bool" = some false := by decide +kernel
theorem kit_str_list : kitB "str" "list" = some false := by decide +kernel
theorem kit_str_tuple : kitB "str" "tuple" = some false := by decide +kernel
theorem kit_str_str : kitB "str" "str" = some true := by decide +kernel
theorem kit_NoneType_int : kitB "NoneType" "int" = some false := by decide +kernel
theorem kit_NoneType_bool : kitB "NoneType" "bool" = some false := by decide +kernel
theorem kit_NoneType_list : kitB "NoneType" "list" = some false := by decide +kernel
theorem kit_NoneType_tuple : kitB "NoneType" "tuple" = some false := by decide +kernel
theorem kit_NoneType_str : kitB "NoneType" "str" = some false := by decide +kernel
theorem kit_dict_int : kitB "dict" "int" = some false := by decide +kernel
theorem kit_dict_bool : kitB "dict" "bool" = some false := by decide +kernel
theorem kit_dict_list : kitB "dict" "list" = some false := by decide +kernel
theorem kit_dict_tuple : kitB "dict" "tuple" = some false := by decide +kernel
theorem kit_dict_str : kitB "dict" "str" = some false := by decide +kernel
/-! ### loops -/
def kFor (J : It) (g : TG) (tb : TS) (D : Ends) (σ : St) (H : Hp) : Prop := ∃ W : Nat → Nat → St → Hp → Prop, (∃ m, W 0 m σ H) ∧ ∀ i m σ H, W i m σ H →
  (J.stop i H ∧ D.nx σ H) ∨ (J.go i H ∧ ∃ N : St → Hp → Prop, (∀ σ' H', N σ' H' → ∃ m', m' < m ∧ W (i + 1) m' σ' H') ∧ ∀ x H', J.yld i H x H' → g x σ H' fun σ2 H2 => tb { D with nx := N, ct := N, bk := D.nx } σ2 H2)
theorem r_for {wi : TI} (k : wi σ H fun J H1 => kFor J g tb D σ H1) : tFor wi g tb D σ H := k
def kRng1 (vs : List V) (H : Hp) (R : It → Hp → Prop) : Prop := ∃ j : Int, vs = [.int j] ∧ -(2 ^ 62) ≤ j ∧ j < 2 ^ 62 ∧ R (Itr 0 j.toNat) H
theorem r_rng1 {R : It → Hp → Prop} (k : tr σ H fun vs H1 => kRng1 vs H1 R) : iRng1 tr σ H R := k
theorem r_krng1 {R : It → Hp → Prop} (n : -(2 ^ 62) ≤ a ∧ a < 2 ^ 62) (k : R (Itr 0 a.toNat) H) : kRng1 [.int a] H R := ⟨a, rfl, n.1, n.2, k⟩
theorem r_iany {R : It → Hp → Prop} (k : te σ H fun x H1 => kIter K x H1 R) : iAny K te σ H R := k
theorem r_kiterL {R : It → Hp → Prop} (h : H l = some (.lst xs)) (k : R (Itl K l) H) : kIter K (.ref l) H R := .inl ⟨l, rfl, ⟨xs, SqL.of h⟩, k⟩
theorem r_kiterT {R : It → Hp → Prop} (h : H l = some (.tup xs)) (k : R (Itt K l) H) : kIter K (.ref l) H R := .inr (.inl ⟨l, rfl, ⟨xs, SqT.of h⟩, k⟩)
def kLc (J : It) (g : TG) (tt : TT) (te : TE) (vs : List Nat) (σ : St) (H1 : Hp) (Q : VK) : Prop := ∀ D, H1 D = none → ∃ W : Nat → Nat → Hp → Prop, (∃ m, W 0 m (upd H1 D (.lst []))) ∧ ∀ i m H, W i m H →
  (J.stop i H ∧ Q (.ref D) H) ∨ (J.go i H ∧ ∃ Nx : Hp → Prop, (∀ H', Nx H' → ∃ m', m' < m ∧ W (i + 1) m' H') ∧ ∀ x H', J.yld i H x H' → g x (wipe σ vs) H' fun σ2 H2 => wipe σ2 vs = wipe σ vs ∧ tt σ2 H2 fun b H3 =>
    if b = true then te σ2 H3 fun y H4 => ∃ acc, H4 D = some (.lst acc) ∧ acc.length < sizeLine ∧ Nx (upd H4 D (.lst (acc ++ [y]))) else Nx H3)
theorem r_lc {wi : TI} {vs : List Nat} (k : wi σ H fun J H1 => kLc J g tt te vs σ H1 Q) : tLc wi g tt te vs σ H Q := k
def kRg (x : V) (H : Hp) (R : Int → Int → Hp → Prop) : Prop := ∃ n, x = .int n ∧ R 0 n H
theorem r_lstRg1 (k : te σ H fun x H1 => kRg x H1 fun c d H2 => RgOk c d ∧ ∀ q, H2 q = none → Q (.ref q) (upd H2 q (.lst (rgV c d)))) : tLstRg (tRg1 te) σ H Q := k
theorem r_krg {R : Int → Int → Hp → Prop} (k : R 0 a H) : kRg (.int a) H R := ⟨a, rfl, k⟩
theorem absF {J : It} {S : Hp → Prop} (h : S H) (k : ∀ HT, S HT → kFor J g tb D σ HT) : kFor J g tb D σ H := k H h
theorem r_yes {R : Bool → Hp → Prop} (k : R true H) : tYes σ H R := k
theorem r_seqT {n : Nat} {ts : TGs} {R : St → Hp → Prop} (h : H l = some (.tup xs)) (e : xs.length = n) (k : ts xs σ H R) : gSeq K n ts (.ref l) σ H R := .inl ⟨l, xs, rfl, SqT.of h, e, k⟩
theorem r_seqL {n : Nat} {ts : TGs} {R : St → Hp → Prop} (h : H l = some (.lst xs)) (e : xs.length = n) (k : ts xs σ H R) : gSeq K n ts (.ref l) σ H R := .inr ⟨l, xs, rfl, SqL.of h, e, k⟩
theorem r_gcons {ts : TGs} {R : St → Hp → Prop} (k : g v σ H fun σ' H' => ts xs σ' H' R) : gCons g ts (v :: xs) σ H R := ⟨v, xs, rfl, k⟩
theorem r_gnil {R : St → Hp → Prop} (k : R σ H) : gNil [] σ H R := ⟨rfl, k⟩
end
end Hm

/-! F4: a caught error held as a value behind its suite; isinstance of it. -/
namespace Hm
open PySem PySem.Spec PyProof.Rows L2
/-- an error of the class cls at a -/
def ExV (cls : Value) (a : Addr) : HO := .ext fun h => ∃ (oe : Obj) (vs : Array Value), h.get? a = some oe ∧ Zc cls none oe ∧ oe.data = .fields vs
theorem exV_ok {P : Program} {w : World} {H : Hp} {h : Heap} {a : Addr} {cls : Value} {oe : Obj} {vs : Array Value} (e : h.get? a = some oe) (z : Zc cls none oe) (d : oe.data = .fields vs) : ObjOk P w H h a (ExV cls a) :=
  ⟨⟨oe, vs, e, z, d⟩, ⟨oe, e⟩, fun _ _ ⟨o, v, q, r⟩ k => ⟨o, v, k o q, r⟩⟩
section
variable {X : Cx} {pins : List (Addr × Obj)} {σ : L2.St} {H : Hp} {s : Shared}
/-- an object of ours, not told of yet, is told of -/
theorem show_ {a : Addr} {φ : Heap → Prop} (I : Inv X pins σ H s) (ha : H a = none) (h0 : X.s_0.heap.get? a = none) (hL : X.env.locals ≠ a) (hc : ∀ x c, X.env.cells.lookup x = some c → c ≠ a) (hp : ∀ p ∈ X.pn ++ pins, p.1 ≠ a)
    (new : ObjOk X.prog X.w (upd H a (.ext φ)) s.heap a (.ext φ)) : Inv X pins σ (upd H a (.ext φ)) s := by
  have old : ∀ b o, H b = some o → upd H a (.ext φ) b = some o := fun b o e => by rw [upd_ne (ne_of_none e ha)]; exact e
  refine ⟨I.ok, I.os, I.bare, ⟨I.base.keep, I.base.slot, fun b o e n hx => ?_, I.base.there, fun b xs e => old _ _ (I.base.tups b xs e), fun b o u e => old _ _ (I.base.frzs b o u e), fun b ps e => ?_⟩, I.loc, I.cell, ?_, fun x c e => ?_, fun p hpp => ?_, fun b u e => ?_, I.len⟩
  · rw [upd_ne (fun z => by rw [z, h0] at e; cases e)]
    exact I.base.free b o e n hx
  · obtain ⟨more, q⟩ := I.base.tbls b ps e
    exact ⟨more, old _ _ q⟩
  · rw [upd_ne hL]; exact I.free
  · rw [upd_ne (hc x c e)]; exact I.freeC x c e
  · obtain ⟨q1, q2, q3⟩ := I.pin p hpp
    exact ⟨q1, by rw [upd_ne (hp p hpp)]; exact q2, q3⟩
  · by_cases hb : b = a
    · subst hb
      rw [upd_same] at e
      cases e
      exact new
    · rw [upd_ne hb] at e
      exact (I.hok b u e).stay (fun _ _ _ q => q) (fun c q => old _ _ q) fun c xs q => old _ _ q
end
/-- what a clause «except c as n» wishes, the error kept: slot i is n's -/
def wVal (K : PySem.W.Frag) (c : Value) (i : Nat) (ts : Addr → Value → TS) (Wout : WX) (D : Ends) : WX := fun cls d σ H =>
  d = none ∧ ∃ b, PySem.W.exmOne K cls c = some b ∧
    (b = true → ∀ a, H a = none → ts a cls { nx := fun σ' H' => D.nx (σ'.set i none) (upd H' a (ExV cls a)), rt := D.rt, bk := fun _ _ => False, ct := fun _ _ => False } (σ.set i (some (.ref a))) H) ∧ (b = false → Wout cls d σ H)
section
variable {X : Cx} {x n : Str} {c : Value} {i : Nat} {body suite : List Stmt} {b₀ : Stmt} {np pos pos' : Pos} {tb : WX → TS} {ts : Addr → Value → TS} {Wout : WX}
/-- try: body, except x as n: suite; what is caught stays an object that is known -/
theorem ps_try_val (hs : X.stack = X.env :: X.outer) (hf : X.env.frame = some X.env.locals) (hN : X.N.Nodup) (hi : X.N[i]? = some n) (hln : X.env.kindOf n = some .local) (hc : Names X x c) (tk : Takes X Wout) (hex : X.ex = [])
    (hb : ∀ (W : WX) (pn : List (Addr × Obj)) (xe : Value → Shared → Prop), Takes (X.tr pn xe) W → PassesOwn (model X.prog X.w) X.A X.env xe → PSs (X.tr pn xe) body (tb W))
    (hsu : ∀ (a : Addr) (oe : Obj) (cls : Value) (pn : List (Addr × Obj)), PSs (X.suite a ((a, oe) :: pn)) (b₀ :: suite) (ts a cls)) :
    PS X (.Try body [.ExceptHandler (some (.Name x np)) (some n) (b₀ :: suite) pos'] [] [] pos) (fun D σ H => tb (wVal X.K c i ts Wout D) D σ H) := by
  refine ⟨fun pins s σ H D I h => wpAny_Try_except ?_⟩
  have ok := I.ok
  have hfr : X.A.frames = some (X.env :: X.outer) := by rw [ok.frames, hs]
  have run := (hb (wVal X.K c i ts Wout D) (X.pn ++ pins) (fun e s₁ => wpAny (model X.prog X.w) X.A (noteFrame e X.env) (fun _ s₂ => wpAny (model X.prog X.w) X.A (setFlight e none)
    (fun _ s₃ => wpAny (model X.prog X.w) X.A (handleBy e X.env [.ExceptHandler (some (.Name x np)) (some n) (b₀ :: suite) pos']) (SP X pins D) X.xe s₃) X.xe s₂) X.xe s₁) ?_ PassesOwn.looking).run [] s σ H D (I.toTry _) h
  · refine wpAny_mono run (fun f s1 hsp => ?_) fun _ _ z => z
    cases f with
    | next => obtain ⟨σ', H', J', q⟩ := hsp; exact wpAny_execs_nil ⟨σ', H', J'.ofTry ok, q⟩
    | brk => obtain ⟨σ', H', J', q⟩ := hsp; exact ⟨σ', H', J'.ofTry ok, q⟩
    | cont => obtain ⟨σ', H', J', q⟩ := hsp; exact ⟨σ', H', J'.ofTry ok, q⟩
    | ret u => obtain ⟨v, σ', H', J', r, q⟩ := hsp; exact ⟨v, σ', H', J'.ofTry ok, r, q⟩
  rintro u s' ⟨a, B, sI, pins', σ', H', cls, d, rfl, J', nb, up, sky, na, os, ag, rfl, b, hb1, hyes, hno⟩
  have J : Inv X pins σ' H' sI := J'.ofTry ok
  have air : Sky B (X.env :: X.outer) a (Zc cls none) X.env.locals s'.heap := by rw [← hs]; exact sky
  show wpAny (model X.prog X.w) X.A (noteFrame (.ref a) X.env) _ _ _
  refine Sky.land Zc.steady hfr hf air fun h3 fl3 up3 => ?_
  have J3 : Inv X pins σ' H' { s' with heap := h3 } := J.landed nb fl3.1 (up.trans up3) os ag
  obtain ⟨oe3, vs3, he3, hz3, hd3⟩ := fl3.there
  have aside : a ∉ frs (X.env :: X.outer) := fun hm => by
    obtain ⟨_, o', e', hnf⟩ := fl3.2.2.1.mem hm
    rw [he3] at e'; cases e'
    exact hnf _ hd3
  have gI : sI.heap.get? a = none := by
    cases e : sI.heap.get? a with
    | none => rfl
    | some o =>
      have q := nb a o e (by show a ∉ frs X.stack; rw [hs]; exact aside)
      rw [fl3.2.1] at q; cases q
  have nL : a ≠ X.env.locals := fun z => aside (List.mem_filterMap.mpr ⟨X.env, List.mem_cons_self, by rw [hf, z]⟩)
  have nF : a ∉ X.fs := fun hm => by
    obtain ⟨e, he, q⟩ := List.mem_filterMap.mp hm
    exact aside (List.mem_filterMap.mpr ⟨e, List.mem_cons_of_mem _ he, q⟩)
  have h00 : X.s_0.heap.get? a = none := by
    cases e : X.s_0.heap.get? a with
    | none => rfl
    | some o =>
      obtain ⟨o', q⟩ := J.base.there a o e (by rw [hex]; exact List.not_mem_nil)
      rw [gI] at q; cases q
  have noCell : ∀ y k, X.env.cells.lookup y = some k → k ≠ a := fun y k e z => by
    obtain ⟨v, o, q, _⟩ := J.cell y k e
    rw [z, gI] at q; cases q
  have noPin : ∀ p ∈ X.pn ++ pins, p.1 ≠ a := fun p hp z => by
    have q := (J.pin p hp).1
    rw [z, gI] at q; cases q
  have S3 := J3.suite he3 hd3 na nL nF
  refine wpAny_handleBy_cons (codeAny_handlers_test ?_) (by intro q; cases q)
  have LT : PySem.W.Looks (model X.prog X.w) h3 (typeOf (.ref a)) cls := fun A Q E s k q => wpAny_typeOf_ref (k _ _ he3) (by rw [hz3.1]; exact q)
  have LM := PySem.W.exm_one (M := model X.prog X.w) (J3.kIn) LT hb1
  have test : ∀ {Q : Value → Shared → Prop} {E : Value → Shared → Prop}, Q c { s' with heap := h3 } → wpAny (model X.prog X.w) (X.A.mark (some (.ref a))) (eval (.Name x np) X.env) Q E { s' with heap := h3 } := fun {Q E} q => by
    obtain ⟨hg, hdbg, hm | ⟨hm, hv, hnn⟩⟩ := hc
    · exact ld_glob (X := X.suite a ((a, oe3) :: (X.pn ++ pins))) S3 hg hm q hdbg
    · exact ld_blt (X := X.suite a ((a, oe3) :: (X.pn ++ pins))) S3 hg hm hv q hnn hdbg
  refine test (LM.here ?_)
  cases b with
  | false =>
    show wpAny _ X.A (handleBy (.ref a) X.env []) _ _ _
    refine wpAny_handleBy_nil ?_
    obtain ⟨k1, k2, k3, oe, vs, T, oT, ts', he, hz, hd, h1, hr⟩ := id fl3
    unfold PySem.passOn
    refine wpAny_bind (wpAny_field he hd h1 ?_)
    rw [if_neg (show ¬ ((Value.ref T == Value.none) = true) from by simp)]
    have fin : wpAny (model X.prog X.w) X.A (setFlight (.ref a) X.env.frame) (fun _ s4 => wpAny (model X.prog X.w) X.A (throw (.ref a) : Sem Flow) (SP X pins D) X.xe s4) X.xe { s' with heap := h3 } := by
      rw [hf]
      refine HandSPX.setFlight_upZ fl3 fun h4 hh4 up4 => wpAny_throw (tk _ _ ?_)
      exact ⟨a, B, sI, pins, σ', H', cls, none, rfl, J, nb, (up.trans up3).trans up4, .inr (.inr (by rw [hs]; exact hh4)), na, os, ag, hno rfl⟩
    first
      | exact wpAny_bind (wpAny_pure (wpAny_bind fin))
      | exact wpAny_bind fin
  | true =>
    refine codeAny_handlers_suite_as (HandSPX.lands_againZ fl3 fun h4 fl4 up4 => ?_)
    have J4 : Inv X pins σ' H' { s' with heap := h4 } := J.landed nb fl4.1 ((up.trans up3).trans up4) os ag
    obtain ⟨oe4, vs4, he4, hz4, hd4⟩ := fl4.there
    have S4 := J4.suite he4 hd4 na nL nF
    refine store_ok (X := X.suite a ((a, oe4) :: (X.pn ++ pins))) (v := .ref a) S4 hN hi (.inl hln) rfl (fun s5 S5 => ?_) (.inr hln)
    refine wpAny_mono ((hsu a oe4 cls (X.pn ++ pins)).run [] s5 _ H' _ S5 (hyes rfl a na)) (fun f s6 hsp => ?_) (fun _ _ z => False.elim z)
    cases f with
    | next =>
      obtain ⟨σ6, H6, S6, q6⟩ := hsp
      obtain ⟨e6, n6, _⟩ := S6.pin (a, oe4) (List.mem_append_left _ List.mem_cons_self)
      have J6 : Inv X pins σ6 H6 s6 := S6.unsuite ok
      have J7 := show_ (φ := fun h => ∃ (oe : Obj) (vs : Array Value), h.get? a = some oe ∧ Zc cls none oe ∧ oe.data = .fields vs) J6 n6 h00 nL.symm noCell noPin (exV_ok e6 hz4 hd4)
      exact gone_ok J7 hN hi hln fun s7 J8 => ⟨_, _, J8, q6⟩
    | brk => obtain ⟨σ6, H6, S6, q6⟩ := hsp; exact q6.elim
    | cont => obtain ⟨σ6, H6, S6, q6⟩ := hsp; exact q6.elim
    | ret u =>
      obtain ⟨v6, σ6, H6, S6, r6, q6⟩ := hsp
      exact gone_ok (S6.unsuite ok) hN hi hln fun s7 J7 => ⟨_, _, _, J7, r6, q6⟩
end
/-- isinstance(e, C), e an error that is known -/
def uIsV (K : PySem.W.Frag) : List V → Hp → VK → Prop := fun xs H Q => ∃ (a D : Addr) (c : V) (u : Value) (b : Bool), xs = [.ref a, c] ∧ H a = some (ExV (.ref D) a) ∧ ExcC K D ∧ ClsV c u ∧ PySem.W.kitOne K (.ref D) u = some b ∧ Q (.bl b) H
theorem k_isV {X : Cx} : CallR X (.builtin "isinstance") (uIsV X.K) := by
  intro pins s σ H xs us Q I r h
  obtain ⟨a, D, c, u, b, rfl, ha, C, hc, e, q⟩ := h
  obtain ⟨u1, u2, rfl, r1, r2⟩ := vals2 r
  have e2 := hc.eq r2
  subst e2
  cases r1
  obtain ⟨⟨oe, vs, hg, hz, hv⟩, _⟩ := I.hok a _ ha
  have J : PySem.W.InstAt s.heap a oe D none := by
    obtain ⟨oc, od, oda, osl⟩ := oe
    obtain ⟨h1, h2⟩ := hz
    dsimp only at h1 h2 hv
    subst h1 h2 hv
    exact ⟨hg, rfl, rfl, trivial⟩
  exact PySem.W.kia_one (PySem.W.handS_kitx_exc C.hg C.hk C.hs C.hd C.ha C.hn C.ht C.hm) I.kIn J e (fun z => nomatch z) fun tk => ⟨.bl b, H, I.tok tk, rfl, q⟩
/-! ### defs that raise, called within a try -/
section
variable {X : Cx} {k j : Nat} {C : Addr} {x m : Str} {sp : Sp} {p pos apos : Pos} {e o : Expr} {es : List Expr} {ta : TE} {t : TA} {W : WX}
def tMethS (C : Addr) (m : Str) (sp : Sp) (W : WX) (ta : TE) (t : TA) : TE := fun σ H Q => tMeth C m sp [] (fun cls d H => W cls d σ H) ta t σ H Q
theorem r_methS {σ : L2.St} {H : Hp} {Q : VK} (h : tMeth C m sp [] (fun cls d H => W cls d σ H) ta t σ H Q) : tMethS C m sp W ta t σ H Q := h
def tCallW (sp : Sp) (W : WX) (t : TA) : TE := fun σ H Q => tCall sp [] (fun cls d H => W cls d σ H) t σ H Q
theorem r_callW {σ : L2.St} {H : Hp} {Q : VK} (h : tCall sp [] (fun cls d H => W cls d σ H) t σ H Q) : tCallW sp W t σ H Q := h
theorem e_callS (c : Cal X.prog X.w X.K X.mg X.base (L2.CX X.prog X.w) k x sp) (hr : Room j X.A) (hk : k ≤ j) (tk : Takes X W) (hg : Gl X x) (ha : PA X (e :: es) t)
    (hdb : (x == ("__debug__" : Str)) = false := by decide) (he : starEach (e :: es) X.env = (false, eval e X.env) :: starEach es X.env := by rfl) (hpl : (backTo pos (starEach es X.env)).any (·.1) = false := by rfl) :
    PE X (.Call (.Name x p) (e :: es) [] pos) (tCallW sp W t) := by
  obtain ⟨f, fd, ps, F, hm, kp, b⟩ := c.ex
  refine ⟨fun pins s σ H Q I h => ?_⟩
  refine (pe_callS (E := WE W) F (hr.mono hk) hg hm kp b (fun σ => passAt tk σ) ha hdb he hpl).run pins s σ H Q I ?_
  have h' : t σ H fun vs H1 => sp (vs ++ []) H1 Q (fun cls d H => W cls d σ H) := h
  show t σ H fun vs H1 => sp vs H1 Q (fun cls d H => W cls d σ H)
  simpa only [List.append_nil] using h'
theorem e_methS {pl : Sem Bool} (c : Met X.prog X.w X.K X.mg X.base (L2.CX X.prog X.w) k C m sp) (hr : Room j X.A) (hk : k ≤ j) (tk : Takes X W) (he : PE X o ta) (ha : PA X (e :: es) t)
    (h1 : starEach (e :: es) X.env = (false, eval e X.env) :: starEach es X.env := by rfl) (h2 : (backTo pos (starEach es X.env)).any (·.1) = false := by rfl)
    (h3 : eval (.Call (.Attribute o m apos) (e :: es) [] pos) X.env = (do let ov ← eval o X.env; standAt apos.atName; let (f, first) ← holding [ov] (getMethod ov m pl)
                                                                          callWith pos f first (backTo pos (starEach (e :: es) X.env)) (backToKw pos (keywordEach [] X.env))) := by rfl) :
    PE X (.Call (.Attribute o m apos) (e :: es) [] pos) (tMethS C m sp W ta t) := by
  obtain ⟨f, fd, ps, hc, hm, F, b⟩ := c.ex
  refine ⟨fun pins s σ H Q I h => PySem.W.methodCall_KW (pl := pl) (thn (he.run pins s σ H _ I h) fun u s1 ⟨y, H1, I1, rx, a, dx, fs, ey, ea, l, q⟩ => ?_) h3⟩
  subst ey
  obtain rfl : u = Value.ref a := rx
  refine getmeth_ok I1 ea hc hm l (PySem.W.callWith_K (first := [.ref a]) (h₀ := X.base) I.ok.mod.kin hm.kp (thn (ha.run pos pins s1 σ H1 _ I1 q) fun us s2 ⟨vs, H2, I2, r, q2⟩ => ⟨I2.kIn, ?_⟩) h1 h2)
  refine run_fnS (E := WE W) (us := .ref a :: us) (vs := .ref a :: vs) F (hr.mono hk) b (fun _ _ _ e s' I c => tk e s' (XE.of_call I (fun _ _ _ h => h) c)) I2 (.cons rfl r) ?_
  have q' : sp (.ref a :: vs ++ []) H2 Q (fun cls d H => W cls d σ H) := q2
  simpa only [List.append_nil] using q'
end
/-! ### raise -/
def tRaiseC (C : Addr) (W : WX) : TS := fun _ σ H => W (.ref C) none σ H
def tRaiseE (C : Addr) (W : WX) (te : TE) : TS := fun _ σ H => te σ H fun _ H1 => W (.ref C) none σ H1
theorem r_raiseC {C : Addr} {W : WX} {D : Ends} {σ : L2.St} {H : Hp} (h : W (.ref C) none σ H) : tRaiseC C W D σ H := h
theorem r_raiseE {C : Addr} {W : WX} {te : TE} {D : Ends} {σ : L2.St} {H : Hp} (h : te σ H fun _ H1 => W (.ref C) none σ H1) : tRaiseE C W te D σ H := h
/-- what stands of a refusal's class -/
structure XCl (K : PySem.W.Frag) (mg : Str → Option Value) (x : Str) (C : Addr) : Prop where
  g : mg x = some (.ref C)
  x : PySem.W.excIn K C [.type "ValueError", .type "Exception", .type "BaseException", .type "object"] "ValueError.__new__" = true
  k : PySem.W.keepIn K (.ref C) = true
  b : PySem.W.subIn K (.ref C) (.type "BaseException") = some true
  t : PySem.W.typeIn K (.ref C) = some (.type "type")
section
variable {X : Cx} {C : Addr} {x m : Str} {p p2 pos pos' : Pos} {jj : Nat} {e : Expr} {ta : TE} {W : WX}
theorem ps_raiseC (hc : X.calm = true) (tk : Takes X W) (c : XCl X.K X.mg x C) (hg : Gl X x) (hdb : (x == ("__debug__" : Str)) = false := by decide) : PS X (.Raise (some (.Call (.Name x p) [.Constant (.str m) jj p2] [] pos)) none pos') (tRaiseC C W) :=
  ps_raise hc tk (pmk_own PySem.F.excBase_ValueError c.x c.g c.k (raises_own c.b c.t) hg hdb)
theorem ps_raiseE (hc : X.calm = true) (tk : Takes X W) (c : XCl X.K X.mg x C) (hg : Gl X x) (he : PE X e ta) (hs : starEach [e] X.env = (false, eval e X.env) :: starEach [] X.env := by rfl) (hdb : (x == ("__debug__" : Str)) = false := by decide) :
    PS X (.Raise (some (.Call (.Name x p) [e] [] pos)) none pos') (tRaiseE C W ta) :=
  ps_raise hc tk (SkE.pmk_own1 PySem.F.excBase_ValueError c.x c.g c.k (raises_own c.b c.t) hg he hs hdb)
end
/-! ### try -/
def tTryV (K : PySem.W.Frag) (c : Value) (i : Nat) (ts : TS) (tb : WX → TS) : TS := fun D σ H => tb (wVal K c i (fun _ _ => ts) (fun _ _ _ _ => False) D) D σ H
theorem r_tryV {K : PySem.W.Frag} {c : Value} {i : Nat} {ts : TS} {tb : WX → TS} {D : Ends} {σ : L2.St} {H : Hp} (h : tb (wVal K c i (fun _ _ => ts) (fun _ _ _ _ => False) D) D σ H) : tTryV K c i ts tb D σ H := h
theorem w_val {K : PySem.W.Frag} {c cls : Value} {i : Nat} {ts : TS} {D : Ends} {σ : L2.St} {H : Hp} (hm : PySem.W.exmOne K cls c = some true)
    (h : ∀ a, H a = none → ts { nx := fun σ' H' => D.nx (σ'.set i none) (upd H' a (ExV cls a)), rt := D.rt, bk := fun _ _ => False, ct := fun _ _ => False } (σ.set i (some (.ref a))) H) : wVal K c i (fun _ _ => ts) (fun _ _ _ _ => False) D cls none σ H :=
  ⟨rfl, true, hm, fun _ a ha => h a ha, fun z => nomatch z⟩
section
variable {X : Cx} {x n : Str} {c : Value} {i : Nat} {body suite : List Stmt} {b₀ : Stmt} {np pos pos' : Pos} {tb : WX → TS} {ts : TS}
theorem ps_tryV (hs : X.stack = X.env :: X.outer) (hf : X.env.frame = some X.env.locals) (hN : X.N.Nodup) (hi : X.N[i]? = some n) (hln : X.env.kindOf n = some .local) (hc : Names X x c) (hex : X.ex = [])
    (hb : ∀ (W : WX) (pn : List (Addr × Obj)) (xe : Value → Shared → Prop), Takes (X.tr pn xe) W → PassesOwn (model X.prog X.w) X.A X.env xe → PSs (X.tr pn xe) body (tb W))
    (hsu : ∀ (a : Addr) (oe : Obj) (pn : List (Addr × Obj)), PSs (X.suite a ((a, oe) :: pn)) (b₀ :: suite) ts) :
    PS X (.Try body [.ExceptHandler (some (.Name x np)) (some n) (b₀ :: suite) pos'] [] [] pos) (tTryV X.K c i ts tb) :=
  ps_try_val (tb := tb) (ts := fun _ _ => ts) hs hf hN hi hln hc takes0 hex (fun W pn xe tk po => hb W pn xe tk po) fun a oe _ pn => hsu a oe pn
end
theorem v_isiN {K : PySem.W.Frag} {H : Hp} {Q : VK} {n : String} {b : Bool} (e : kitB "NoneType" n = some b) (k : Q (.bl b) H) : rIsi K [.non, .ty n] H Q := v_isi (.ty n) (.base .non) (kit_ty e) k
theorem v_isV {K : PySem.W.Frag} {a D : Addr} {c : V} {u : Value} {b : Bool} {H : Hp} {Q : VK} (h : H a = some (ExV (.ref D) a)) (d : ExcC K D) (hc : ClsV c u) (e : PySem.W.kitOne K (.ref D) u = some b) (q : Q (.bl b) H) : uIsV K [.ref a, c] H Q := ⟨a, D, c, u, b, rfl, h, d, hc, e, q⟩
end Hm

namespace Hm
open PySem L2
/-! F3m: the reading's steps. kaf_suf: one step; kaf_pre: what stands at an address; tlg_ne: two addresses differ. -/
local macro_rules | `(tactic| tlg_ne) => `(tactic| first
  | with_reducible assumption
  | with_reducible exact Ne.symm (by assumption)
  | (refine' ne_old (by assumption) ?a; (case a => (kaf_pre; done)))
  | (refine' ne_new (by assumption) ?a; (case a => (kaf_pre; done)))
  | fail "tlg_ne")
local macro_rules | `(tactic| kaf_pre) => `(tactic| first
  | with_reducible assumption
  | ((with_reducible refine' upd_at ?a); (case a => rfl))
  | ((first
      | (with_reducible refine' get_new (by assumption) ?b)
      | ((with_reducible refine' get_set ?a ?b); (case a => (tlg_ne; done)))
      | ((with_reducible refine' Keep.get (by assumption) ?a ?b); (case a => (first | assumption | (intro z; exact z.elim) | fail "kaf_pre")))
      | fail "kaf_pre"); (case b => (kaf_pre; done)))
  | ((fail_if_success (with_reducible refine' is_upd ?_)); assumption)
  | ((with_reducible refine' get_setK ?a ?b ?e); (case a => (kaf_pre; done)); (case b => (kaf_pre; done)); (case e => (intro z; cases z; done)))
  | fail "kaf_pre")
local macro_rules | `(tactic| isplit) => `(tactic| first
  | assumption
  | ((with_reducible refine' seq_new (by assumption) ?a); (case a => (isplit; done)))
  | ((with_reducible refine' seq_keep (by assumption) ?a); (case a => (isplit; done))))
local macro_rules | `(tactic| kaf_suf) => `(tactic| first
  | with_reducible refine r_seq ?_
  | with_reducible refine r_asg ?_
  | ((with_reducible refine' r_var ?a ?_); (case a => rfl))
  | with_reducible refine r_c ?_
  | with_reducible refine r_gname ?_
  | with_reducible refine r_op ?_
  | with_reducible refine r_cons ?_
  | with_reducible refine r_nil ?_
  | with_reducible refine r_cb ?_
  | with_reducible refine r_call ?_
  | with_reducible refine r_meth ?_
  | with_reducible refine r_fld ?_
  | with_reducible refine r_if ?_
  | with_reducible refine r_test ?_
  | with_reducible refine r_kB ?_
  | with_reducible refine r_ite_tt ?_
  | with_reducible refine r_ite_ff ?_
  | with_reducible refine r_ite_nt ?_
  | with_reducible refine r_ite_nf ?_
  | ((with_reducible refine' r_iteT' ?a ?_); (case a => first | assumption | rfl | omega))
  | ((with_reducible refine' r_iteF' ?a ?_); (case a => first | assumption | omega))
  | ((with_reducible refine' r_iteNT' ?a ?_); (case a => first | assumption | omega))
  | ((with_reducible refine' r_iteNF' ?a ?_); (case a => first | assumption | rfl | omega))
  | with_reducible refine r_next ?_
  | with_reducible refine r_nx ?_
  | with_reducible refine r_rt ?_
  | with_reducible refine r_bk ?_
  | with_reducible refine r_ct ?_
  | with_reducible refine r_drop ?_
  | with_reducible refine r_ret ?_
  | with_reducible refine v_add ?_
  | with_reducible refine v_sub ?_
  | with_reducible refine v_eq ?_
  | with_reducible refine v_ne ?_
  | with_reducible refine v_lt ?_
  | with_reducible refine v_le ?_
  | with_reducible refine v_gt ?_
  | with_reducible refine v_ge ?_
  | ((with_reducible refine' v_mod ?a ?_); (case a => first | assumption | decide | omega))
  | ((with_reducible refine' v_mul ?a ?_); (case a => first | assumption | decide | omega))
  | ((with_reducible refine' v_div ?a ?_); (case a => first | assumption | decide | omega))
  | ((with_reducible refine' v_pow ?a ?_); (case a => exact ⟨by decide, by decide, by decide⟩))
  | ((with_reducible refine' v_ixL ?a ?b ?_); (case a => (kaf_pre; done)); (case b => (first | assumption | rfl)))
  | ((with_reducible refine' v_ixT ?a ?b ?_); (case a => (kaf_pre; done)); (case b => (first | assumption | rfl)))
  | ((with_reducible refine' v_lenL ?a ?_); (case a => (kaf_pre; done)))
  | ((with_reducible refine' v_lenT ?a ?_); (case a => (kaf_pre; done)))
  | ((with_reducible refine' v_lenK ?a ?_); (case a => (isplit; done)))
  | ((with_reducible refine' v_ixK ?a ?b ?_); (case a => (isplit; done)); (case b => (first | assumption | rfl)))
  | ((with_reducible refine' v_append ?a ?b ?_); (case a => (kaf_pre; done)); (case b => first | assumption | exact few1 (by simp; omega)))
  | ((with_reducible refine' r_krng1 ?a ?_); (case a => first | assumption | decide | omega))
  | with_reducible refine v_int ?_
  | with_reducible refine v_intB ?_
  | with_reducible refine v_max ?_
  | with_reducible refine v_min ?_
  | with_reducible refine r_and ?_
  | with_reducible refine r_or ?_
  | with_reducible refine r_not ?_
  | with_reducible refine r_tup ?_
  | with_reducible refine r_lst ?_
  | ((with_reducible refine' r_ktup ?a ?_); (case a => (simp; done)))
  | ((with_reducible refine' r_klst ?a ?_); (case a => (simp; done)))
  | with_reducible refine r_bm ?_
  | with_reducible refine r_bm0 ?_
  | ((with_reducible refine' r_kbm_l ?a ?_); (case a => (kaf_pre; done)))
  | with_reducible refine r_gsub ?_
  | ((with_reducible refine' v_setL ?a ?b ?_); (case a => (kaf_pre; done)); (case b => first | assumption | rfl))
  | with_reducible refine r_sfld ?_
  | with_reducible refine r_make ?_
  | with_reducible refine r_for ?_
  | with_reducible refine r_rng1 ?_
  | with_reducible refine r_iany ?_
  | ((with_reducible refine' r_kiterL ?a ?_); (case a => (kaf_pre; done)))
  | ((with_reducible refine' r_kiterT ?a ?_); (case a => (kaf_pre; done)))
  | with_reducible refine r_lc ?_
  | with_reducible refine r_yes ?_
  | with_reducible refine r_chain ?_
  | with_reducible refine r_andV ?_
  | with_reducible refine r_orV ?_
  | with_reducible refine r_notV ?_
  | with_reducible refine r_tru ?_
  | with_reducible refine r_tru_bl ?_
  | with_reducible refine r_un ?_
  | with_reducible refine r_rU ?_
  | with_reducible refine r_sl ?_
  | with_reducible refine r_nopart ?_
  | with_reducible refine r_part ?_
  | with_reducible refine r_kI ?_
  | with_reducible refine r_rev ?_
  | with_reducible refine r_lstRg1 ?_
  | with_reducible refine r_krg ?_
  | with_reducible refine v_isN ?_
  | with_reducible refine v_notN ?_
  | with_reducible refine v_isB ?_
  | with_reducible refine v_notB ?_
  | with_reducible refine v_eqS ?_
  | with_reducible refine v_neS ?_
  | ((with_reducible refine' v_isiI ?a ?_); (case a => first | with_reducible exact kit_int_int | with_reducible exact kit_int_bool | with_reducible exact kit_int_list | with_reducible exact kit_int_tuple | with_reducible exact kit_int_str))
  | ((with_reducible refine' v_isiB ?a ?_); (case a => first | with_reducible exact kit_bool_int | with_reducible exact kit_bool_bool | with_reducible exact kit_bool_list | with_reducible exact kit_bool_tuple | with_reducible exact kit_bool_str))
  | ((with_reducible refine' v_isiS ?a ?_); (case a => first | with_reducible exact kit_str_int | with_reducible exact kit_str_bool | with_reducible exact kit_str_list | with_reducible exact kit_str_tuple | with_reducible exact kit_str_str))
  | ((with_reducible refine' v_isiL ?a ?b ?_); (case a => (kaf_pre; done)); (case b => first | with_reducible exact kit_list_int | with_reducible exact kit_list_bool | with_reducible exact kit_list_list | with_reducible exact kit_list_tuple | with_reducible exact kit_list_str))
  | ((with_reducible refine' v_isiT ?a ?b ?_); (case a => (kaf_pre; done)); (case b => first | with_reducible exact kit_tuple_int | with_reducible exact kit_tuple_bool | with_reducible exact kit_tuple_list | with_reducible exact kit_tuple_tuple | with_reducible exact kit_tuple_str))
  | with_reducible refine r_brk ?_
  | with_reducible refine r_cont ?_
  | with_reducible refine r_par ?_
  | with_reducible refine r_par2 ?_
  | with_reducible refine v_abs ?_
  | ((with_reducible refine' v_listL ?a ?_); (case a => (kaf_pre; done)))
  | ((with_reducible refine' v_listT ?a ?_); (case a => (kaf_pre; done)))
  | ((with_reducible refine' v_set ?a ?b ?_); (case a => (kaf_pre; done)); (case b => first | assumption | omega | (simp; omega)))
  | ((with_reducible refine' v_sortedS ?a ?_); (case a => (kaf_pre; done)))
  | ((with_reducible refine' v_sortedL ?a ?_); (case a => (kaf_pre; done)))
  | ((with_reducible refine' v_tupleL ?a ?_); (case a => (kaf_pre; done)))
  | ((with_reducible refine' v_addL ?a ?b ?e ?_); (case a => (kaf_pre; done)); (case b => (kaf_pre; done)); (case e => first | assumption | exact few2 (by simp; omega)))
  | ((with_reducible refine' v_addT ?a ?b ?e ?_); (case a => (kaf_pre; done)); (case b => (kaf_pre; done)); (case e => first | assumption | exact few2 (by simp; omega))))

local macro_rules | `(tactic| kaf_suf) => `(tactic| first
  | with_reducible refine r_raiseC ?_
  | with_reducible refine r_raiseE ?_
  | with_reducible refine r_tryV ?_
  | with_reducible refine r_methS ?_
  | with_reducible refine r_callW ?_
  | with_reducible refine v_isiN kit_NoneType_int ?_)

def top (i : Nat) : Stmt := PySem.Challenge.pw_hotmoves_k10_no_games_played.main.body.getD i (.Pass ⟨0, 0, 0, 0⟩)
abbrev s_Turns_init : Stmt := inClass (top 2) 0
abbrev s_Turns_row : Stmt := inClass (top 2) 1
abbrev s_Turns_wins : Stmt := inClass (top 2) 2
abbrev s_who_wins : Stmt := top 3
abbrev s_winning_moves : Stmt := top 4
abbrev s_Putting_init : Stmt := inClass (top 5) 0
abbrev s_Putting_turn : Stmt := inClass (top 5) 1
abbrev s_Putting_put : Stmt := inClass (top 5) 2
abbrev s_turned : Stmt := top 6
abbrev s_put_together : Stmt := top 7
abbrev s_all_together : Stmt := top 8
abbrev s_difference : Stmt := top 9
abbrev s_Book_init : Stmt := inClass (top 20) 0
abbrev s_Book_need : Stmt := inClass (top 20) 1
abbrev s_Book_game : Stmt := inClass (top 20) 2
abbrev s_Book_lefts : Stmt := inClass (top 20) 3
abbrev s_Book_rights : Stmt := inClass (top 20) 4
abbrev s_Book_depth : Stmt := inClass (top 20) 5
abbrev s_Book_many : Stmt := inClass (top 20) 6
abbrev s_law_deck : Stmt := top 22
abbrev s_law_draw : Stmt := top 23
abbrev s_law_moves : Stmt := top 24
abbrev s_law_grown : Stmt := top 25
abbrev s_law_kinds : Stmt := top 26
abbrev s_law_asked : Stmt := top 27
abbrev s_law_refused : Stmt := top 28
abbrev s_law_answered : Stmt := top 29
abbrev s_law : Stmt := top 30
structure Cn where
  P : Program
  w : World
  K : PySem.W.Frag
  cTurns : Addr
  cPutting : Addr
  cGameError : Addr
  cNoGame : Addr
  cNoRoad : Addr
  cNoBoard : Addr
  cNoNumber : Addr
  cNoText : Addr
  cNoName : Addr
  cNoRow : Addr
  cBook : Addr
  k_SIDES : Addr
structure Txt (c : Cn) (mg : Str → Option Value) : Prop where
  n_ValueError : mg "ValueError" = none
  n_bool : mg "bool" = none
  n_int : mg "int" = none
  n_isinstance : mg "isinstance" = none
  n_len : mg "len" = none
  n_list : mg "list" = none
  n_max : mg "max" = none
  n_min : mg "min" = none
  n_range : mg "range" = none
  n_set : mg "set" = none
  n_sorted : mg "sorted" = none
  n_tuple : mg "tuple" = none
  g_Turns : mg "Turns" = some (.ref c.cTurns)
  g_Putting : mg "Putting" = some (.ref c.cPutting)
  g_GameError : mg "GameError" = some (.ref c.cGameError)
  g_NoGame : mg "NoGame" = some (.ref c.cNoGame)
  g_NoRoad : mg "NoRoad" = some (.ref c.cNoRoad)
  g_NoBoard : mg "NoBoard" = some (.ref c.cNoBoard)
  g_NoNumber : mg "NoNumber" = some (.ref c.cNoNumber)
  g_NoText : mg "NoText" = some (.ref c.cNoText)
  g_NoName : mg "NoName" = some (.ref c.cNoName)
  g_NoRow : mg "NoRow" = some (.ref c.cNoRow)
  g_Book : mg "Book" = some (.ref c.cBook)
  t_SIDES : mg "SIDES" = some (.ref c.k_SIDES) ∧ (∀ H, SqT c.K H c.k_SIDES [.str "left", .str "right"]) ∧ ∃ o, c.K.lookup c.k_SIDES = some o ∧ o.cls = .type "tuple" ∧ o.dict = none
  x_GameError : XCl c.K mg "GameError" c.cGameError
  m_GameError : PySem.W.exmOne c.K (.ref c.cGameError) (.ref c.cGameError) = some true
  x_NoBoard : XCl c.K mg "NoBoard" c.cNoBoard
  m_NoBoard : PySem.W.exmOne c.K (.ref c.cNoBoard) (.ref c.cGameError) = some true
  x_NoGame : XCl c.K mg "NoGame" c.cNoGame
  m_NoGame : PySem.W.exmOne c.K (.ref c.cNoGame) (.ref c.cGameError) = some true
  x_NoName : XCl c.K mg "NoName" c.cNoName
  m_NoName : PySem.W.exmOne c.K (.ref c.cNoName) (.ref c.cGameError) = some true
  x_NoNumber : XCl c.K mg "NoNumber" c.cNoNumber
  m_NoNumber : PySem.W.exmOne c.K (.ref c.cNoNumber) (.ref c.cGameError) = some true
  x_NoRoad : XCl c.K mg "NoRoad" c.cNoRoad
  m_NoRoad : PySem.W.exmOne c.K (.ref c.cNoRoad) (.ref c.cGameError) = some true
  x_NoRow : XCl c.K mg "NoRow" c.cNoRow
  m_NoRow : PySem.W.exmOne c.K (.ref c.cNoRow) (.ref c.cGameError) = some true
  x_NoText : XCl c.K mg "NoText" c.cNoText
  m_NoText : PySem.W.exmOne c.K (.ref c.cNoText) (.ref c.cGameError) = some true
  e_GameError : ExcC c.K c.cGameError
  iv_GameError : PySem.W.kitOne c.K (.ref c.cGameError) (.type "ValueError") = some true
  i_GameError_GameError : PySem.W.kitOne c.K (.ref c.cGameError) (.ref c.cGameError) = some true
  i_GameError_NoBoard : PySem.W.kitOne c.K (.ref c.cGameError) (.ref c.cNoBoard) = some false
  i_GameError_NoGame : PySem.W.kitOne c.K (.ref c.cGameError) (.ref c.cNoGame) = some false
  i_GameError_NoName : PySem.W.kitOne c.K (.ref c.cGameError) (.ref c.cNoName) = some false
  i_GameError_NoNumber : PySem.W.kitOne c.K (.ref c.cGameError) (.ref c.cNoNumber) = some false
  i_GameError_NoRoad : PySem.W.kitOne c.K (.ref c.cGameError) (.ref c.cNoRoad) = some false
  i_GameError_NoRow : PySem.W.kitOne c.K (.ref c.cGameError) (.ref c.cNoRow) = some false
  i_GameError_NoText : PySem.W.kitOne c.K (.ref c.cGameError) (.ref c.cNoText) = some false
  e_NoBoard : ExcC c.K c.cNoBoard
  iv_NoBoard : PySem.W.kitOne c.K (.ref c.cNoBoard) (.type "ValueError") = some true
  i_NoBoard_GameError : PySem.W.kitOne c.K (.ref c.cNoBoard) (.ref c.cGameError) = some true
  i_NoBoard_NoBoard : PySem.W.kitOne c.K (.ref c.cNoBoard) (.ref c.cNoBoard) = some true
  i_NoBoard_NoGame : PySem.W.kitOne c.K (.ref c.cNoBoard) (.ref c.cNoGame) = some false
  i_NoBoard_NoName : PySem.W.kitOne c.K (.ref c.cNoBoard) (.ref c.cNoName) = some false
  i_NoBoard_NoNumber : PySem.W.kitOne c.K (.ref c.cNoBoard) (.ref c.cNoNumber) = some false
  i_NoBoard_NoRoad : PySem.W.kitOne c.K (.ref c.cNoBoard) (.ref c.cNoRoad) = some false
  i_NoBoard_NoRow : PySem.W.kitOne c.K (.ref c.cNoBoard) (.ref c.cNoRow) = some false
  i_NoBoard_NoText : PySem.W.kitOne c.K (.ref c.cNoBoard) (.ref c.cNoText) = some false
  e_NoGame : ExcC c.K c.cNoGame
  iv_NoGame : PySem.W.kitOne c.K (.ref c.cNoGame) (.type "ValueError") = some true
  i_NoGame_GameError : PySem.W.kitOne c.K (.ref c.cNoGame) (.ref c.cGameError) = some true
  i_NoGame_NoBoard : PySem.W.kitOne c.K (.ref c.cNoGame) (.ref c.cNoBoard) = some false
  i_NoGame_NoGame : PySem.W.kitOne c.K (.ref c.cNoGame) (.ref c.cNoGame) = some true
  i_NoGame_NoName : PySem.W.kitOne c.K (.ref c.cNoGame) (.ref c.cNoName) = some false
  i_NoGame_NoNumber : PySem.W.kitOne c.K (.ref c.cNoGame) (.ref c.cNoNumber) = some false
  i_NoGame_NoRoad : PySem.W.kitOne c.K (.ref c.cNoGame) (.ref c.cNoRoad) = some false
  i_NoGame_NoRow : PySem.W.kitOne c.K (.ref c.cNoGame) (.ref c.cNoRow) = some false
  i_NoGame_NoText : PySem.W.kitOne c.K (.ref c.cNoGame) (.ref c.cNoText) = some false
  e_NoName : ExcC c.K c.cNoName
  iv_NoName : PySem.W.kitOne c.K (.ref c.cNoName) (.type "ValueError") = some true
  i_NoName_GameError : PySem.W.kitOne c.K (.ref c.cNoName) (.ref c.cGameError) = some true
  i_NoName_NoBoard : PySem.W.kitOne c.K (.ref c.cNoName) (.ref c.cNoBoard) = some false
  i_NoName_NoGame : PySem.W.kitOne c.K (.ref c.cNoName) (.ref c.cNoGame) = some false
  i_NoName_NoName : PySem.W.kitOne c.K (.ref c.cNoName) (.ref c.cNoName) = some true
  i_NoName_NoNumber : PySem.W.kitOne c.K (.ref c.cNoName) (.ref c.cNoNumber) = some false
  i_NoName_NoRoad : PySem.W.kitOne c.K (.ref c.cNoName) (.ref c.cNoRoad) = some false
  i_NoName_NoRow : PySem.W.kitOne c.K (.ref c.cNoName) (.ref c.cNoRow) = some false
  i_NoName_NoText : PySem.W.kitOne c.K (.ref c.cNoName) (.ref c.cNoText) = some false
  e_NoNumber : ExcC c.K c.cNoNumber
  iv_NoNumber : PySem.W.kitOne c.K (.ref c.cNoNumber) (.type "ValueError") = some true
  i_NoNumber_GameError : PySem.W.kitOne c.K (.ref c.cNoNumber) (.ref c.cGameError) = some true
  i_NoNumber_NoBoard : PySem.W.kitOne c.K (.ref c.cNoNumber) (.ref c.cNoBoard) = some false
  i_NoNumber_NoGame : PySem.W.kitOne c.K (.ref c.cNoNumber) (.ref c.cNoGame) = some false
  i_NoNumber_NoName : PySem.W.kitOne c.K (.ref c.cNoNumber) (.ref c.cNoName) = some false
  i_NoNumber_NoNumber : PySem.W.kitOne c.K (.ref c.cNoNumber) (.ref c.cNoNumber) = some true
  i_NoNumber_NoRoad : PySem.W.kitOne c.K (.ref c.cNoNumber) (.ref c.cNoRoad) = some false
  i_NoNumber_NoRow : PySem.W.kitOne c.K (.ref c.cNoNumber) (.ref c.cNoRow) = some false
  i_NoNumber_NoText : PySem.W.kitOne c.K (.ref c.cNoNumber) (.ref c.cNoText) = some false
  e_NoRoad : ExcC c.K c.cNoRoad
  iv_NoRoad : PySem.W.kitOne c.K (.ref c.cNoRoad) (.type "ValueError") = some true
  i_NoRoad_GameError : PySem.W.kitOne c.K (.ref c.cNoRoad) (.ref c.cGameError) = some true
  i_NoRoad_NoBoard : PySem.W.kitOne c.K (.ref c.cNoRoad) (.ref c.cNoBoard) = some false
  i_NoRoad_NoGame : PySem.W.kitOne c.K (.ref c.cNoRoad) (.ref c.cNoGame) = some false
  i_NoRoad_NoName : PySem.W.kitOne c.K (.ref c.cNoRoad) (.ref c.cNoName) = some false
  i_NoRoad_NoNumber : PySem.W.kitOne c.K (.ref c.cNoRoad) (.ref c.cNoNumber) = some false
  i_NoRoad_NoRoad : PySem.W.kitOne c.K (.ref c.cNoRoad) (.ref c.cNoRoad) = some true
  i_NoRoad_NoRow : PySem.W.kitOne c.K (.ref c.cNoRoad) (.ref c.cNoRow) = some false
  i_NoRoad_NoText : PySem.W.kitOne c.K (.ref c.cNoRoad) (.ref c.cNoText) = some false
  e_NoRow : ExcC c.K c.cNoRow
  iv_NoRow : PySem.W.kitOne c.K (.ref c.cNoRow) (.type "ValueError") = some true
  i_NoRow_GameError : PySem.W.kitOne c.K (.ref c.cNoRow) (.ref c.cGameError) = some true
  i_NoRow_NoBoard : PySem.W.kitOne c.K (.ref c.cNoRow) (.ref c.cNoBoard) = some false
  i_NoRow_NoGame : PySem.W.kitOne c.K (.ref c.cNoRow) (.ref c.cNoGame) = some false
  i_NoRow_NoName : PySem.W.kitOne c.K (.ref c.cNoRow) (.ref c.cNoName) = some false
  i_NoRow_NoNumber : PySem.W.kitOne c.K (.ref c.cNoRow) (.ref c.cNoNumber) = some false
  i_NoRow_NoRoad : PySem.W.kitOne c.K (.ref c.cNoRow) (.ref c.cNoRoad) = some false
  i_NoRow_NoRow : PySem.W.kitOne c.K (.ref c.cNoRow) (.ref c.cNoRow) = some true
  i_NoRow_NoText : PySem.W.kitOne c.K (.ref c.cNoRow) (.ref c.cNoText) = some false
  e_NoText : ExcC c.K c.cNoText
  iv_NoText : PySem.W.kitOne c.K (.ref c.cNoText) (.type "ValueError") = some true
  i_NoText_GameError : PySem.W.kitOne c.K (.ref c.cNoText) (.ref c.cGameError) = some true
  i_NoText_NoBoard : PySem.W.kitOne c.K (.ref c.cNoText) (.ref c.cNoBoard) = some false
  i_NoText_NoGame : PySem.W.kitOne c.K (.ref c.cNoText) (.ref c.cNoGame) = some false
  i_NoText_NoName : PySem.W.kitOne c.K (.ref c.cNoText) (.ref c.cNoName) = some false
  i_NoText_NoNumber : PySem.W.kitOne c.K (.ref c.cNoText) (.ref c.cNoNumber) = some false
  i_NoText_NoRoad : PySem.W.kitOne c.K (.ref c.cNoText) (.ref c.cNoRoad) = some false
  i_NoText_NoRow : PySem.W.kitOne c.K (.ref c.cNoText) (.ref c.cNoRow) = some false
  i_NoText_NoText : PySem.W.kitOne c.K (.ref c.cNoText) (.ref c.cNoText) = some true
  cl_Turns : Cls c.K c.cTurns
  na_Turns_book : NoAttr c.K c.cTurns "book"
  na_Turns_known : NoAttr c.K c.cTurns "known"
  cl_Putting : Cls c.K c.cPutting
  na_Putting_book : NoAttr c.K c.cPutting "book"
  na_Putting_sums : NoAttr c.K c.cPutting "sums"
  na_Putting_turned : NoAttr c.K c.cPutting "turned"
  cl_Book : Cls c.K c.cBook
  na_Book_depths : NoAttr c.K c.cBook "depths"
  na_Book_moves : NoAttr c.K c.cBook "moves"
  na_Book_numbers : NoAttr c.K c.cBook "numbers"
  F_Turns_init : ∃ (f : Addr) (fd : FuncData), Fun c.K "__init__" "Turns.__init__" s_Turns_init f fd ∧ Mk c.K c.cTurns f ∧ Binds c.K fd ["self", "book"] []
  F_Turns_row : ∃ (f : Addr) (fd : FuncData), Fun c.K "row" "Turns.row" s_Turns_row f fd ∧ Meth c.K c.cTurns "row" f ∧ Binds c.K fd ["self", "g", "side"] []
  F_Turns_wins : ∃ (f : Addr) (fd : FuncData), Fun c.K "wins" "Turns.wins" s_Turns_wins f fd ∧ Meth c.K c.cTurns "wins" f ∧ Binds c.K fd ["self", "g", "side"] []
  F_who_wins : ∃ (f : Addr) (fd : FuncData), Fun c.K "who_wins" "who_wins" s_who_wins f fd ∧ mg "who_wins" = some (.ref f) ∧ Binds c.K fd ["book", "g"] []
  F_winning_moves : ∃ (f : Addr) (fd : FuncData), Fun c.K "winning_moves" "winning_moves" s_winning_moves f fd ∧ mg "winning_moves" = some (.ref f) ∧ Binds c.K fd ["book", "g", "side"] []
  F_Putting_init : ∃ (f : Addr) (fd : FuncData), Fun c.K "__init__" "Putting.__init__" s_Putting_init f fd ∧ Mk c.K c.cPutting f ∧ Binds c.K fd ["self", "book"] []
  F_Putting_turn : ∃ (f : Addr) (fd : FuncData), Fun c.K "turn" "Putting.turn" s_Putting_turn f fd ∧ Meth c.K c.cPutting "turn" f ∧ Binds c.K fd ["self", "g"] []
  F_Putting_put : ∃ (f : Addr) (fd : FuncData), Fun c.K "put" "Putting.put" s_Putting_put f fd ∧ Meth c.K c.cPutting "put" f ∧ Binds c.K fd ["self", "g", "h"] []
  F_turned : ∃ (f : Addr) (fd : FuncData), Fun c.K "turned" "turned" s_turned f fd ∧ mg "turned" = some (.ref f) ∧ Binds c.K fd ["book", "g"] []
  F_put_together : ∃ (f : Addr) (fd : FuncData), Fun c.K "put_together" "put_together" s_put_together f fd ∧ mg "put_together" = some (.ref f) ∧ Binds c.K fd ["book", "g", "h"] []
  F_all_together : ∃ (f : Addr) (fd : FuncData), Fun c.K "all_together" "all_together" s_all_together f fd ∧ mg "all_together" = some (.ref f) ∧ Binds c.K fd ["book", "games"] []
  F_difference : ∃ (f : Addr) (fd : FuncData), Fun c.K "difference" "difference" s_difference f fd ∧ mg "difference" = some (.ref f) ∧ Binds c.K fd ["book", "g", "h"] []
  F_Book_init : ∃ (f : Addr) (fd : FuncData), Fun c.K "__init__" "Book.__init__" s_Book_init f fd ∧ Mk c.K c.cBook f ∧ Binds c.K fd ["self"] []
  F_Book_need : ∃ (f : Addr) (fd : FuncData), Fun c.K "need" "Book.need" s_Book_need f fd ∧ Meth c.K c.cBook "need" f ∧ Binds c.K fd ["self", "g"] []
  F_Book_game : ∃ (f : Addr) (fd : FuncData), Fun c.K "game" "Book.game" s_Book_game f fd ∧ Meth c.K c.cBook "game" f ∧ Binds c.K fd ["self", "lefts", "rights"] []
  F_Book_lefts : ∃ (f : Addr) (fd : FuncData), Fun c.K "lefts" "Book.lefts" s_Book_lefts f fd ∧ Meth c.K c.cBook "lefts" f ∧ Binds c.K fd ["self", "g"] []
  F_Book_rights : ∃ (f : Addr) (fd : FuncData), Fun c.K "rights" "Book.rights" s_Book_rights f fd ∧ Meth c.K c.cBook "rights" f ∧ Binds c.K fd ["self", "g"] []
  F_Book_depth : ∃ (f : Addr) (fd : FuncData), Fun c.K "depth" "Book.depth" s_Book_depth f fd ∧ Meth c.K c.cBook "depth" f ∧ Binds c.K fd ["self", "g"] []
  F_Book_many : ∃ (f : Addr) (fd : FuncData), Fun c.K "many" "Book.many" s_Book_many f fd ∧ Meth c.K c.cBook "many" f ∧ Binds c.K fd ["self"] []
  F_law_deck : ∃ (f : Addr) (fd : FuncData), Fun c.K "_law_deck" "_law_deck" s_law_deck f fd ∧ mg "_law_deck" = some (.ref f) ∧ Binds c.K fd ["script"] []
  F_law_draw : ∃ (f : Addr) (fd : FuncData), Fun c.K "_law_draw" "_law_draw" s_law_draw f fd ∧ mg "_law_draw" = some (.ref f) ∧ Binds c.K fd ["deck", "many"] []
  F_law_moves : ∃ (f : Addr) (fd : FuncData), Fun c.K "_law_moves" "_law_moves" s_law_moves f fd ∧ mg "_law_moves" = some (.ref f) ∧ Binds c.K fd ["deck", "many"] []
  F_law_grown : ∃ (f : Addr) (fd : FuncData), Fun c.K "_law_grown" "_law_grown" s_law_grown f fd ∧ mg "_law_grown" = some (.ref f) ∧ Binds c.K fd ["deck", "book", "many"] []
  F_law_kinds : ∃ (f : Addr) (fd : FuncData), Fun c.K "_law_kinds" "_law_kinds" s_law_kinds f fd ∧ mg "_law_kinds" = some (.ref f) ∧ Binds c.K fd ["caught", "due"] []
  F_law_asked : ∃ (f : Addr) (fd : FuncData), Fun c.K "_law_asked" "_law_asked" s_law_asked f fd ∧ mg "_law_asked" = some (.ref f) ∧ Binds c.K fd ["book", "way", "thing", "good", "at"] []
  F_law_refused : ∃ (f : Addr) (fd : FuncData), Fun c.K "_law_refused" "_law_refused" s_law_refused f fd ∧ mg "_law_refused" = some (.ref f) ∧ Binds c.K fd ["book", "way", "thing", "good", "at"] []
  F_law_answered : ∃ (f : Addr) (fd : FuncData), Fun c.K "_law_answered" "_law_answered" s_law_answered f fd ∧ mg "_law_answered" = some (.ref f) ∧ Binds c.K fd ["book", "number"] []
/-! the deck: what is drawn from it is any number -/
abbrev N_law_deck : List Str := ["script", "pools", "k", "cell"]
theorem sc_law_deck : FnScope N_law_deck ["script"] (defScope s_law_deck) := ⟨rfl, rfl, rfl, by decide +kernel, rfl, by decide +kernel, by decide +kernel⟩
def t_law_deck (c : Cn) : TS :=
  (tSeq (tAsg (tLst tNil) (gName 1))
  (tSeq (tFor (iRng1 (tCons (tCB (kMax c.K) (tCons (tC (.int 1)) (tCons (tCB (kMin c.K) (tCons (tC (.int 63)) (tCons (tCB (kLen c.K) (tCons (tVar 0) tNil)) tNil))) tNil))) tNil)) (gName 2)
  (tSeq (tAsg (tC (.int 0)) (gName 3))
  (C8.tCut (tIfS (tTest (tOp (cLt c.K) (tVar 2) (tCB (kLen c.K) (tCons (tVar 0) tNil))))
  (tAsg (tOp (bIx c.P c.w c.K) (tVar 0) (tVar 2)) (gName 3))
  tNext)
  (tDrop (tBM c.K "list" rAppend (tVar 1) (tCons (tLst (tCons (tVar 3) (tCons (tCB kInt (tCons (tOp cGe (tVar 3) (tOp bPow (tC (.int 10)) (tC (.int 18)))) tNil)) (tCons (tOp bMul (tC (.int 31)) (tVar 2)) tNil)))) tNil))))))
  (tRet (tLst (tCons (tVar 1) (tCons (tC (.int 0)) tNil))))))
abbrev N_law_draw : List Str := ["deck", "many", "pool", "found", "number"]
theorem sc_law_draw : FnScope N_law_draw ["deck", "many"] (defScope s_law_draw) := ⟨rfl, rfl, rfl, by decide +kernel, rfl, by decide +kernel, by decide +kernel⟩
def t_law_draw (c : Cn) : TS :=
  (tSeq (tAsg (tOp (bIx c.P c.w c.K) (tOp (bIx c.P c.w c.K) (tVar 0) (tC (.int 0))) (tOp bMod (tOp (bIx c.P c.w c.K) (tVar 0) (tC (.int 1))) (tCB (kLen c.K) (tCons (tOp (bIx c.P c.w c.K) (tVar 0) (tC (.int 0))) tNil)))) (gName 2))
  (tSeq (tAsg (tOp (bAdd c.K) (tOp (bIx c.P c.w c.K) (tVar 0) (tC (.int 1))) (tC (.int 1))) (gSub (tVar 0) (tC (.int 1)) (bSet c.P c.w)))
  (tSeq (tIfS (tAnd (tTest (tOp (cEq c.K) (tOp (bIx c.P c.w c.K) (tVar 2) (tC (.int 1))) (tC (.int 1)))) (tTest (tOp cGt (tOp (bIx c.P c.w c.K) (tVar 2) (tC (.int 0))) (tC (.int 0)))))
  (tSeq (tAsg (tOp bMod (tOp (bIx c.P c.w c.K) (tVar 2) (tC (.int 0))) (tVar 1)) (gName 3))
  (tSeq (tAsg (tOp bDiv (tOp (bIx c.P c.w c.K) (tVar 2) (tC (.int 0))) (tVar 1)) (gSub (tVar 2) (tC (.int 0)) (bSet c.P c.w)))
  (tRet (tVar 3))))
  tNext)
  (tSeq (tAsg (tOp (bAdd c.K) (tOp (bIx c.P c.w c.K) (tVar 2) (tC (.int 2))) (tC (.int 1))) (gSub (tVar 2) (tC (.int 2)) (bSet c.P c.w)))
  (tSeq (tAsg (tOp bMod (tOp (bAdd c.K) (tOp bMod (tOp (bIx c.P c.w c.K) (tVar 2) (tC (.int 0))) (tC (.int 99999999977))) (tOp bMul (tC (.int 700001)) (tOp (bIx c.P c.w c.K) (tVar 2) (tC (.int 2))))) (tC (.int 99999999947))) (gName 4))
  (tSeq (tAsg (tOp bMod (tOp bMul (tVar 4) (tVar 4)) (tC (.int 99999999821))) (gName 4))
  (tSeq (tAsg (tOp bMod (tOp bMul (tVar 4) (tOp (bAdd c.K) (tVar 4) (tC (.int 19)))) (tC (.int 9999999967))) (gName 4))
  (tRet (tOp bMod (tOp bDiv (tVar 4) (tC (.int 13))) (tVar 1))))))))))
structure DeckAt (H : Hp) (d : Addr) (M : Addr → Prop) : Prop where
  ex : ∃ (pl : Addr) (ps : List Addr) (i : Int), H d = some (.lst [.ref pl, .int i]) ∧ 0 ≤ i ∧ H pl = some (.lst (ps.map V.ref)) ∧ ps ≠ [] ∧ d ≠ pl ∧ M d ∧ M pl ∧
    (∀ q ∈ ps, M q ∧ q ≠ d ∧ q ≠ pl ∧ ∃ a b k, H q = some (.lst [.int a, .int b, .int k])) ∧ ∀ x, M x → x = d ∨ x = pl ∨ x ∈ ps
theorem keep_noneM {M : Addr → Prop} {H H' : Hp} {p : Addr} (k : Keep M H H') (n : ¬ M p) (h : H' p = none) : H p = none := by
  cases e : H p with
  | none => rfl
  | some o => rw [k p o n e] at h; cases h
theorem DeckAt.dom {H : Hp} {d : Addr} {M : Addr → Prop} (D : DeckAt H d M) {x : Addr} (h : M x) : H x ≠ none := by
  obtain ⟨pl, ps, i, h1, _, h2, _, _, _, _, h3, h4⟩ := D.ex
  rcases h4 x h with rfl | rfl | hx
  · rw [h1]; simp
  · rw [h2]; simp
  · obtain ⟨_, _, _, a, b, k, e⟩ := h3 x hx
    rw [e]; simp
theorem DeckAt.new {H : Hp} {d : Addr} {M : Addr → Prop} (D : DeckAt H d M) {x : Addr} (h : H x = none) : ¬ M x := fun z => D.dom z h
theorem DeckAt.keep {H H' : Hp} {d : Addr} {M N : Addr → Prop} (D : DeckAt H d M) (k : Keep N H H') (n : ∀ x, M x → ¬ N x) : DeckAt H' d M := by
  obtain ⟨pl, ps, i, h1, h0, h2, hp, ne, m1, m2, h3, h4⟩ := D.ex
  refine ⟨pl, ps, i, k _ _ (n _ m1) h1, h0, k _ _ (n _ m2) h2, hp, ne, m1, m2, fun q hq => ?_, h4⟩
  obtain ⟨m, e1, e2, a, b, c, e⟩ := h3 q hq
  exact ⟨m, e1, e2, a, b, c, k _ _ (n _ m) e⟩
def sp_law_draw (c : Cn) : Sp := fun vs H Q E => vs.length = 2 ∧ ∃ (d : Addr) (m : Int) (M : Addr → Prop), vs = [.ref d, .int m] ∧ 1 ≤ m ∧ m < 1073741824 ∧ DeckAt H d M ∧
  ∀ (H' : Hp) (n : Int), Keep M H H' → DeckAt H' d M → 0 ≤ n → n < m → Q (.int n) H'
theorem atI_get {xs : List V} {i : Int} {v : V} {n : Nat} (h : xs[n]? = some v) (e : i = n) : atI xs i = some v := by
  subst e
  have hn : n < xs.length := (List.getElem?_eq_some_iff.mp h).1
  unfold atI ixN
  rw [if_pos (Int.natCast_nonneg n), if_pos (by omega)]
  simpa using h
theorem p_law_draw {c : Cn} {mg : Str → Option Value} (T : Txt c mg) {vs : List V} {H : Hp} {Q : VK} {E : XK} (h : sp_law_draw c vs H Q E) : t_law_draw c { nx := fun _ H' => Q .non H', rt := Q } (start N_law_draw vs) H := by
  obtain ⟨_, d, m, M, rfl, m1, m2, D, k⟩ := h
  obtain ⟨pl, ps, i, h1, h0, h2, hp, ne, md, mpl, h3, h4⟩ := D.ex
  have hl : (0 : Int) < ps.length := by
    cases ps with
    | nil => exact absurd rfl hp
    | cons _ _ => simp only [List.length_cons]; omega
  have pos : (0 : Int) < (ps.map V.ref).length := by simpa using hl
  obtain ⟨q, hq, hqm⟩ : ∃ q, atI (ps.map V.ref) (i % ((ps.map V.ref).length : Int)) = some (V.ref q) ∧ q ∈ ps := by
    have b1 := Int.emod_nonneg i (Int.ne_of_gt pos)
    have b2 := Int.emod_lt_of_pos i pos
    obtain ⟨n, hn⟩ := Int.eq_ofNat_of_zero_le b1
    rw [hn] at b2 ⊢
    have lt : n < ps.length := by rw [List.length_map] at b2; omega
    exact ⟨ps[n], atI_get (n := n) (by simp [lt]) rfl, List.getElem_mem lt⟩
  obtain ⟨mq, qd, qp, a, b, k3, hq3⟩ := h3 q hqm
  -- the deck behind the turn
  have again : ∀ (H' : Hp), (∀ x o, x ≠ d → x ≠ q → H x = some o → H' x = some o) → H' d = some (.lst [.ref pl, .int (i + 1)]) → (∃ a b k, H' q = some (.lst [.int a, .int b, .int k])) → ∀ z : Int, Q (.int (z % m)) H' := by
    intro H' kp e1 e2 z
    refine k _ _ (fun x o nx hx => kp x o (fun z => nx (by rw [z]; exact md)) (fun z => nx (by rw [z]; exact mq)) hx) ⟨pl, ps, i + 1, e1, by omega, kp pl _ ne.symm qp.symm h2, hp, ne, md, mpl, fun x hx => ?_, h4⟩ (Int.emod_nonneg _ (by omega)) (Int.emod_lt_of_pos _ (by omega))
    obtain ⟨m1, n1, n2, a', b', k', e⟩ := h3 x hx
    refine ⟨m1, n1, n2, ?_⟩
    by_cases z : x = q
    · rw [z]; exact e2
    · exact ⟨a', b', k', kp x _ n1 z e⟩
  unfold t_law_draw
  repeat kaf_suf
  refine r_ite (fun e1 => ?_) (fun e1 => ?_) <;> repeat kaf_suf
  refine r_ite (fun e2 => ?_) (fun e2 => ?_) <;> repeat kaf_suf
  all_goals
    refine again _ (fun x o n1 n2 hx => ?_) ?_ ⟨_, _, _, upd_same⟩ _
    · kaf_pre
    · kaf_pre
theorem cal_law_draw {c : Cn} {mg : Str → Option Value} {base : Heap} (T : Txt c mg) : Cal c.P c.w c.K mg base CX0 1 "_law_draw" (sp_law_draw c) := by
  obtain ⟨f, fd, F, g, b⟩ := T.F_law_draw
  exact ⟨f, fd, ["deck", "many"], F.ok (k := 0) (N := N_law_draw) sc_law_draw (fun vs H Q E h => h.1) (fun cdv A outer s H vs Q E hr h => ⟨t_law_draw c, by
  exact (pss_cons (ps_set (i := 2) sc_law_draw.nd rfl (Or.inl rfl) (pe_ix (x_ix (hu64 hr)) (pe_ix (x_ix (hu64 hr)) (pv 0) pe_int (fun _ _ => rfl)) (pe_op o_mod (pe_ix (x_ix (hu64 hr)) (pv 0) pe_int (fun _ _ => rfl)) (pe_callB k_len (by rfl) T.n_len (by decide +kernel) (pa_cons (pe_ix (x_ix (hu64 hr)) (pv 0) pe_int (fun _ _ => rfl)) pa_nil))) (fun _ _ => rfl)))
  (pss_cons (ps_asg (pe_op o_add (pe_ix (x_ix (hu64 hr)) (pv 0) pe_int (fun _ _ => rfl)) pe_int) (pg_sub (pv 0) pe_int (s_set (hu64 hr))))
  (pss_cons (ps_if (PW.pt (pw_and (pt_cmpR (o_eq (hu64 hr)) (pe_ix (x_ix (hu64 hr)) (pv 2) pe_int (fun _ _ => rfl)) pe_int (nomark _)) (pw_and1 (pt_cmpR o_gt (pe_ix (x_ix (hu64 hr)) (pv 2) pe_int (fun _ _ => rfl)) pe_int (nomark _))))) (pss_cons (ps_set (i := 3) sc_law_draw.nd rfl (Or.inl rfl) (pe_op o_mod (pe_ix (x_ix (hu64 hr)) (pv 2) pe_int (fun _ _ => rfl)) (pv 1)))
  (pss_cons (ps_asg (pe_op o_div (pe_ix (x_ix (hu64 hr)) (pv 2) pe_int (fun _ _ => rfl)) (pv 1)) (pg_sub (pv 2) pe_int (s_set (hu64 hr))))
  (pss_one (ps_ret (pv 3))))) pss_nil)
  (pss_cons (ps_asg (pe_op o_add (pe_ix (x_ix (hu64 hr)) (pv 2) pe_int (fun _ _ => rfl)) pe_int) (pg_sub (pv 2) pe_int (s_set (hu64 hr))))
  (pss_cons (ps_set (i := 4) sc_law_draw.nd rfl (Or.inl rfl) (pe_op o_mod (pe_op o_add (pe_op o_mod (pe_ix (x_ix (hu64 hr)) (pv 2) pe_int (fun _ _ => rfl)) pe_int) (pe_op o_mul pe_int (pe_ix (x_ix (hu64 hr)) (pv 2) pe_int (fun _ _ => rfl)))) pe_int))
  (pss_cons (ps_set (i := 4) sc_law_draw.nd rfl (Or.inl rfl) (pe_op o_mod (pe_op o_mul (pv 4) (pv 4)) pe_int))
  (pss_cons (ps_set (i := 4) sc_law_draw.nd rfl (Or.inl rfl) (pe_op o_mod (pe_op o_mul (pv 4) (pe_op o_add (pv 4) pe_int)) pe_int))
  (pss_one (ps_ret (pe_op o_mod (pe_op o_div (pv 4) pe_int) (pv 1))))))))))), p_law_draw T h⟩), g, F.kp, b⟩
def sp_law_deck (c : Cn) : Sp := fun vs H Q E => vs.length = 1 ∧ ∃ (a : Addr) (ns : List Int), vs = [.ref a] ∧ SqL c.K H a (ns.map V.int) ∧ ns.length ≤ 63 ∧
  ∀ (H' : Hp) (d : Addr) (M : Addr → Prop), Keep Nil H H' → DeckAt H' d M → (∀ x, M x → H x = none) → Q (.ref d) H'
theorem p_law_deck {c : Cn} {mg : Str → Option Value} (T : Txt c mg) {vs : List V} {H : Hp} {Q : VK} {E : XK} (h : sp_law_deck c vs H Q E) : t_law_deck c { nx := fun _ H' => Q .non H', rt := Q } (start N_law_deck vs) H := by
  obtain ⟨_, a, ns, rfl, hs, few, k⟩ := h
  unfold t_law_deck
  repeat kaf_suf
  intro pl hpl
  have hl : (ns.map V.int).length ≤ 63 := by rw [List.length_map]; exact few
  repeat kaf_suf
  generalize hn : (if (if (↑(List.map V.int ns).length : Int) < 63 then (↑(List.map V.int ns).length : Int) else 63) > 1 then (if (↑(List.map V.int ns).length : Int) < 63 then (↑(List.map V.int ns).length : Int) else 63) else 1) = n
  have n1 : 1 ≤ n := by rw [← hn]; split <;> omega
  have n2 : n ≤ 63 := by rw [← hn]; split <;> (try split) <;> omega
  repeat kaf_suf
  refine for_range (lo := 0) (n := n.toNat) (fun i σ H' => ∃ (ps : List Addr) (x y : Option V), σ = [some (.ref a), some (.ref pl), x, y] ∧ H' pl = some (.lst (ps.map V.ref)) ∧ ps.length = i ∧ Keep Nil H H' ∧
    ∀ q ∈ ps, H q = none ∧ q ≠ pl ∧ ∃ a b c, H' q = some (.lst [.int a, .int b, .int c])) ⟨[], none, none, rfl, upd_same, rfl, Keep.alloc hpl, fun _ z => nomatch z⟩ ?_ ?_
  · rintro i σ H1 hi ⟨ps, x, y, rfl, e1, e2, kp, e3⟩
    have i63 : i < 63 := by omega
    repeat kaf_suf
    refine ⟨fun σ' H' => H' = H1 ∧ ∃ z : Int, σ' = [some (.ref a), some (.ref pl), some (.int (0 + i)), some (.int z)], ?_, ?_⟩
    · repeat kaf_suf
      refine r_ite (fun h => ?_) (fun h => ?_)
      · have lt : i < ns.length := by rw [List.length_map] at h; omega
        have hz : atI (ns.map V.int) (0 + (i : Int)) = some (V.int ns[i]) := atI_get (n := i) (by simp [lt]) (by omega)
        repeat kaf_suf
        exact ⟨rfl, _, rfl⟩
      · repeat kaf_suf
        exact ⟨rfl, _, rfl⟩
    · rintro σ' H' ⟨rfl, z, rfl⟩
      repeat kaf_suf
      intro p hp
      have npl : p ≠ pl := ne_new hp e1
      have hp0 := keep_none kp hp
      repeat kaf_suf
      refine ⟨ps ++ [p], _, _, rfl, ?_, by simp [e2], (kp.new hp).setN hpl, fun q hq => ?_⟩
      · rw [List.map_append]; exact upd_same
      · rcases List.mem_append.mp hq with hq | hq
        · obtain ⟨f1, f2, x, y, z, f3⟩ := e3 q hq
          exact ⟨f1, f2, x, y, z, by kaf_pre⟩
        · cases List.mem_singleton.mp hq
          exact ⟨hp0, npl, _, _, _, get_set npl upd_same⟩
  · rintro σ H1 ⟨ps, x, y, rfl, e1, e2, kp, e3⟩
    repeat kaf_suf
    intro d hd
    have ndp : d ≠ pl := ne_new hd e1
    refine k _ d (fun x => x = d ∨ x = pl ∨ x ∈ ps) (kp.new hd) ⟨pl, ps, 0, upd_same, Int.le_refl _, by kaf_pre, ?_, ndp, .inl rfl, .inr (.inl rfl), fun q hq => ?_, fun _ h => h⟩ fun x hx => ?_
    · intro z; rw [z] at e2; simp at e2; omega
    · obtain ⟨f1, f2, x, y, z, f3⟩ := e3 q hq
      exact ⟨.inr (.inr hq), ne_old hd f3, f2, x, y, z, by kaf_pre⟩
    · rcases hx with rfl | rfl | hx
      · exact keep_none kp hd
      · exact hpl
      · exact (e3 x hx).1
theorem cal_law_deck {c : Cn} {mg : Str → Option Value} {base : Heap} (T : Txt c mg) : Cal c.P c.w c.K mg base CX0 1 "_law_deck" (sp_law_deck c) := by
  obtain ⟨f, fd, F, g, b⟩ := T.F_law_deck
  exact ⟨f, fd, ["script"], F.ok (k := 0) (N := N_law_deck) sc_law_deck (fun vs H Q E h => h.1) (fun cdv A outer s H vs Q E hr h => ⟨t_law_deck c, by
  exact (pss_cons (ps_set (i := 1) sc_law_deck.nd rfl (Or.inl rfl) (pe_lst pa_nil))
  (pss_cons (ps_for PassesOwn.never rfl (pi_range1 rfl T.n_range (pa_cons (pe_callB (k_max rfl) (by rfl) T.n_max (by decide +kernel) (pa_cons pe_int (pa_cons (pe_callB (k_min rfl) (by rfl) T.n_min (by decide +kernel) (pa_cons pe_int (pa_cons (pe_callB k_len (by rfl) T.n_len (by decide +kernel) (pa_cons (pv 0) pa_nil)) pa_nil))) pa_nil))) pa_nil)) (pg_name (i := 2) sc_law_deck.nd rfl (Or.inl rfl))
  (pss_cons (ps_set (i := 3) sc_law_deck.nd rfl (Or.inl rfl) pe_int)
  (C8.pss_cut (ps_if (pt_cmpR (o_lt (hu64 hr)) (pv 2) (pe_callB k_len (by rfl) T.n_len (by decide +kernel) (pa_cons (pv 0) pa_nil)) (nomark _)) (pss_one (ps_set (i := 3) sc_law_deck.nd rfl (Or.inl rfl) (pe_ix (x_ix (hu64 hr)) (pv 0) (pv 2) (fun _ _ => rfl)))) pss_nil)
  (pss_one (ps_expr (pe_bm PySem.F.plainAttrs_list PySem.F.slot_list_append PySem.F.type_list_append mt_append (pv 1) (pa_cons (pe_lst (pa_cons (pv 3) (pa_cons (pe_callTy k_int (by rfl) T.n_int (by decide +kernel) (pa_cons (pe_cmpR o_ge (pv 3) (pe_op o_pow pe_int pe_int) (nomark _)) pa_nil)) (pa_cons (pe_op o_mul pe_int (pv 2)) pa_nil)))) pa_nil)))))))
  (pss_one (ps_ret (pe_lst (pa_cons (pv 1) (pa_cons pe_int pa_nil))))))), p_law_deck T h⟩), g, F.kp, b⟩

/-! the book -/
/-- the rising list of the members -/
def ins (x : Int) : List Int → List Int
  | [] => [x]
  | y :: r => if x < y then x :: y :: r else if x = y then y :: r else y :: ins x r
def canon (l : List Int) : List Int := l.foldr ins []
theorem ins_mem {x z : Int} : ∀ {l : List Int}, z ∈ ins x l ↔ z = x ∨ z ∈ l
  | [] => by simp [ins]
  | y :: r => by
    unfold ins
    split
    · simp
    · split
      · rename_i e; subst e; simp
      · rw [List.mem_cons, ins_mem, List.mem_cons]; constructor
        · rintro (h | h | h) <;> simp [h]
        · rintro (h | h | h) <;> simp [h]
theorem ins_up {x : Int} : ∀ {l : List Int}, l.Pairwise (· < ·) → (ins x l).Pairwise (· < ·)
  | [], _ => by simp [ins]
  | y :: r, h => by
    have h' := List.pairwise_cons.mp h
    unfold ins
    split
    · rename_i lt
      refine List.pairwise_cons.mpr ⟨fun z hz => ?_, h⟩
      rcases List.mem_cons.mp hz with e | hz
      · omega
      · have := h'.1 z hz; omega
    · split
      · exact h
      · refine List.pairwise_cons.mpr ⟨fun z hz => ?_, ins_up h'.2⟩
        rcases ins_mem.mp hz with e | hz
        · omega
        · exact h'.1 z hz
theorem canon_mem {z : Int} : ∀ {l : List Int}, z ∈ canon l ↔ z ∈ l
  | [] => by simp [canon]
  | y :: r => by
    show z ∈ ins y (canon r) ↔ _
    rw [ins_mem, canon_mem, List.mem_cons]
theorem canon_up : ∀ (l : List Int), (canon l).Pairwise (· < ·)
  | [] => List.Pairwise.nil
  | y :: r => ins_up (canon_up r)
theorem up_eq : ∀ {a b : List Int}, a.Pairwise (· < ·) → b.Pairwise (· < ·) → (∀ z, z ∈ a ↔ z ∈ b) → a = b
  | [], [], _, _, _ => rfl
  | [], y :: r, _, _, h => absurd ((h y).mpr List.mem_cons_self) (by simp)
  | x :: a, [], _, _, h => absurd ((h x).mp List.mem_cons_self) (by simp)
  | x :: a, y :: b, ha, hb, h => by
    have ha' := List.pairwise_cons.mp ha
    have hb' := List.pairwise_cons.mp hb
    have e : x = y := by
      rcases List.mem_cons.mp ((h x).mp List.mem_cons_self) with e | h1
      · exact e
      · rcases List.mem_cons.mp ((h y).mpr List.mem_cons_self) with e | h2
        · exact e.symm
        · have := hb'.1 x h1; have := ha'.1 y h2; omega
    subst e
    refine congrArg (x :: ·) (up_eq ha'.2 hb'.2 fun z => ⟨fun hz => ?_, fun hz => ?_⟩)
    · rcases List.mem_cons.mp ((h z).mp (List.mem_cons_of_mem _ hz)) with e | h1
      · have := ha'.1 z hz; omega
      · exact h1
    · rcases List.mem_cons.mp ((h z).mpr (List.mem_cons_of_mem _ hz)) with e | h1
      · have := hb'.1 z hz; omega
      · exact h1
theorem canon_eq {l ns : List Int} (h1 : ns.Pairwise (· < ·)) (h2 : ∀ z, z ∈ ns ↔ z ∈ l) : ns = canon l := up_eq h1 (canon_up l) fun z => by rw [h2, canon_mem]
theorem ins_len (x : Int) : ∀ (l : List Int), (ins x l).length ≤ l.length + 1
  | [] => by simp [ins]
  | y :: r => by
    have := ins_len x r
    unfold ins
    split
    · simp
    · split
      · simp
      · simp only [List.length_cons]; omega
theorem canon_len' : ∀ (l : List Int), (canon l).length ≤ l.length
  | [] => by simp [canon]
  | y :: r => by
    have h1 := canon_len' r
    have h2 := ins_len y (canon r)
    show (ins y (canon r)).length ≤ _
    simp only [List.length_cons]; omega
theorem canon_self {l : List Int} (h : l.Pairwise (· < ·)) : canon l = l := (canon_eq h fun _ => Iff.rfl).symm
/-- a game: left's moves, right's -/
abbrev Gm := List Int × List Int
def gkey (g : Gm) : NestedKey := .tup [.tup (g.1.map .num), .tup (g.2.map .num)]
theorem num_inj : ∀ {a b : List Int}, a.map NestedKey.num = b.map NestedKey.num → a = b
  | [], [], _ => rfl
  | [], _ :: _, h => by simp at h
  | _ :: _, [], h => by simp at h
  | x :: a, y :: b, h => by
    rw [List.map_cons, List.map_cons] at h
    injection h with h1 h2
    injection h1 with h1
    rw [h1, num_inj h2]
theorem gkey_inj {a b : Gm} (h : gkey a = gkey b) : a = b := by
  unfold gkey at h
  injection h with h
  injection h with h1 h2
  injection h1 with h1
  injection h2 with h2 _
  injection h2 with h2
  exact Prod.ext (num_inj h1) (num_inj h2)
/-- the depths of the moves -/
def dps (ds ms : List Int) : List Int := ms.map fun m => ds[m.toNat]?.getD 0
def deepest (ds : List Int) (ms : List Int) (d : Int) : Prop := (ms = [] → d = 0) ∧ (∀ x ∈ dps ds ms, x + 1 ≤ d) ∧ (ms ≠ [] → ∃ x ∈ dps ds ms, d = x + 1)
theorem dps_more {ds e ms : List Int} (h : ∀ m ∈ ms, 0 ≤ m ∧ m < ds.length) : dps (ds ++ e) ms = dps ds ms := by
  refine List.map_congr_left fun m hm => ?_
  obtain ⟨h1, h2⟩ := h m hm
  rw [List.getElem?_append_left (by omega)]
/-- what holds of a book's games -/
structure GOk (gs : List Gm) : Prop where
  zero : gs[0]? = some ([], [])
  nd : gs.Nodup
  up : ∀ g ∈ gs, g.1.Pairwise (· < ·) ∧ g.2.Pairwise (· < ·)
  low : ∀ (i : Nat) (g : Gm), gs[i]? = some g → ∀ m ∈ g.1 ++ g.2, 0 ≤ m ∧ m < i
/-- the depths -/
structure DOk (gs : List Gm) (ds : List Int) : Prop where
  len : ds.length = gs.length
  at_ : ∀ (i : Nat) (g : Gm) (d : Int), gs[i]? = some g → ds[i]? = some d → deepest ds (g.1 ++ g.2) d
def bookFs (mv nm dp : Addr) : List (Str × V) := [("moves", .ref mv), ("numbers", .ref nm), ("depths", .ref dp)]
theorem bookFs_moves {mv nm dp : Addr} : (bookFs mv nm dp).lookup ("moves" : Str) = some (.ref mv) := by rfl
theorem bookFs_numbers {mv nm dp : Addr} : (bookFs mv nm dp).lookup ("numbers" : Str) = some (.ref nm) := by rfl
theorem bookFs_depths {mv nm dp : Addr} : (bookFs mv nm dp).lookup ("depths" : Str) = some (.ref dp) := by rfl
theorem bookFs_need {mv nm dp : Addr} : (bookFs mv nm dp).lookup ("need" : Str) = none := by rfl
theorem bookFs_game {mv nm dp : Addr} : (bookFs mv nm dp).lookup ("game" : Str) = none := by rfl
theorem bookFs_lefts {mv nm dp : Addr} : (bookFs mv nm dp).lookup ("lefts" : Str) = none := by rfl
theorem bookFs_rights {mv nm dp : Addr} : (bookFs mv nm dp).lookup ("rights" : Str) = none := by rfl
theorem bookFs_depth {mv nm dp : Addr} : (bookFs mv nm dp).lookup ("depth" : Str) = none := by rfl
theorem bookFs_many {mv nm dp : Addr} : (bookFs mv nm dp).lookup ("many" : Str) = none := by rfl
/-- the tuple at t is the game g -/
def GAt (H : Hp) (t : Addr) (g : Gm) : Prop := ∃ a b, H t = some (.tup [.ref a, .ref b]) ∧ H a = some (.tup (g.1.map V.int)) ∧ H b = some (.tup (g.2.map V.int))
structure BookAt (c : Cn) (H : Hp) (b : Addr) (M : Addr → Prop) (gs : List Gm) (ds : List Int) : Prop where
  ok : GOk gs
  dok : DOk gs ds
  ex : ∃ (dx mv nm dp : Addr) (ts : List Addr) (xs : List NX), H b = some (.ins c.cBook dx (bookFs mv nm dp)) ∧ H mv = some (.lst (ts.map V.ref)) ∧ Paired (GAt H) ts gs ∧
    NdAt c.P c.w H nm xs ∧ xs.length = gs.length ∧ (∀ g : Gm, nval xs (gkey g) = if g ∈ gs then some (V.int (gs.idxOf g)) else none) ∧ H dp = some (.lst (ds.map V.int)) ∧
    M mv ∧ M nm ∧ M dp ∧ mv ≠ dp ∧ ∀ x, M x → x = mv ∨ x = nm ∨ x = dp
theorem BookAt.ins_ {c : Cn} {H : Hp} {b : Addr} {M : Addr → Prop} {gs : List Gm} {ds : List Int} (B : BookAt c H b M gs ds) : ∃ dx mv nm dp, H b = some (.ins c.cBook dx (bookFs mv nm dp)) := by
  obtain ⟨dx, mv, nm, dp, _, _, h, _⟩ := B.ex
  exact ⟨dx, mv, nm, dp, h⟩
theorem paired_get {α β : Type} {R : α → β → Prop} : ∀ {xs : List α} {ys : List β} {i : Nat} {y : β}, Paired R xs ys → ys[i]? = some y → ∃ x, xs[i]? = some x ∧ R x y
  | _, _, _, _, .nil, h => by simp at h
  | _, _, 0, _, .cons r _, h => by simp at h; subst h; exact ⟨_, rfl, r⟩
  | _, _, i + 1, _, .cons _ t, h => by
    obtain ⟨x, h1, h2⟩ := paired_get (i := i) t (by simpa using h)
    exact ⟨x, by simpa using h1, h2⟩
theorem paired_keep {α β : Type} {R S : α → β → Prop} {xs : List α} {ys : List β} (h : Paired R xs ys) (f : ∀ a b, R a b → S a b) : Paired S xs ys := Paired.mapP h f
theorem GAt.keep {H H' : Hp} {t : Addr} {g : Gm} (h : GAt H t g) (k : ∀ b xs, H b = some (.tup xs) → H' b = some (.tup xs)) : GAt H' t g := by
  obtain ⟨a, b, h1, h2, h3⟩ := h
  exact ⟨a, b, k _ _ h1, k _ _ h2, k _ _ h3⟩
section
variable {c : Cn} {H H' : Hp} {b : Addr} {M N : Addr → Prop} {gs : List Gm} {ds : List Int}
theorem BookAt.cell (B : BookAt c H b M gs ds) {x : Addr} (h : M x) : (∃ l, H x = some (.lst l)) ∨ ∃ φ, H x = some (.ext φ) := by
  obtain ⟨dx, mv, nm, dp, ts, xs, _, h2, _, h4, _, _, h7, _, _, _, _, h8⟩ := B.ex
  rcases h8 x h with rfl | rfl | rfl
  · exact .inl ⟨_, h2⟩
  · exact .inr ⟨_, h4.here⟩
  · exact .inl ⟨_, h7⟩
theorem BookAt.new (B : BookAt c H b M gs ds) {x : Addr} (h : H x = none) : ¬ M x := fun z => by
  rcases B.cell z with ⟨_, e⟩ | ⟨_, e⟩ <;> rw [h] at e <;> cases e
theorem BookAt.tupN (B : BookAt c H b M gs ds) {x : Addr} {l : List V} (h : H x = some (.tup l)) : ¬ M x := fun z => by
  rcases B.cell z with ⟨_, e⟩ | ⟨_, e⟩ <;> rw [h] at e <;> cases e
theorem BookAt.insN (B : BookAt c H b M gs ds) {x C dx : Addr} {l : List (Str × V)} (h : H x = some (.ins C dx l)) : ¬ M x := fun z => by
  rcases B.cell z with ⟨_, e⟩ | ⟨_, e⟩ <;> rw [h] at e <;> cases e
theorem BookAt.keep (B : BookAt c H b M gs ds) (k : Keep N H H') (n : ∀ x, N x → ∃ l, H x = some (.lst l)) (d : ∀ x, M x → ¬ N x) : BookAt c H' b M gs ds := by
  obtain ⟨dx, mv, nm, dp, ts, xs, h1, h2, h3, h4, h5, h6, h7, m1, m2, m3, ne, h8⟩ := B.ex
  have kt : ∀ q ys, H q = some (.tup ys) → H' q = some (.tup ys) := fun q ys e => k _ _ (fun z => by obtain ⟨l, e'⟩ := n q z; rw [e] at e'; cases e') e
  refine ⟨B.ok, B.dok, dx, mv, nm, dp, ts, xs, k _ _ (fun z => ?_) h1, k _ _ (d _ m1) h2, paired_keep h3 fun t g q => q.keep kt, ⟨k _ _ (d _ m2) h4.here, fun x hx => ⟨NkV.keeps kt _ _ (h4.keys x hx).1, (h4.keys x hx).2⟩⟩, h5, h6, k _ _ (d _ m3) h7, m1, m2, m3, ne, h8⟩
  obtain ⟨l, e'⟩ := n b z; rw [h1] at e'; cases e'
theorem BookAt.same (B : BookAt c H b M gs ds) (k : Keep Nil H H') : BookAt c H' b M gs ds := B.keep k (fun _ z => z.elim) fun _ _ z => z
theorem BookAt.pos (B : BookAt c H b M gs ds) : 0 < gs.length := by
  have := B.ok.zero
  exact (List.getElem?_eq_some_iff.mp this).1
end
local macro_rules | `(tactic| kaf_suf) => `(tactic| first
  | ((with_reducible refine' r_kfld ?a (Txt.cl_Book (by assumption)) (Txt.na_Book_moves (by assumption)) bookFs_moves ?_); (case a => (kaf_pre; done)))
  | ((with_reducible refine' r_kfld ?a (Txt.cl_Book (by assumption)) (Txt.na_Book_numbers (by assumption)) bookFs_numbers ?_); (case a => (kaf_pre; done)))
  | ((with_reducible refine' r_kfld ?a (Txt.cl_Book (by assumption)) (Txt.na_Book_depths (by assumption)) bookFs_depths ?_); (case a => (kaf_pre; done)))
  | ((with_reducible refine' r_kmeth ?a ?b ?_); (case a => (kaf_pre; done)); (case b => (first | exact bookFs_need | exact bookFs_game | exact bookFs_lefts | exact bookFs_rights | exact bookFs_depth | exact bookFs_many))))

/-- what is a game's number, what is none -/
def GoodV (n : Nat) (v : V) : Prop := ∃ i : Int, v = .int i ∧ 0 ≤ i ∧ i < n
inductive BadV (H : Hp) (n : Nat) : V → Prop
  | int {i : Int} : (i < 0 ∨ (n : Int) ≤ i) → BadV H n (.int i)
  | bl (b : Bool) : BadV H n (.bl b)
  | non : BadV H n .non
  | str (s : Str) : BadV H n (.str s)
  | lst {a : Addr} {xs : List V} : H a = some (.lst xs) → BadV H n (.ref a)
  | tup {a : Addr} {xs : List V} : H a = some (.tup xs) → BadV H n (.ref a)
  | dic {a : Addr} {kvs : List (L2.Key × V)} : H a = some (.dK kvs) → BadV H n (.ref a)
theorem BadV.keep {H H' : Hp} {n : Nat} {v : V} (b : BadV H n v) (k : Keep Nil H H') : BadV H' n v := by
  cases b with
  | int h => exact .int h
  | bl b => exact .bl b
  | non => exact .non
  | str s => exact .str s
  | lst h => exact .lst (k.get (fun z => z) h)
  | tup h => exact .tup (k.get (fun z => z) h)
  | dic h => exact .dic (k.get (fun z => z) h)
theorem GoodV.not {H : Hp} {n : Nat} {v : V} (g : GoodV n v) (b : BadV H n v) : False := by
  obtain ⟨i, rfl, h0, h1⟩ := g
  cases b with
  | int h => omega
abbrev N_Book_need : List Str := ["self", "g"]
theorem sc_Book_need : FnScope N_Book_need ["self", "g"] (defScope s_Book_need) := ⟨rfl, rfl, rfl, by decide +kernel, rfl, by decide +kernel, by decide +kernel⟩
def t_Book_need (c : Cn) (E : XK) : TS :=
  (tIfS (tOr (tNot (tTru c.K (tCB (rIsi c.K) (tCons (tVar 1) (tCons (tC (.ty "int")) tNil))))) (tOr (tTru c.K (tCB (rIsi c.K) (tCons (tVar 1) (tCons (tC (.ty "bool")) tNil)))) (tOr (tTest (tOp (cLt c.K) (tVar 1) (tC (.int 0)))) (tTest (tOp cGe (tVar 1) (tCB (kLen c.K) (tCons (tFld c.K (tVar 0) "moves") tNil)))))))
  (tRaiseC c.cNoGame (fun cls d _ H => E cls d H))
  tNext)
def sp_Book_need (c : Cn) : Sp := fun vs H Q E => vs.length = 2 ∧ ∃ (b : Addr) (M : Addr → Prop) (gs : List Gm) (ds : List Int) (g : Int), vs = [.ref b, .int g] ∧ BookAt c H b M gs ds ∧ 0 ≤ g ∧ g < gs.length ∧ Q .non H
theorem p_Book_need {c : Cn} {mg : Str → Option Value} (T : Txt c mg) {vs : List V} {H : Hp} {Q : VK} {E : XK} (h : sp_Book_need c vs H Q E) : t_Book_need c E { nx := fun _ H' => Q .non H', rt := Q } (start N_Book_need vs) H := by
  obtain ⟨_, b, M, gs, ds, g, rfl, B, g0, g1, k⟩ := h
  obtain ⟨dx, mv, nm, dp, ts, xs, h1, h2, h3, h4, h5, h6, h7, m1, m2, m3, ne, h8⟩ := B.ex
  have hl : ((ts.map V.ref).length : Int) = gs.length := by rw [List.length_map, Paired.length h3]
  unfold t_Book_need
  repeat kaf_suf
  exact k
def sy_Book_need (c : Cn) : Sp := fun vs H Q E => vs.length = 2 ∧ ∃ (b : Addr) (M : Addr → Prop) (gs : List Gm) (ds : List Int) (v : V), vs = [.ref b, v] ∧ BookAt c H b M gs ds ∧ BadV H gs.length v ∧ E (.ref c.cNoGame) none H
theorem q_Book_need {c : Cn} {mg : Str → Option Value} (T : Txt c mg) {vs : List V} {H : Hp} {Q : VK} {E : XK} (h : sy_Book_need c vs H Q E) : t_Book_need c E { nx := fun _ H' => Q .non H', rt := Q } (start N_Book_need vs) H := by
  obtain ⟨_, b, M, gs, ds, v, rfl, B, bad, k⟩ := h
  obtain ⟨dx, mv, nm, dp, ts, xs, h1, h2, h3, h4, h5, h6, h7, m1, m2, m3, ne, h8⟩ := B.ex
  have hl : ((ts.map V.ref).length : Int) = gs.length := by rw [List.length_map, Paired.length h3]
  unfold t_Book_need
  have out : tRaiseC c.cNoGame (fun cls d _ H => E cls d H) { nx := fun _ H' => Q .non H', rt := Q } (start N_Book_need [V.ref b, v]) H := r_raiseC k
  cases bad with
  | @int i h =>
    by_cases lo : i < 0
    · (repeat kaf_suf)
      exact out
    · (repeat kaf_suf)
      exact out
  | bl b => (repeat kaf_suf); exact out
  | non => (repeat kaf_suf); exact out
  | str s => (repeat kaf_suf); exact out
  | lst h => (repeat kaf_suf); exact out
  | tup h => (repeat kaf_suf); exact out
  | dic h =>
    (repeat kaf_suf)
    refine v_isi (.ty "int") (.base (.dK h)) (kit_ty kit_dict_int) ?_
    (repeat kaf_suf)
    exact out
def sx_Book_need (c : Cn) : Sp := fun vs H Q E => vs.length = 2 ∧ (sp_Book_need c vs H Q E ∨ sy_Book_need c vs H Q E)
theorem metx_Book_need {c : Cn} {mg : Str → Option Value} {base : Heap} (T : Txt c mg) : Met c.P c.w c.K mg base (L2.CX c.P c.w) 1 c.cBook "need" (sx_Book_need c) := by
  obtain ⟨f, fd, F, g, b⟩ := T.F_Book_need
  exact ⟨f, fd, ["self", "g"], T.cl_Book, g, F.okX (k := 0) (N := N_Book_need) sc_Book_need (fun vs H Q E h => h.1) (fun cdv A outer s H vs Q E hr h => ⟨t_Book_need c E, by
  exact (pss_one (ps_if (PW.pt (pw_or (pt_not (p_tru (pe_callB k_isi (by rfl) T.n_isinstance (by decide +kernel) (pa_cons (pv 1) (pa_cons (pe_bltn rfl T.n_int (by decide +kernel) rfl) pa_nil))))) (pw_or (p_tru (pe_callB k_isi (by rfl) T.n_isinstance (by decide +kernel) (pa_cons (pv 1) (pa_cons (pe_bltn rfl T.n_bool (by decide +kernel) rfl) pa_nil)))) (pw_or (pt_cmpR (o_lt (hu64 hr)) (pv 1) pe_int (nomark _)) (pw_or1 (pt_cmpR o_ge (pv 1) (pe_callB k_len (by rfl) T.n_len (by decide +kernel) (pa_cons (pe_fld (pv 0) rfl) pa_nil)) (nomark _))))))) (pss_one (ps_raiseC rfl (takes_of rfl rfl rfl rfl) T.x_NoGame rfl)) pss_nil)), h.2.elim (p_Book_need T) (q_Book_need T)⟩), b⟩
theorem met_Book_need {c : Cn} {mg : Str → Option Value} {base : Heap} (T : Txt c mg) : Met c.P c.w c.K mg base (L2.CX c.P c.w) 1 c.cBook "need" (sp_Book_need c) := by
  obtain ⟨f, fd, ps, cl, m, F, b⟩ := (metx_Book_need T).ex
  exact ⟨⟨f, fd, ps, cl, m, F.imp fun vs H Q E h => ⟨h.1, .inl h⟩, b⟩⟩
/-! the games behind a putting -/
def addG (gs : List Gm) (k : Gm) : List Gm := if k ∈ gs then gs else gs ++ [k]
def ixG (gs : List Gm) (k : Gm) : Nat := gs.idxOf k
theorem nk_nums {H : Hp} : ∀ (l : List Int), NkVs H (l.map .num) (l.map V.int)
  | [] => by simp [NkVs]
  | x :: r => by
    simp only [List.map_cons, NkVs]
    exact ⟨_, _, rfl, by simp [NkV], nk_nums r⟩
theorem GAt.nk {H : Hp} {t : Addr} {g : Gm} (h : GAt H t g) : NkV H (gkey g) (.ref t) := by
  obtain ⟨a, b, h1, h2, h3⟩ := h
  unfold gkey
  simp only [NkV]
  refine ⟨t, _, rfl, h1, ?_⟩
  simp only [NkVs, NkV]
  exact ⟨_, _, rfl, ⟨a, _, rfl, h2, nk_nums _⟩, _, _, rfl, ⟨b, _, rfl, h3, nk_nums _⟩, rfl⟩
theorem dep_nums : ∀ (l : List Int), NestedKey.depthAll (l.map .num) ≤ 0
  | [] => by simp [NestedKey.depthAll]
  | x :: r => by
    have := dep_nums r
    simp only [List.map_cons, NestedKey.depthAll, NestedKey.depth]; omega
theorem gkey_depth (g : Gm) : (gkey g).depth ≤ 8 := by
  have h1 := dep_nums g.1
  have h2 := dep_nums g.2
  unfold gkey
  simp only [NestedKey.depth, NestedKey.depthAll]; omega
theorem nd_neL {P : Program} {w : World} {H : Hp} {a x : Addr} {xs : List NX} {l : List V} (N : NdAt P w H a xs) (h : H x = some (.lst l)) : x ≠ a := fun z => by
  rw [z, N.here] at h; unfold NdO at h; cases Option.some.inj h
theorem nd_neT {P : Program} {w : World} {H : Hp} {a x : Addr} {xs : List NX} {l : List V} (N : NdAt P w H a xs) (h : H x = some (.tup l)) : x ≠ a := fun z => by
  rw [z, N.here] at h; unfold NdO at h; cases Option.some.inj h
theorem nd_neI {P : Program} {w : World} {H : Hp} {a x C dx : Addr} {xs : List NX} {l : List (Str × V)} (N : NdAt P w H a xs) (h : H x = some (.ins C dx l)) : x ≠ a := fun z => by
  rw [z, N.here] at h; unfold NdO at h; cases Option.some.inj h
theorem lt_ne {H : Hp} {a x : Addr} {l m : List V} (N : H a = some (.lst m)) (h : H x = some (.tup l)) : x ≠ a := fun z => by
  rw [z, N] at h; cases h
theorem li_ne {H : Hp} {a x C dx : Addr} {l : List (Str × V)} {m : List V} (N : H a = some (.lst m)) (h : H x = some (.ins C dx l)) : x ≠ a := fun z => by
  rw [z, N] at h; cases h
theorem nput_new {xs : List NX} {k : NestedKey} {a : Addr} {v : V} (h : nval xs k = none) : nput xs k a v = xs ++ [(k, a, v)] := by
  unfold nput; rw [h]; rfl
theorem nval_snoc {xs : List NX} {k k' : NestedKey} {a : Addr} {v : V} : nval (xs ++ [(k, a, v)]) k' = (nval xs k').or (if k = k' then some v else none) := by
  unfold nval
  rw [List.find?_append]
  cases e : xs.find? fun x => decide (x.1 = k') with
  | some q => simp
  | none =>
    by_cases h : k = k'
    · simp [h]
    · simp [h]
theorem v_ninN {P : Program} {w : World} {K : PySem.W.Frag} {H : Hp} {Q : VK} {p a : Addr} {k : NestedKey} {xs : List NX} (N : NdAt P w H a xs) (kp : NkV H k (.ref p)) (d : k.depth ≤ 8) (q : Q (.bl (!(nval xs k).isSome)) H) : cNotIn P w K (.ref p) (.ref a) H Q := by
  refine .inr (.inr (.inr (.inr ⟨a, p, k, xs, rfl, rfl, N, kp, d, ?_⟩)))
  simpa using q
theorem v_inN {P : Program} {w : World} {K : PySem.W.Frag} {H : Hp} {Q : VK} {p a : Addr} {k : NestedKey} {xs : List NX} (N : NdAt P w H a xs) (kp : NkV H k (.ref p)) (d : k.depth ≤ 8) (q : Q (.bl (nval xs k).isSome) H) : cIn P w K (.ref p) (.ref a) H Q := by
  refine .inr (.inr (.inr (.inr ⟨a, p, k, xs, rfl, rfl, N, kp, d, ?_⟩)))
  simpa using q
theorem v_ixN {P : Program} {w : World} {K : PySem.W.Frag} {H : Hp} {Q : VK} {p a : Addr} {k : NestedKey} {xs : List NX} {v : V} (N : NdAt P w H a xs) (kp : NkV H k (.ref p)) (d : k.depth ≤ 8) (e : nval xs k = some v) (q : Q v H) : bIx P w K (.ref a) (.ref p) H Q :=
  .inr (.inr (.inr (.inr ⟨a, p, k, xs, v, rfl, rfl, N, kp, d, e, q⟩)))
theorem v_setN {P : Program} {w : World} {H : Hp} {Q : Hp → Prop} {p a : Addr} {k : NestedKey} {xs : List NX} {v : V} (N : NdAt P w H a xs) (kp : NkV H k (.ref p)) (d : k.depth ≤ 8) (l : xs.length < sizeLine) (q : Q (upd H a (NdO P w a (nput xs k p v)))) : bSet P w (.ref a) (.ref p) v H Q :=
  .inr (.inr ⟨a, p, k, xs, rfl, rfl, N, kp, d, l, q⟩)
theorem GOk.add {gs : List Gm} (o : GOk gs) {ls rs : List Int} (h : ∀ m ∈ ls ++ rs, 0 ≤ m ∧ m < gs.length) : GOk (addG gs (canon ls, canon rs)) := by
  unfold addG
  split
  · exact o
  · rename_i ni
    have pos : 0 < gs.length := (List.getElem?_eq_some_iff.mp o.zero).1
    refine ⟨?_, ?_, fun g hg => ?_, fun i g hi m hm => ?_⟩
    · rw [List.getElem?_append_left pos]; exact o.zero
    · refine List.nodup_append.mpr ⟨o.nd, by simp, fun a ha b hb => ?_⟩
      cases List.mem_singleton.mp hb
      exact fun z => ni (z ▸ ha)
    · rcases List.mem_append.mp hg with hg | hg
      · exact o.up g hg
      · cases List.mem_singleton.mp hg
        exact ⟨canon_up _, canon_up _⟩
    · by_cases lt : i < gs.length
      · rw [List.getElem?_append_left lt] at hi
        exact o.low i g hi m hm
      · have hl := (List.getElem?_eq_some_iff.mp hi).1
        have e : i = gs.length := by rw [List.length_append] at hl; simp at hl; omega
        subst e
        rw [List.getElem?_append_right (Nat.le_refl _)] at hi
        simp at hi
        subst hi
        rw [List.mem_append, canon_mem, canon_mem, ← List.mem_append] at hm
        exact h m hm
theorem DOk.add {gs : List Gm} {ds : List Int} (d : DOk gs ds) (o : GOk gs) {k : Gm} (h : ∀ m ∈ k.1 ++ k.2, 0 ≤ m ∧ m < gs.length) (ne : k.1 ++ k.2 ≠ []) {m : Int} (hm : m ∈ dps ds (k.1 ++ k.2)) (hx : ∀ x ∈ dps ds (k.1 ++ k.2), x ≤ m) : DOk (gs ++ [k]) (ds ++ [1 + m]) := by
  refine ⟨by simp [d.len], fun i g e hg he => ?_⟩
  by_cases lt : i < gs.length
  · rw [List.getElem?_append_left lt] at hg
    rw [List.getElem?_append_left (by rw [d.len]; exact lt)] at he
    have b : ∀ m ∈ g.1 ++ g.2, 0 ≤ m ∧ m < ds.length := fun m hm => by have := o.low i g hg m hm; rw [d.len]; omega
    unfold deepest
    rw [dps_more b]
    exact d.at_ i g e hg he
  · have hl := (List.getElem?_eq_some_iff.mp hg).1
    have e : i = gs.length := by rw [List.length_append] at hl; simp at hl; omega
    subst e
    rw [List.getElem?_append_right (Nat.le_refl _)] at hg
    rw [← d.len, List.getElem?_append_right (Nat.le_refl _)] at he
    simp at hg he
    subst hg he
    unfold deepest
    rw [dps_more (by rw [d.len]; exact h)]
    exact ⟨fun z => absurd z ne, fun x q => by have := hx x q; omega, fun _ => ⟨m, hm, by omega⟩⟩
theorem ixG_get {gs : List Gm} {k : Gm} (h : k ∈ gs) : gs[ixG gs k]? = some k := by
  have l := List.idxOf_lt_length_of_mem h
  rw [ixG, List.getElem?_eq_getElem l, List.getElem_idxOf l]
theorem addG_mem (gs : List Gm) (k : Gm) : k ∈ addG gs k := by
  unfold addG; split
  · assumption
  · simp
theorem addG_len {gs : List Gm} {k : Gm} : (addG gs k).length ≤ gs.length + 1 ∧ gs.length ≤ (addG gs k).length := by
  unfold addG; split <;> simp
theorem addG_get {gs : List Gm} {k g : Gm} {i : Nat} (h : gs[i]? = some g) : (addG gs k)[i]? = some g := by
  unfold addG; split
  · exact h
  · rw [List.getElem?_append_left (List.getElem?_eq_some_iff.mp h).1]; exact h
abbrev N_Book_game : List Str := ["self", "lefts", "rights", "g", "key"]
theorem sc_Book_game : FnScope N_Book_game ["self", "lefts", "rights"] (defScope s_Book_game) := ⟨rfl, rfl, rfl, by decide +kernel, rfl, by decide +kernel, by decide +kernel⟩
def t_Book_game (c : Cn) (E : XK) : TS :=
  (tSeq (tFor (iAny c.K (tOp (bAdd c.K) (tCB (kList c.K) (tCons (tVar 1) tNil)) (tCB (kList c.K) (tCons (tVar 2) tNil)))) (gName 3)
  (tDrop (tMeth c.cBook "need" (sx_Book_need c) [] E (tVar 0) (tCons (tVar 3) tNil))))
  (tSeq (tAsg (tTup (tCons (tCB (kTuple c.K) (tCons (tCB (kSorted c.K c.w) (tCons (tCB (uSetI c.K c.w) (tCons (tVar 1) tNil)) tNil)) tNil)) (tCons (tCB (kTuple c.K) (tCons (tCB (kSorted c.K c.w) (tCons (tCB (uSetI c.K c.w) (tCons (tVar 2) tNil)) tNil)) tNil)) tNil))) (gName 4))
  (C8.tCut (tIfS (tTest (tOp (cNotIn c.P c.w c.K) (tVar 4) (tFld c.K (tVar 0) "numbers")))
  (tSeq (tAsg (tCB (kLen c.K) (tCons (tFld c.K (tVar 0) "moves") tNil)) (gSub (tFld c.K (tVar 0) "numbers") (tVar 4) (bSet c.P c.w)))
  (tSeq (tDrop (tBM c.K "list" rAppend (tFld c.K (tVar 0) "moves") (tCons (tVar 4) tNil)))
  (tDrop (tBM c.K "list" rAppend (tFld c.K (tVar 0) "depths") (tCons (tOp (bAdd c.K) (tC (.int 1)) (tCB (kMax c.K) (tCons (tLc (iAny c.K (tOp (bAdd c.K) (tOp (bIx c.P c.w c.K) (tVar 4) (tC (.int 0))) (tOp (bIx c.P c.w c.K) (tVar 4) (tC (.int 1))))) (gName 3) tYes (tOp (bIx c.P c.w c.K) (tFld c.K (tVar 0) "depths") (tVar 3)) [3]) tNil))) tNil)))))
  tNext)
  (tRet (tOp (bIx c.P c.w c.K) (tFld c.K (tVar 0) "numbers") (tVar 4))))))
def sp_Book_game (c : Cn) : Sp := fun vs H Q E => vs.length = 3 ∧ ∃ (b l r : Addr) (M : Addr → Prop) (gs : List Gm) (ds ls rs : List Int), vs = [.ref b, .ref l, .ref r] ∧ BookAt c H b M gs ds ∧ H l = some (.lst (ls.map V.int)) ∧ H r = some (.lst (rs.map V.int)) ∧ ¬ M l ∧ ¬ M r ∧
  gs.length ≤ 90000 ∧ ls.length ≤ 4000 ∧ rs.length ≤ 4000 ∧ (∀ m ∈ ls ++ rs, 0 ≤ m ∧ m < gs.length) ∧
  ∀ (H' : Hp) (e : List Int), Keep M H H' → BookAt c H' b M (addG gs (canon ls, canon rs)) (ds ++ e) → Q (.int (ixG (addG gs (canon ls, canon rs)) (canon ls, canon rs))) H'
theorem p_Book_game {c : Cn} {mg : Str → Option Value} (T : Txt c mg) {vs : List V} {H : Hp} {Q : VK} {E : XK} (h : sp_Book_game c vs H Q E) : t_Book_game c E { nx := fun _ H' => Q .non H', rt := Q } (start N_Book_game vs) H := by
  obtain ⟨_, b, l, r, M, gs, ds, ls, rs, rfl, B, hl, hr, nl, nr, fw1, fw2, fw3, low, k⟩ := h
  unfold t_Book_game
  repeat kaf_suf
  intro p1 hp1
  repeat kaf_suf
  intro p2 hp2
  repeat kaf_suf
  intro p3 hp3
  repeat kaf_suf
  have kp3 : Keep Nil H (upd (upd (upd H p1 (.lst (ls.map V.int))) p2 (.lst (rs.map V.int))) p3 (.lst (ls.map V.int ++ rs.map V.int))) := ((Keep.alloc hp1).new hp2).new hp3
  have B3 := B.same kp3
  have hl3 := kp3.get (fun z => z) hl
  have hr3 := kp3.get (fun z => z) hr
  have h3 : upd (upd (upd H p1 (.lst (ls.map V.int))) p2 (.lst (rs.map V.int))) p3 (.lst (ls.map V.int ++ rs.map V.int)) p3 = some (.lst (ls.map V.int ++ rs.map V.int)) := upd_same
  generalize hH3 : upd (upd (upd H p1 (.lst (ls.map V.int))) p2 (.lst (rs.map V.int))) p3 (.lst (ls.map V.int ++ rs.map V.int)) = H3 at kp3 B3 hl3 hr3 h3 ⊢
  refine for_list (xs := ls.map V.int ++ rs.map V.int) (fun i σ H' => H' = H3 ∧ ∃ y, σ = [some (.ref b), some (.ref l), some (.ref r), y, none]) ⟨rfl, _, rfl⟩ ?_ ?_ ?_
  · rintro i σ H' hi ⟨rfl, y, rfl⟩; exact SqL.of h3
  · rintro i x σ H' hi ⟨rfl, y, rfl⟩
    obtain ⟨m, hm, rfl⟩ : ∃ m ∈ ls ++ rs, V.int m = x := by
      rw [← List.map_append] at hi
      have := List.mem_of_getElem? hi
      exact List.mem_map.mp this
    obtain ⟨hm0, hm1⟩ := low m hm
    obtain ⟨dx, mv, nm, dp, hb3⟩ := B3.ins_
    repeat kaf_suf
    refine ⟨rfl, .inl ⟨rfl, b, M, gs, ds, m, rfl, B3, hm0, hm1, ?_⟩⟩
    repeat kaf_suf
    exact ⟨rfl, _, rfl⟩
  · rintro σ H' ⟨rfl, y, rfl⟩
    have w1 : ls.length ≤ 4000 := by omega
    have w2 : rs.length ≤ 4000 := by omega
    repeat kaf_suf
    intro p4 c4 hp4 _
    repeat kaf_suf
    intro ns4 p5 u4 m4 _ hp5
    repeat kaf_suf
    intro p6 hp6
    repeat kaf_suf
    intro p7 c7 hp7 _
    repeat kaf_suf
    intro ns7 p8 u7 m7 _ hp8
    repeat kaf_suf
    intro p9 hp9
    repeat kaf_suf
    intro t ht
    repeat kaf_suf
    obtain rfl : ns4 = canon ls := canon_eq u4 (by simpa using m4)
    obtain rfl : ns7 = canon rs := canon_eq u7 (by simpa using m7)
    refine absS (S := fun HT => Keep Nil H HT ∧ GAt HT t (canon ls, canon rs)) ⟨?_, p6, p9, upd_same, by kaf_pre, by kaf_pre⟩ fun HT ⟨kT, gT⟩ => ?_
    · exact (((((((kp3.new hp4).new hp5).new hp6).new hp7).new hp8).new hp9).new ht)
    have BT := B.same kT
    obtain ⟨dx, mv, nm, dp, ts, xs, h1, h2, h3, h4, h5, h6, h7, m1, m2, m3, ne, h8⟩ := BT.ex
    have hlen := BT.dok.len
    have htl := Paired.length h3
    have hv := h6 (canon ls, canon rs)
    refine ⟨fun σ' H2 => ∃ y e, σ' = [some (.ref b), some (.ref l), some (.ref r), y, some (.ref t)] ∧ Keep M H H2 ∧ BookAt c H2 b M (addG gs (canon ls, canon rs)) (ds ++ e) ∧ GAt H2 t (canon ls, canon rs), ?_, ?_⟩
    · repeat kaf_suf
      refine v_ninN h4 gT.nk (gkey_depth _) ?_
      by_cases hin : (canon ls, canon rs) ∈ gs
      · rw [hv, if_pos hin]
        repeat kaf_suf
        exact ⟨_, [], rfl, kT.weak, by rw [List.append_nil, addG, if_pos hin]; exact BT, gT⟩
      · rw [hv, if_neg hin]
        rw [if_neg hin] at hv
        refine r_kB (r_ite_nf ?_)
        repeat kaf_suf
        have e1 := nd_neL h4 h2
        have e2 := nd_neL h4 h7
        have e3 := nd_neI h4 h1
        have e4 := li_ne h2 h1
        have e5 := li_ne h7 h1
        obtain ⟨ka, kb, t1, t2, t3⟩ := id gT
        have ea1 := nd_neT h4 t1
        have ea2 := lt_ne h2 t1
        have ea3 := lt_ne h7 t1
        have eb1 := nd_neT h4 t2
        have eb2 := lt_ne h2 t2
        have eb3 := lt_ne h7 t2
        have ec1 := nd_neT h4 t3
        have ec2 := lt_ne h2 t3
        have ec3 := lt_ne h7 t3
        refine v_setN h4 gT.nk (gkey_depth _) (few1 (by omega)) ?_
        rw [nput_new hv]
        repeat kaf_suf
        have g1 := canon_len' ls
        have g2 := canon_len' rs
        intro p H' hp' kp'
        repeat kaf_suf
        intro D hD
        have hall : ∀ m ∈ canon ls ++ canon rs, 0 ≤ m ∧ m < gs.length := fun m hm => low m (by rw [List.mem_append, canon_mem, canon_mem, ← List.mem_append] at hm; exact hm)
        have hDp : H' dp = some (.lst (ds.map V.int)) := by kaf_pre
        have hlen2 : (dps ds (canon ls ++ canon rs)).length = (canon ls ++ canon rs).length := List.length_map _
        refine lc_tup (xs := (canon ls).map V.int ++ (canon rs).map V.int) (fun i H2 => H2 D = some (.lst (((dps ds (canon ls ++ canon rs)).take i).map V.int)) ∧ Keep Nil H' H2) ⟨upd_same, Keep.alloc hD⟩ ?_ ?_ ?_
        · rintro i H2 _ ⟨_, k2⟩; exact SqT.of (by kaf_pre)
        · rintro i x H2 hi ⟨e2, k2⟩
          rw [← List.map_append, List.getElem?_map] at hi
          obtain ⟨m, hm, rfl⟩ := Option.map_eq_some_iff.mp hi
          obtain ⟨b1, b2⟩ := hall m (List.mem_of_getElem? hm)
          have hm' := (List.getElem?_eq_some_iff.mp hm).1
          rw [List.length_append] at hm'
          obtain ⟨n, rfl⟩ := Int.eq_ofNat_of_zero_le b1
          have hn : n < ds.length := by omega
          have hx : atI (ds.map V.int) (n : Int) = some (V.int ds[n]) := atI_get (n := n) (by simp [hn]) rfl
          repeat kaf_suf
          refine ⟨rfl, ?_⟩
          repeat kaf_suf
          refine ⟨_, e2, few1 (by simp; omega), ?_, k2.setN hD⟩
          rw [upd_same]
          have e : (dps ds (canon ls ++ canon rs))[i]? = some ds[n] := by
            rw [dps, List.getElem?_map, hm]; simp [hn]
          rw [List.take_succ, e]; simp
        · rintro H2 ⟨e2, k2⟩
          have e3 : H2 D = some (.lst ((dps ds (canon ls ++ canon rs)).map V.int)) := by
            rw [e2, List.take_of_length_le (by rw [hlen2]; simp)]
          repeat kaf_suf
          have ea : addG gs (canon ls, canon rs) = gs ++ [(canon ls, canon rs)] := if_neg hin
          have nee : canon ls ++ canon rs ≠ [] := fun z => by
            obtain ⟨z1, z2⟩ := List.append_eq_nil_iff.mp z
            rw [z1, z2] at hin
            exact hin (List.mem_of_getElem? B.ok.zero)
          refine v_maxL e3 (by rw [hlen2]; exact List.length_pos_iff.mpr nee) fun m hm hmax => ?_
          repeat kaf_suf
          have kf : Keep M HT (upd H2 dp (.lst (ds.map V.int ++ [V.int (1 + m)]))) := Keep.set (Keep.trans (Keep.trans (Keep.set (Keep.set Keep.refl m2) m1) kp'.weak) k2.weak) m3
          have kt : ∀ q ys, HT q = some (.tup ys) → (upd H2 dp (.lst (ds.map V.int ++ [V.int (1 + m)]))) q = some (.tup ys) := fun q ys e => kf q _ (BT.tupN e) e
          have gf := gT.keep kt
          have hnm : H' nm = some (NdO c.P c.w nm (xs ++ [(gkey (canon ls, canon rs), t, V.int ((ts.map V.ref).length : Nat))])) := kp'.get (fun z => z) (get_set e1.symm upd_same)
          refine ⟨_, [1 + m], rfl, kT.weak.trans kf, ⟨B.ok.add low, ?_, dx, mv, nm, dp, ts ++ [t], xs ++ [(gkey (canon ls, canon rs), t, V.int ((ts.map V.ref).length : Nat))], ?_, ?_, ?_, ⟨?_, ?_⟩, ?_, ?_, ?_, m1, m2, m3, ne, h8⟩, gf⟩
          · rw [ea]; exact B.dok.add B.ok hall nee hm hmax
          · kaf_pre
          · rw [List.map_append]; kaf_pre
          · rw [ea]; exact Paired.snoc (paired_keep h3 fun t g q => q.keep kt) gf
          · refine get_set ?_ (k2.get (fun z => z) hnm)
            tlg_ne
          · intro x hx
            rcases List.mem_append.mp hx with hx | hx
            · exact ⟨NkV.keeps kt _ _ (h4.keys x hx).1, (h4.keys x hx).2⟩
            · cases List.mem_singleton.mp hx
              exact ⟨gf.nk, gkey_depth _⟩
          · rw [ea]; simp [h5]
          · intro g
            rw [ea, nval_snoc, h6, List.length_map, htl]
            by_cases hg : g ∈ gs
            · rw [if_pos hg, if_pos (List.mem_append_left _ hg), List.idxOf_append, if_pos hg]; rfl
            · rw [if_neg hg]
              by_cases e : g = (canon ls, canon rs)
              · subst e
                rw [if_pos rfl, if_pos (List.mem_append_right _ List.mem_cons_self), List.idxOf_append, if_neg hg]
                simp
              · rw [if_neg (fun z => e (gkey_inj z).symm), if_neg (by simp [hg, e])]; rfl
          · rw [List.map_append]; exact upd_same
    · rintro σ' H2 ⟨y', e, rfl, k2, B2, g2⟩
      obtain ⟨dx, mv, nm, dp, ts, xs, h1, h2, h3, h4, h5, h6, h7, m1, m2, m3, ne, h8⟩ := B2.ex
      repeat kaf_suf
      refine v_ixN h4 g2.nk (gkey_depth _) ((h6 _).trans (if_pos (addG_mem _ _))) ?_
      repeat kaf_suf
      exact k H2 e k2 B2
/-- a putting with what is no game -/
def sy_Book_game (c : Cn) : Sp := fun vs H Q E => vs.length = 3 ∧ ∃ (b l r : Addr) (M : Addr → Prop) (gs : List Gm) (ds : List Int) (ls rs : List V), vs = [.ref b, .ref l, .ref r] ∧ BookAt c H b M gs ds ∧ H l = some (.lst ls) ∧ H r = some (.lst rs) ∧
  ls.length ≤ 4000 ∧ rs.length ≤ 4000 ∧ (∀ v ∈ ls ++ rs, GoodV gs.length v ∨ BadV H gs.length v) ∧ (∃ v ∈ ls ++ rs, BadV H gs.length v) ∧ ∀ H', Keep Nil H H' → E (.ref c.cNoGame) none H'
theorem q_Book_game {c : Cn} {mg : Str → Option Value} (T : Txt c mg) {vs : List V} {H : Hp} {Q : VK} {E : XK} (h : sy_Book_game c vs H Q E) : t_Book_game c E { nx := fun _ H' => Q .non H', rt := Q } (start N_Book_game vs) H := by
  obtain ⟨_, b, l, r, M, gs, ds, ls, rs, rfl, B, hl, hr, fw1, fw2, all, some_, k⟩ := h
  unfold t_Book_game
  repeat kaf_suf
  intro p1 hp1
  repeat kaf_suf
  intro p2 hp2
  repeat kaf_suf
  refine v_addL (by kaf_pre) (by kaf_pre) (few2 (by omega)) ?_
  intro p3 hp3
  repeat kaf_suf
  have kp3 : Keep Nil H (upd (upd (upd H p1 (.lst ls)) p2 (.lst rs)) p3 (.lst (ls ++ rs))) := ((Keep.alloc hp1).new hp2).new hp3
  have B3 := B.same kp3
  have h3 : upd (upd (upd H p1 (.lst ls)) p2 (.lst rs)) p3 (.lst (ls ++ rs)) p3 = some (.lst (ls ++ rs)) := upd_same
  generalize hH3 : upd (upd (upd H p1 (.lst ls)) p2 (.lst rs)) p3 (.lst (ls ++ rs)) = H3 at kp3 B3 h3 ⊢
  refine for_list (xs := ls ++ rs) (fun i σ H' => H' = H3 ∧ (∀ j v, j < i → (ls ++ rs)[j]? = some v → GoodV gs.length v) ∧ ∃ y, σ = [some (.ref b), some (.ref l), some (.ref r), y, none]) ⟨rfl, fun j v h => absurd h (Nat.not_lt_zero _), _, rfl⟩ ?_ ?_ ?_
  · rintro i σ H' hi ⟨rfl, _, y, rfl⟩; exact SqL.of h3
  · rintro i x σ H' hi ⟨rfl, gd, y, rfl⟩
    obtain ⟨dx, mv, nm, dp, hb3⟩ := B3.ins_
    repeat kaf_suf
    rcases all x (List.mem_of_getElem? hi) with g | bd
    · obtain ⟨m, rfl, hm0, hm1⟩ := id g
      refine ⟨rfl, .inl ⟨rfl, b, M, gs, ds, m, rfl, B3, hm0, hm1, ?_⟩⟩
      repeat kaf_suf
      refine ⟨rfl, fun j v hj hv => ?_, _, rfl⟩
      by_cases e : j = i
      · subst e; rw [hi] at hv; cases hv; exact g
      · exact gd j v (by omega) hv
    · exact ⟨rfl, .inr ⟨rfl, b, M, gs, ds, x, rfl, B3, bd.keep kp3, k _ kp3⟩⟩
  · rintro σ H' ⟨rfl, gd, y, rfl⟩
    obtain ⟨v, hv, bd⟩ := some_
    obtain ⟨j, hj, rfl⟩ := List.getElem_of_mem hv
    exact ((gd j _ hj (List.getElem?_eq_getElem hj)).not bd).elim
def sx_Book_game (c : Cn) : Sp := fun vs H Q E => vs.length = 3 ∧ (sp_Book_game c vs H Q E ∨ sy_Book_game c vs H Q E)
theorem metx_Book_game {c : Cn} {mg : Str → Option Value} {base : Heap} (T : Txt c mg) : Met c.P c.w c.K mg base (L2.CX c.P c.w) 2 c.cBook "game" (sx_Book_game c) := by
  obtain ⟨f, fd, F, g, b⟩ := T.F_Book_game
  exact ⟨f, fd, ["self", "lefts", "rights"], T.cl_Book, g, F.okX (k := 1) (N := N_Book_game) sc_Book_game (fun vs H Q E h => h.1) (fun cdv A outer s H vs Q E hr h => ⟨t_Book_game c E, by
  exact (pss_cons (ps_for (passes_of rfl) rfl (pi_any (pe_op o_add (pe_callTy (k_list rfl) (by rfl) T.n_list (by decide +kernel) (pa_cons (pv 1) pa_nil)) (pe_callTy (k_list rfl) (by rfl) T.n_list (by decide +kernel) (pa_cons (pv 2) pa_nil)))) (pg_name (i := 3) sc_Book_game.nd rfl (Or.inl rfl))
  (pss_one (ps_expr (e_meth (metx_Book_need T) hr (by decide) (passes_call (takes_of rfl rfl rfl rfl) fun _ _ _ _ z => z) (pv 0) (pa_cons (pv 3) pa_nil)))))
  (pss_cons (ps_set (i := 4) sc_Book_game.nd rfl (Or.inl rfl) (pe_tup (pa_cons (pe_callTy k_tuple (by rfl) T.n_tuple (by decide +kernel) (pa_cons (pe_callB (k_sorted rfl) (by rfl) T.n_sorted (by decide +kernel) (pa_cons (pe_callTy (k_set rfl) (by rfl) T.n_set (by decide +kernel) (pa_cons (pv 1) pa_nil)) pa_nil)) pa_nil)) (pa_cons (pe_callTy k_tuple (by rfl) T.n_tuple (by decide +kernel) (pa_cons (pe_callB (k_sorted rfl) (by rfl) T.n_sorted (by decide +kernel) (pa_cons (pe_callTy (k_set rfl) (by rfl) T.n_set (by decide +kernel) (pa_cons (pv 2) pa_nil)) pa_nil)) pa_nil)) pa_nil))))
  (C8.pss_cut (ps_if (pt_cmpR (o_notin (hu65 hr)) (pv 4) (pe_fld (pv 0) rfl) (by rfl)) (pss_cons (ps_asg (pe_callB k_len (by rfl) T.n_len (by decide +kernel) (pa_cons (pe_fld (pv 0) rfl) pa_nil)) (pg_sub (pe_fld (pv 0) rfl) (pv 4) (s_set (hu64 hr))))
  (pss_cons (ps_expr (pe_bm PySem.F.plainAttrs_list PySem.F.slot_list_append PySem.F.type_list_append mt_append (pe_fld (pv 0) rfl) (pa_cons (pv 4) pa_nil)))
  (pss_one (ps_expr (pe_bm PySem.F.plainAttrs_list PySem.F.slot_list_append PySem.F.type_list_append mt_append (pe_fld (pv 0) rfl) (pa_cons (pe_op o_add pe_int (pe_callB (k_max rfl) (by rfl) T.n_max (by decide +kernel) (pa_cons (pe_lc (own := [("g", 3)]) rfl sc_Book_game.nd (pi_any (pe_op o_add (pe_ix (x_ix (hu64 hr)) (pv 4) pe_int (fun _ _ => rfl)) (pe_ix (x_ix (hu64 hr)) (pv 4) pe_int (fun _ _ => rfl)))) (blkOk_by (own := [("g", 3)]) (N := N_Book_game) (sc := defScope s_Book_game) (by decide +kernel)) (fun _ _ _ _ _ => (pg_name (i := 3) sc_Book_game.nd rfl (Or.inl rfl))) (fun _ _ _ _ _ => pts_nil) (fun _ _ _ _ _ => (pe_ix (x_ix (hu64 hr)) (pe_fld (pv 0) rfl) (pv 3) (fun _ _ => rfl)))) pa_nil))) pa_nil)))))) pss_nil)
  (pss_one (ps_ret (pe_ix (x_ix (hu64 hr)) (pe_fld (pv 0) rfl) (pv 4) (fun _ _ => rfl))))))), h.2.elim (p_Book_game T) (q_Book_game T)⟩), b⟩
theorem met_Book_game {c : Cn} {mg : Str → Option Value} {base : Heap} (T : Txt c mg) : Met c.P c.w c.K mg base (L2.CX c.P c.w) 2 c.cBook "game" (sp_Book_game c) := by
  obtain ⟨f, fd, ps, cl, m, F, b⟩ := (metx_Book_game T).ex
  exact ⟨⟨f, fd, ps, cl, m, F.imp fun vs H Q E h => ⟨h.1, .inl h⟩, b⟩⟩
/-! the book as it is made; how many -/
theorem putF_0 {x : V} : putF ("moves" : Str) x [] = [(("moves" : Str), x)] := by rfl
theorem putF_1 {x y : V} : putF ("numbers" : Str) y [(("moves" : Str), x)] = [(("moves" : Str), x), (("numbers" : Str), y)] := by
  unfold putF; rw [if_neg (by decide)]; rfl
theorem putF_2 {x y z : V} : putF ("depths" : Str) z [(("moves" : Str), x), (("numbers" : Str), y)] = [(("moves" : Str), x), (("numbers" : Str), y), (("depths" : Str), z)] := by
  unfold putF; rw [if_neg (by decide)]; unfold putF; rw [if_neg (by decide)]; rfl
theorem GOk.one : GOk [([], [])] := ⟨rfl, by simp, fun g hg => by cases List.mem_singleton.mp hg; exact ⟨List.Pairwise.nil, List.Pairwise.nil⟩, fun i g h m hm => by
  cases i with
  | zero => simp at h; subst h; simp at hm
  | succ i => simp at h⟩
theorem DOk.one : DOk [([], [])] [0] := ⟨rfl, fun i g d h hd => by
  cases i with
  | zero => simp at h hd; subst h hd; exact ⟨fun _ => rfl, fun x hx => by simp [dps] at hx, fun z => absurd rfl z⟩
  | succ i => simp at h⟩
abbrev N_Book_init : List Str := ["self"]
theorem sc_Book_init : FnScope N_Book_init ["self"] (defScope s_Book_init) := ⟨rfl, rfl, rfl, by decide +kernel, rfl, by decide +kernel, by decide +kernel⟩
def t_Book_init (c : Cn) : TS :=
  (tSeq (sFld c.K (tVar 0) (tLst (tCons (tTup (tCons (tTup tNil) (tCons (tTup tNil) tNil))) tNil)) "moves")
  (tSeq (sFld c.K (tVar 0) (uDisp1 c.P c.w (tTup (tCons (tTup tNil) (tCons (tTup tNil) tNil))) (tC (.int 0))) "numbers")
  (sFld c.K (tVar 0) (tLst (tCons (tC (.int 0)) tNil)) "depths")))
def sp_Book_init (c : Cn) : Sp := fun vs H Q E => vs.length = 1 ∧ ∃ (b dx : Addr), vs = [.ref b] ∧ H b = some (.ins c.cBook dx []) ∧
  ∀ (H' : Hp) (M : Addr → Prop), Keep (fun x => x = b) H H' → BookAt c H' b M [([], [])] [0] → (∀ x, M x → H x = none) → Q .non H'
theorem p_Book_init {c : Cn} {mg : Str → Option Value} (T : Txt c mg) {vs : List V} {H : Hp} {Q : VK} {E : XK} (h : sp_Book_init c vs H Q E) : t_Book_init c { nx := fun _ H' => Q .non H', rt := Q } (start N_Book_init vs) H := by
  obtain ⟨_, b, dx, rfl, hb, k⟩ := h
  unfold t_Book_init
  repeat kaf_suf
  intro p1 hp1
  repeat kaf_suf
  intro p2 hp2
  repeat kaf_suf
  intro p3 hp3
  repeat kaf_suf
  intro mv hmv
  repeat kaf_suf
  refine r_ksfld (by kaf_pre) (Txt.cl_Book T) (Txt.na_Book_moves T) (by decide) ?_
  repeat kaf_suf
  intro nm hnm
  repeat kaf_suf
  intro p4 hp4
  repeat kaf_suf
  intro p5 hp5
  repeat kaf_suf
  intro t ht
  repeat kaf_suf
  have w0 : nm ≠ mv := ne_new hnm (show _ = some (HO.lst [V.ref p3]) by kaf_pre)
  have w1 : b ≠ nm := ne_old hnm upd_same
  have w2 : mv ≠ b := ne_new hmv (by kaf_pre)
  have w3 : p3 ≠ mv := ne_old hmv upd_same
  have hnm0 : H nm = none := by
    have h0 := none_of_upd hnm
    exact none_of_upd (none_of_upd (none_of_upd (none_of_upd h0)))
  have hmv0 : H mv = none := none_of_upd (none_of_upd (none_of_upd hmv))
  refine ⟨gkey ([], []), t, rfl, by kaf_pre, GAt.nk (g := ([], [])) ⟨p4, p5, by kaf_pre, by kaf_pre, by kaf_pre⟩, gkey_depth _, ?_⟩
  repeat kaf_suf
  refine r_ksfld (by kaf_pre) (Txt.cl_Book T) (Txt.na_Book_numbers T) (by rw [putF_0]; simp) ?_
  repeat kaf_suf
  intro dp hdp
  repeat kaf_suf
  refine r_ksfld (by kaf_pre) (Txt.cl_Book T) (Txt.na_Book_depths T) (by rw [putF_0, putF_1]; simp) ?_
  repeat kaf_suf
  have hdp0 : H dp = none := by
    have := hdp
    repeat (first | exact this | replace this := none_of_upd this)
  have w4 : dp ≠ mv := ne_new hdp (show _ = some (HO.lst [V.ref p3]) by kaf_pre)
  have w5 : dp ≠ nm := ne_new hdp (show _ = some (NdO c.P c.w nm [(gkey ([], []), t, V.int 0)]) by kaf_pre)
  have w6 : dp ≠ b := ne_new hdp upd_same
  have x3 : p3 ≠ nm := ne_old hnm (by kaf_pre)
  have x2 : p2 ≠ nm := ne_old hnm (by kaf_pre)
  have x1 : p1 ≠ nm := ne_old hnm (by kaf_pre)
  have y3 : p3 ≠ b := ne_new hp3 (by kaf_pre)
  have y2 : p2 ≠ b := ne_new hp2 (by kaf_pre)
  have y1 : p1 ≠ b := ne_new hp1 (by kaf_pre)
  have z4 : p4 ≠ b := ne_new hp4 (by kaf_pre)
  have z5 : p5 ≠ b := ne_new hp5 (by kaf_pre)
  have z6 : t ≠ b := ne_new ht (by kaf_pre)
  have q4 : p4 ≠ nm := ne_new hp4 upd_same
  have q5 : p5 ≠ nm := ne_new hp5 (by kaf_pre)
  have q6 : t ≠ nm := ne_new ht (by kaf_pre)
  refine absQ (S := fun H' => Keep (fun x => x = b) H H' ∧ H' b = some (.ins c.cBook dx (bookFs mv nm dp)) ∧ H' mv = some (.lst [.ref p3]) ∧ H' p3 = some (.tup [.ref p1, .ref p2]) ∧ H' p1 = some (.tup []) ∧ H' p2 = some (.tup []) ∧
    H' nm = some (NdO c.P c.w nm [(gkey ([], []), t, V.int 0)]) ∧ H' t = some (.tup [.ref p4, .ref p5]) ∧ H' p4 = some (.tup []) ∧ H' p5 = some (.tup []) ∧ H' dp = some (.lst [.int 0])) ⟨?_, ?_, ?_, ?_, ?_, ?_, ?_, ?_, ?_, ?_, ?_⟩ fun HX ⟨f0, f1, f2, f3, f4, f5, f6, f7, f8, f9, f10⟩ => ?_
  · repeat (first | exact Keep.refl | refine' Keep.set ?_ rfl | refine' Keep.new ?_ (by assumption) | refine' Keep.setN ?_ (by assumption))
  · rw [putF_0, putF_1, putF_2]; exact upd_same
  · kaf_pre
  · kaf_pre
  · kaf_pre
  · kaf_pre
  · kaf_pre
  · kaf_pre
  · kaf_pre
  · kaf_pre
  · kaf_pre
  refine k HX (fun x => x = mv ∨ x = nm ∨ x = dp) f0 ⟨GOk.one, DOk.one, dx, mv, nm, dp, [p3], [(gkey ([], []), t, V.int 0)], f1, f2, .cons ⟨p1, p2, f3, f4, f5⟩ .nil, ⟨f6, fun x hx => ?_⟩, rfl, fun g => ?_, f10, .inl rfl, .inr (.inl rfl), .inr (.inr rfl), w4.symm, fun _ h => h⟩ fun x hx => ?_
  · cases List.mem_singleton.mp hx
    exact ⟨GAt.nk (g := ([], [])) ⟨p4, p5, f7, f8, f9⟩, gkey_depth _⟩
  · by_cases e : g = ([], [])
    · subst e; rfl
    · have e' : ¬ gkey ([], []) = gkey g := fun z => e (gkey_inj z).symm
      rw [if_neg (by simpa using e)]
      simp [nval, e']
  · rcases hx with rfl | rfl | rfl <;> assumption
theorem mak_Book {c : Cn} {mg : Str → Option Value} {base : Heap} (T : Txt c mg) : Mak c.P c.w c.K mg base CX0 1 "Book" c.cBook (sp_Book_init c) := by
  obtain ⟨f, fd, F, g, b⟩ := T.F_Book_init
  exact ⟨f, fd, ["self"], g, F.ok (k := 0) (N := N_Book_init) sc_Book_init (fun vs H Q E h => h.1) (fun cdv A outer s H vs Q E hr h => ⟨t_Book_init c, by
  exact (pss_cons (ps_fld (pv 0) (pe_lst (pa_cons (pe_tup (pa_cons (pe_tup pa_nil) (pa_cons (pe_tup pa_nil) pa_nil))) pa_nil)) rfl)
  (pss_cons (ps_fld (pv 0) (pe_disp1 (hu64 hr) (pe_tup (pa_cons (pe_tup pa_nil) (pa_cons (pe_tup pa_nil) pa_nil))) pe_int) rfl)
  (pss_one (ps_fld (pv 0) (pe_lst (pa_cons pe_int pa_nil)) rfl)))), p_Book_init T h⟩), T.g_Book, b⟩

abbrev N_Book_many : List Str := ["self"]
theorem sc_Book_many : FnScope N_Book_many ["self"] (defScope s_Book_many) := ⟨rfl, rfl, rfl, by decide +kernel, rfl, by decide +kernel, by decide +kernel⟩
def t_Book_many (c : Cn) : TS :=
  (tRet (tCB (kLen c.K) (tCons (tFld c.K (tVar 0) "moves") tNil)))
def sp_Book_many (c : Cn) : Sp := fun vs H Q E => vs.length = 1 ∧ ∃ (b : Addr) (M : Addr → Prop) (gs : List Gm) (ds : List Int), vs = [.ref b] ∧ BookAt c H b M gs ds ∧ Q (.int gs.length) H
theorem p_Book_many {c : Cn} {mg : Str → Option Value} (T : Txt c mg) {vs : List V} {H : Hp} {Q : VK} {E : XK} (h : sp_Book_many c vs H Q E) : t_Book_many c { nx := fun _ H' => Q .non H', rt := Q } (start N_Book_many vs) H := by
  obtain ⟨_, b, M, gs, ds, rfl, B, k⟩ := h
  obtain ⟨dx, mv, nm, dp, ts, xs, h1, h2, h3, h4, h5, h6, h7, m1, m2, m3, ne, h8⟩ := B.ex
  unfold t_Book_many
  repeat kaf_suf
  rw [List.length_map, Paired.length h3]
  exact k
theorem met_Book_many {c : Cn} {mg : Str → Option Value} {base : Heap} (T : Txt c mg) : Met c.P c.w c.K mg base CX0 1 c.cBook "many" (sp_Book_many c) := by
  obtain ⟨f, fd, F, g, b⟩ := T.F_Book_many
  exact ⟨f, fd, ["self"], T.cl_Book, g, F.ok (k := 0) (N := N_Book_many) sc_Book_many (fun vs H Q E h => h.1) (fun cdv A outer s H vs Q E hr h => ⟨t_Book_many c, by
  exact (pss_one (ps_ret (pe_callB k_len (by rfl) T.n_len (by decide +kernel) (pa_cons (pe_fld (pv 0) rfl) pa_nil)))), p_Book_many T h⟩), b⟩

/-! rows of games: a list of pairs of lists -/
def dInts (l : List Int) : PyData := .list (l.map PyData.int)
def dRow (g : Gm) : PyData := .tuple [dInts g.1, dInts g.2]
theorem eqv_ints : ∀ ns ms : List Int, PyData.eqvAll (ns.map PyData.int) (ms.map PyData.int) = decide (ns = ms)
  | [], [] => by simp [PyData.eqvAll]
  | [], _ :: _ => by simp [PyData.eqvAll]
  | _ :: _, [] => by simp [PyData.eqvAll]
  | a :: r, b :: t => by
    simp only [List.map_cons, PyData.eqvAll, PyData.eqv, eqv_ints r t]
    by_cases h : a = b <;> by_cases h' : r = t <;> simp [h, h']
theorem eqv_dInts (a b : List Int) : PyData.eqv (dInts a) (dInts b) = decide (a = b) := by
  unfold dInts; simp only [PyData.eqv]; exact eqv_ints a b
theorem eqv_dRow (g k : Gm) : PyData.eqv (dRow g) (dRow k) = decide (g = k) := by
  have e : PyData.eqv (dRow g) (dRow k) = (PyData.eqv (dInts g.1) (dInts k.1) && (PyData.eqv (dInts g.2) (dInts k.2) && true)) := by simp only [dRow, PyData.eqv, PyData.eqvAll]
  rw [e, eqv_dInts, eqv_dInts]
  obtain ⟨a, b⟩ := g; obtain ⟨a', b'⟩ := k
  by_cases h : a = a' <;> by_cases h' : b = b' <;> simp [h, h']
theorem lay_ints : ∀ ns : List Int, PyData.canLayAll0 (ns.map PyData.int) = true
  | [] => by simp [PyData.canLayAll0]
  | _ :: r => by simp [PyData.canLayAll0, PyData.canLay0, lay_ints r]
theorem dpt_ints : ∀ ns : List Int, PyData.depthAll (ns.map PyData.int) = 0
  | [] => by simp [PyData.depthAll]
  | _ :: r => by simp [PyData.depthAll, PyData.depth, dpt_ints r]
theorem dInts_lay (l : List Int) : (dInts l).canLay0 = true := by unfold dInts; simp only [PyData.canLay0]; exact lay_ints l
theorem dInts_dep (l : List Int) : (dInts l).depth = 1 := by unfold dInts; simp only [PyData.depth, dpt_ints]
theorem dRow_lay (g : Gm) : (dRow g).canLay0 = true := by simp [dRow, PyData.canLay0, PyData.canLayAll0, dInts_lay]
theorem dRow_dep (g : Gm) : (dRow g).depth = 2 := by simp [dRow, PyData.depth, PyData.depthAll, dInts_dep]
theorem dRows_lay : ∀ gs : List Gm, PyData.canLayAll0 (gs.map dRow) = true
  | [] => by simp [PyData.canLayAll0]
  | g :: r => by simp [PyData.canLayAll0, dRow_lay g, dRows_lay r]
theorem dRows_dep : ∀ gs : List Gm, PyData.depthAll (gs.map dRow) ≤ 2
  | [] => by simp [PyData.depthAll]
  | g :: r => by
    have h1 := dRows_dep r
    have h2 := dRow_dep g
    simp only [List.map_cons, PyData.depthAll]; omega
theorem shaped_of {d : PyData} (h : d.canLay0 = true) (k : d.depth ≤ 64) : SeqAt.shaped d = true := by
  show (d.canLay0 && decide (d.depth ≤ 64)) = true
  rw [Bool.and_eq_true]
  exact ⟨h, decide_eq_true k⟩
theorem dInts_sh (l : List Int) : SeqAt.shaped (dInts l) = true := shaped_of (dInts_lay l) (by rw [dInts_dep]; omega)
theorem dRow_sh (g : Gm) : SeqAt.shaped (dRow g) = true := shaped_of (dRow_lay g) (by rw [dRow_dep]; omega)
theorem dRows_sh (gs : List Gm) : SeqAt.shaped (.list (gs.map dRow)) = true := shaped_of (by simp only [PyData.canLay0]; exact dRows_lay gs) (by have := dRows_dep gs; simp only [PyData.depth]; omega)
theorem dTwo_sh (a b : List Int) : SeqAt.shaped (.list [dInts a, dInts b]) = true := shaped_of (by simp [PyData.canLay0, PyData.canLayAll0, dInts_lay]) (by simp [PyData.depth, PyData.depthAll, dInts_dep])
theorem eqv_two (a b a' b' : List Int) : PyData.eqv (.list [dInts a, dInts b]) (.list [dInts a', dInts b']) = (decide (a = a') && decide (b = b')) := by
  simp only [PyData.eqv, PyData.eqvAll, eqv_dInts, Bool.and_true]
theorem dp_all {K : PySem.W.Frag} {H : Hp} : ∀ (l : List Int), DpAll K H (l.map V.int) (l.map PyData.int)
  | [] => .nil
  | x :: r => .cons (.int x) (dp_all r)
theorem dp_ints {K : PySem.W.Frag} {H : Hp} {a : Addr} {l : List Int} (h : H a = some (.lst (l.map V.int))) : Dp K H (.ref a) (dInts l) := .lst (SqL.of h) (dp_all l)
theorem dp_two {K : PySem.W.Frag} {H : Hp} {p a b : Addr} {l m : List Int} (h : H p = some (.lst [.ref a, .ref b])) (h1 : H a = some (.lst (l.map V.int))) (h2 : H b = some (.lst (m.map V.int))) : Dp K H (.ref p) (.list [dInts l, dInts m]) :=
  .lst (SqL.of h) (.cons (dp_ints h1) (.cons (dp_ints h2) .nil))
def RowAt (W : Addr → Prop) (H : Hp) (t : Addr) (g : Gm) : Prop := ∃ a b, H t = some (.tup [.ref a, .ref b]) ∧ H a = some (.lst (g.1.map V.int)) ∧ H b = some (.lst (g.2.map V.int)) ∧ ¬ W t ∧ ¬ W a ∧ ¬ W b
theorem RowAt.keep {W : Addr → Prop} {H H' : Hp} {t : Addr} {g : Gm} (r : RowAt W H t g) (k : Keep W H H') : RowAt W H' t g := by
  obtain ⟨a, b, h1, h2, h3, n1, n2, n3⟩ := r
  exact ⟨a, b, k _ _ n1 h1, k _ _ n2 h2, k _ _ n3 h3, n1, n2, n3⟩
theorem RowAt.dp {K : PySem.W.Frag} {W : Addr → Prop} {H : Hp} {t : Addr} {g : Gm} (r : RowAt W H t g) : Dp K H (.ref t) (dRow g) := by
  obtain ⟨a, b, h1, h2, h3, _⟩ := r
  exact .tup (SqT.of h1) (.cons (dp_ints h2) (.cons (dp_ints h3) .nil))
def RowsAt (W : Addr → Prop) (H : Hp) (R : Addr) (gs : List Gm) : Prop := ∃ ks : List Addr, H R = some (.lst (ks.map V.ref)) ∧ Paired (RowAt W H) ks gs
theorem rows_dp {K : PySem.W.Frag} {W : Addr → Prop} {H : Hp} {ks : List Addr} {gs : List Gm} (p : Paired (RowAt W H) ks gs) : DpAll K H (ks.map V.ref) (gs.map dRow) := by
  induction p with
  | nil => exact .nil
  | cons r _ ih => exact .cons r.dp ih
theorem RowsAt.dp {K : PySem.W.Frag} {W : Addr → Prop} {H : Hp} {R : Addr} {gs : List Gm} (r : RowsAt W H R gs) : Dp K H (.ref R) (.list (gs.map dRow)) := by
  obtain ⟨ks, h, p⟩ := r
  exact .lst (SqL.of h) (rows_dp p)
theorem any_row (gs : List Gm) (k : Gm) : ((gs.map dRow).any fun z => PyData.eqv z (dRow k)) = decide (k ∈ gs) := by
  rw [List.any_map]
  have e : ((fun z => PyData.eqv z (dRow k)) ∘ dRow) = fun g => decide (g = k) := by funext g; exact eqv_dRow g k
  rw [e]
  by_cases h : k ∈ gs
  · rw [decide_eq_true h]; exact List.any_eq_true.mpr ⟨k, h, by simp⟩
  · rw [decide_eq_false h]; exact List.any_eq_false.mpr fun x hx => by simp; intro z; exact h (z ▸ hx)
theorem v_ninRows {P : Program} {w : World} {K : PySem.W.Frag} {W : Addr → Prop} {H : Hp} {Q : VK} {t R : Addr} {k : Gm} {gs : List Gm} (r : RowsAt W H R gs) (h : RowAt W H t k) (q : Q (.bl (!decide (k ∈ gs))) H) : cNotIn P w K (.ref t) (.ref R) H Q :=
  .inr (.inl ⟨_, _, h.dp, r.dp, dRow_sh _, dRows_sh _, by rw [any_row]; exact q⟩)
theorem v_indexRows {K : PySem.W.Frag} {W : Addr → Prop} {H : Hp} {Q : VK} {t R : Addr} {k : Gm} {gs : List Gm} (r : RowsAt W H R gs) (h : RowAt W H t k) (m : k ∈ gs) (q : Q (.int (ixG gs k)) H) : kIndex K (.ref R) [.ref t] H Q := by
  refine .inr ⟨R, .ref t, dRow k, gs.map dRow, ixG gs k, dRow k, rfl, rfl, r.dp, h.dp, dRows_sh _, dRow_sh _, ?_, by rw [eqv_dRow]; simp, fun j z hj hz => ?_, q⟩
  · rw [List.getElem?_map, ixG_get m]; rfl
  · rw [List.getElem?_map] at hz
    obtain ⟨g, hg, rfl⟩ := Option.map_eq_some_iff.mp hz
    rw [eqv_dRow]
    refine decide_eq_false fun e => ?_
    subst e
    obtain ⟨hl, hg⟩ := List.getElem?_eq_some_iff.mp hg
    have := List.not_of_lt_findIdx (p := fun x => x == g) (xs := gs) (i := j) hj
    simp [hg] at this
theorem up_len : ∀ (l : List Int) (lo n : Int), l.Pairwise (· < ·) → (∀ x ∈ l, lo ≤ x ∧ x < n) → lo ≤ n → (l.length : Int) ≤ n - lo
  | [], lo, n, _, _, h => by simp; omega
  | x :: r, lo, n, u, b, _ => by
    have u' := List.pairwise_cons.mp u
    have bx := b x List.mem_cons_self
    have := up_len r (x + 1) n u'.2 (fun y hy => ⟨by have := u'.1 y hy; omega, (b y (List.mem_cons_of_mem _ hy)).2⟩) (by omega)
    simp only [List.length_cons]; omega
/-- the deck, the book and the rows, apart -/
def Wd (MD MB : Addr → Prop) (R : Addr) : Addr → Prop := fun x => MD x ∨ MB x ∨ x = R
structure Lv (c : Cn) (H : Hp) (d b R : Addr) (MD MB : Addr → Prop) (rs gs : List Gm) (ds : List Int) : Prop where
  D : DeckAt H d MD
  B : BookAt c H b MB gs ds
  rows : RowsAt (Wd MD MB R) H R rs
  s1 : ∀ x, MB x → ¬ MD x
  s2 : ¬ MD R
  s3 : ¬ MB R
theorem DeckAt.cell {H : Hp} {d : Addr} {M : Addr → Prop} (D : DeckAt H d M) {x : Addr} (h : M x) : ∃ l, H x = some (.lst l) := by
  obtain ⟨pl, ps, i, h1, _, h2, _, _, _, _, h3, h4⟩ := D.ex
  rcases h4 x h with rfl | rfl | hx
  · exact ⟨_, h1⟩
  · exact ⟨_, h2⟩
  · obtain ⟨_, _, _, a, b, k, e⟩ := h3 x hx
    exact ⟨_, e⟩
theorem RowsAt.keep {W : Addr → Prop} {H H' : Hp} {R : Addr} {gs : List Gm} (r : RowsAt W H R gs) (k : Keep W H H') (e : ∀ o, H R = some o → H' R = some o) : RowsAt W H' R gs := by
  obtain ⟨ks, h, p⟩ := r
  exact ⟨ks, e _ h, paired_keep p fun t g q => q.keep k⟩
section
variable {c : Cn} {H H' : Hp} {d b R : Addr} {MD MB : Addr → Prop} {rs gs : List Gm} {ds : List Int}
theorem Lv.draw (L : Lv c H d b R MD MB rs gs ds) (k : Keep MD H H') (D' : DeckAt H' d MD) : Lv c H' d b R MD MB rs gs ds :=
  ⟨D', L.B.keep k (fun _ h => L.D.cell h) L.s1, L.rows.keep (k.mono fun _ h => .inl h) fun o h => k _ _ L.s2 h, L.s1, L.s2, L.s3⟩
theorem Lv.same (L : Lv c H d b R MD MB rs gs ds) (k : Keep Nil H H') : Lv c H' d b R MD MB rs gs ds := L.draw k.weak (L.D.keep k fun _ _ z => z)
theorem Lv.game (L : Lv c H d b R MD MB rs gs ds) {gs' : List Gm} {ds' : List Int} (k : Keep MB H H') (B' : BookAt c H' b MB gs' ds') : Lv c H' d b R MD MB rs gs' ds' :=
  ⟨L.D.keep k fun x h z => L.s1 x z h, B', L.rows.keep (k.mono fun _ h => .inr (.inl h)) fun o h => k _ _ L.s3 h, L.s1, L.s2, L.s3⟩
theorem Lv.new (L : Lv c H d b R MD MB rs gs ds) {x : Addr} (h : H x = none) : ¬ Wd MD MB R x := by
  rintro (z | z | z)
  · exact L.D.new h z
  · exact L.B.new h z
  · obtain ⟨ks, e, _⟩ := L.rows
    rw [z, e] at h; cases h
theorem Lv.tupN (L : Lv c H d b R MD MB rs gs ds) {x : Addr} {l : List V} (h : H x = some (.tup l)) : ¬ Wd MD MB R x := by
  rintro (z | z | z)
  · obtain ⟨l, e⟩ := L.D.cell z; rw [h] at e; cases e
  · exact L.B.tupN h z
  · obtain ⟨ks, e, _⟩ := L.rows
    rw [z, e] at h; cases h
theorem Lv.set (L : Lv c H d b R MD MB rs gs ds) {x : Addr} {l m : List V} (h : H x = some (.lst l)) (n : ¬ Wd MD MB R x) (nr : ∀ t g, RowAt (Wd MD MB R) H t g → ∀ a b, H t = some (.tup [.ref a, .ref b]) → a ≠ x ∧ b ≠ x) : Lv c (upd H x (.lst m)) d b R MD MB rs gs ds := by
  have k : Keep (fun a => a = x) H (upd H x (.lst m)) := Keep.refl.set rfl
  obtain ⟨ks, e, p⟩ := L.rows
  refine ⟨L.D.keep k fun y h z => n (.inl (z ▸ h)), L.B.keep k (fun y z => ⟨_, z ▸ h⟩) fun y h z => n (.inr (.inl (z ▸ h))), ⟨ks, get_set (fun z => n (.inr (.inr z.symm))) e, paired_keep p fun t g q => ?_⟩, L.s1, L.s2, L.s3⟩
  obtain ⟨a', b', h1, h2, h3, n1, n2, n3⟩ := id q
  obtain ⟨z1, z2⟩ := nr t g q a' b' h1
  exact ⟨a', b', get_set (lt_ne h h1) h1, get_set z1 h2, get_set z2 h3, n1, n2, n3⟩
theorem Lv.push (L : Lv c H d b R MD MB rs gs ds) {ks : List Addr} {t : Addr} {k : Gm} (h : H R = some (.lst (ks.map V.ref))) (r : RowAt (Wd MD MB R) H t k) : Lv c (upd H R (.lst (ks.map V.ref ++ [.ref t]))) d b R MD MB (rs ++ [k]) gs ds := by
  have kR : Keep (fun a => a = R) H (upd H R (.lst (ks.map V.ref ++ [.ref t]))) := Keep.refl.set rfl
  have kW := kR.mono (N := Wd MD MB R) fun _ h => .inr (.inr h)
  obtain ⟨ks', h', p⟩ := L.rows
  rw [h] at h'
  have e : ks = ks' := by
    have : ks.map V.ref = ks'.map V.ref := by injection h' with h'; injection h'
    exact List.map_inj_right (fun a b z => by injection z) |>.mp this
  subst e
  refine ⟨L.D.keep kR fun y h z => L.s2 (z ▸ h), L.B.keep kR (fun y z => ⟨_, z ▸ h⟩) fun y h z => L.s3 (z ▸ h), ⟨ks ++ [t], ?_, Paired.snoc (paired_keep p fun t g q => q.keep kW) (r.keep kW)⟩, L.s1, L.s2, L.s3⟩
  rw [List.map_append]; exact upd_same
end

/-! the moves as they are told -/
abbrev N_Book_lefts : List Str := ["self", "g"]
theorem sc_Book_lefts : FnScope N_Book_lefts ["self", "g"] (defScope s_Book_lefts) := ⟨rfl, rfl, rfl, by decide +kernel, rfl, by decide +kernel, by decide +kernel⟩
def t_Book_lefts (c : Cn) (E : XK) : TS :=
  (tSeq (tDrop (tMeth c.cBook "need" (sx_Book_need c) [] E (tVar 0) (tCons (tVar 1) tNil)))
  (tRet (tCB (kList c.K) (tCons (tOp (bIx c.P c.w c.K) (tOp (bIx c.P c.w c.K) (tFld c.K (tVar 0) "moves") (tVar 1)) (tC (.int 0))) tNil))))
def sp_Book_lefts (c : Cn) : Sp := fun vs H Q E => vs.length = 2 ∧ ∃ (b : Addr) (M : Addr → Prop) (gs : List Gm) (ds : List Int) (g : Nat) (gm : Gm), vs = [.ref b, .int g] ∧ BookAt c H b M gs ds ∧ gs[g]? = some gm ∧ ∀ p, H p = none → Q (.ref p) (upd H p (.lst (gm.1.map V.int)))
theorem p_Book_lefts {c : Cn} {mg : Str → Option Value} (T : Txt c mg) {vs : List V} {H : Hp} {Q : VK} {E : XK} (h : sp_Book_lefts c vs H Q E) : t_Book_lefts c E { nx := fun _ H' => Q .non H', rt := Q } (start N_Book_lefts vs) H := by
  obtain ⟨_, b, M, gs, ds, g, gm, rfl, B, hg, k⟩ := h
  obtain ⟨dx, mv, nm, dp, ts, xs, h1, h2, h3, h4, h5, h6, h7, m1, m2, m3, ne, h8⟩ := B.ex
  have hl := (List.getElem?_eq_some_iff.mp hg).1
  unfold t_Book_lefts
  repeat kaf_suf
  refine ⟨rfl, .inl ⟨rfl, b, M, gs, ds, g, rfl, B, by omega, by omega, ?_⟩⟩
  obtain ⟨t, ht, ka, kb, t1, t2, t3⟩ := paired_get h3 hg
  have hx : atI (ts.map V.ref) (g : Int) = some (V.ref t) := atI_get (n := g) (by rw [List.getElem?_map, ht]; rfl) rfl
  repeat kaf_suf
  exact k
def sy_Book_lefts (c : Cn) : Sp := fun vs H Q E => vs.length = 2 ∧ ∃ (b : Addr) (M : Addr → Prop) (gs : List Gm) (ds : List Int) (v : V), vs = [.ref b, v] ∧ BookAt c H b M gs ds ∧ BadV H gs.length v ∧ E (.ref c.cNoGame) none H
theorem q_Book_lefts {c : Cn} {mg : Str → Option Value} (T : Txt c mg) {vs : List V} {H : Hp} {Q : VK} {E : XK} (h : sy_Book_lefts c vs H Q E) : t_Book_lefts c E { nx := fun _ H' => Q .non H', rt := Q } (start N_Book_lefts vs) H := by
  obtain ⟨_, b, M, gs, ds, v, rfl, B, bd, k⟩ := h
  obtain ⟨dx, mv, nm, dp, hb⟩ := B.ins_
  unfold t_Book_lefts
  repeat kaf_suf
  exact ⟨rfl, .inr ⟨rfl, b, M, gs, ds, v, rfl, B, bd, k⟩⟩
def sx_Book_lefts (c : Cn) : Sp := fun vs H Q E => vs.length = 2 ∧ (sp_Book_lefts c vs H Q E ∨ sy_Book_lefts c vs H Q E)
theorem metx_Book_lefts {c : Cn} {mg : Str → Option Value} {base : Heap} (T : Txt c mg) : Met c.P c.w c.K mg base (L2.CX c.P c.w) 2 c.cBook "lefts" (sx_Book_lefts c) := by
  obtain ⟨f, fd, F, g, b⟩ := T.F_Book_lefts
  exact ⟨f, fd, ["self", "g"], T.cl_Book, g, F.okX (k := 1) (N := N_Book_lefts) sc_Book_lefts (fun vs H Q E h => h.1) (fun cdv A outer s H vs Q E hr h => ⟨t_Book_lefts c E, by
  exact (pss_cons (ps_expr (e_meth (metx_Book_need T) hr (by decide) (passes_call (takes_of rfl rfl rfl rfl) fun _ _ _ _ z => z) (pv 0) (pa_cons (pv 1) pa_nil)))
  (pss_one (ps_ret (pe_callTy (k_list rfl) (by rfl) T.n_list (by decide +kernel) (pa_cons (pe_ix (x_ix (hu64 hr)) (pe_ix (x_ix (hu64 hr)) (pe_fld (pv 0) rfl) (pv 1) (fun _ _ => rfl)) pe_int (fun _ _ => rfl)) pa_nil))))), h.2.elim (p_Book_lefts T) (q_Book_lefts T)⟩), b⟩
theorem met_Book_lefts {c : Cn} {mg : Str → Option Value} {base : Heap} (T : Txt c mg) : Met c.P c.w c.K mg base (L2.CX c.P c.w) 2 c.cBook "lefts" (sp_Book_lefts c) := by
  obtain ⟨f, fd, ps, cl, m, F, b⟩ := (metx_Book_lefts T).ex
  exact ⟨⟨f, fd, ps, cl, m, F.imp fun vs H Q E h => ⟨h.1, .inl h⟩, b⟩⟩
abbrev N_Book_rights : List Str := ["self", "g"]
theorem sc_Book_rights : FnScope N_Book_rights ["self", "g"] (defScope s_Book_rights) := ⟨rfl, rfl, rfl, by decide +kernel, rfl, by decide +kernel, by decide +kernel⟩
def t_Book_rights (c : Cn) (E : XK) : TS :=
  (tSeq (tDrop (tMeth c.cBook "need" (sx_Book_need c) [] E (tVar 0) (tCons (tVar 1) tNil)))
  (tRet (tCB (kList c.K) (tCons (tOp (bIx c.P c.w c.K) (tOp (bIx c.P c.w c.K) (tFld c.K (tVar 0) "moves") (tVar 1)) (tC (.int 1))) tNil))))
def sp_Book_rights (c : Cn) : Sp := fun vs H Q E => vs.length = 2 ∧ ∃ (b : Addr) (M : Addr → Prop) (gs : List Gm) (ds : List Int) (g : Nat) (gm : Gm), vs = [.ref b, .int g] ∧ BookAt c H b M gs ds ∧ gs[g]? = some gm ∧ ∀ p, H p = none → Q (.ref p) (upd H p (.lst (gm.2.map V.int)))
theorem p_Book_rights {c : Cn} {mg : Str → Option Value} (T : Txt c mg) {vs : List V} {H : Hp} {Q : VK} {E : XK} (h : sp_Book_rights c vs H Q E) : t_Book_rights c E { nx := fun _ H' => Q .non H', rt := Q } (start N_Book_rights vs) H := by
  obtain ⟨_, b, M, gs, ds, g, gm, rfl, B, hg, k⟩ := h
  obtain ⟨dx, mv, nm, dp, ts, xs, h1, h2, h3, h4, h5, h6, h7, m1, m2, m3, ne, h8⟩ := B.ex
  have hl := (List.getElem?_eq_some_iff.mp hg).1
  unfold t_Book_rights
  repeat kaf_suf
  refine ⟨rfl, .inl ⟨rfl, b, M, gs, ds, g, rfl, B, by omega, by omega, ?_⟩⟩
  obtain ⟨t, ht, ka, kb, t1, t2, t3⟩ := paired_get h3 hg
  have hx : atI (ts.map V.ref) (g : Int) = some (V.ref t) := atI_get (n := g) (by rw [List.getElem?_map, ht]; rfl) rfl
  repeat kaf_suf
  exact k
def sy_Book_rights (c : Cn) : Sp := fun vs H Q E => vs.length = 2 ∧ ∃ (b : Addr) (M : Addr → Prop) (gs : List Gm) (ds : List Int) (v : V), vs = [.ref b, v] ∧ BookAt c H b M gs ds ∧ BadV H gs.length v ∧ E (.ref c.cNoGame) none H
theorem q_Book_rights {c : Cn} {mg : Str → Option Value} (T : Txt c mg) {vs : List V} {H : Hp} {Q : VK} {E : XK} (h : sy_Book_rights c vs H Q E) : t_Book_rights c E { nx := fun _ H' => Q .non H', rt := Q } (start N_Book_rights vs) H := by
  obtain ⟨_, b, M, gs, ds, v, rfl, B, bd, k⟩ := h
  obtain ⟨dx, mv, nm, dp, hb⟩ := B.ins_
  unfold t_Book_rights
  repeat kaf_suf
  exact ⟨rfl, .inr ⟨rfl, b, M, gs, ds, v, rfl, B, bd, k⟩⟩
def sx_Book_rights (c : Cn) : Sp := fun vs H Q E => vs.length = 2 ∧ (sp_Book_rights c vs H Q E ∨ sy_Book_rights c vs H Q E)
theorem metx_Book_rights {c : Cn} {mg : Str → Option Value} {base : Heap} (T : Txt c mg) : Met c.P c.w c.K mg base (L2.CX c.P c.w) 2 c.cBook "rights" (sx_Book_rights c) := by
  obtain ⟨f, fd, F, g, b⟩ := T.F_Book_rights
  exact ⟨f, fd, ["self", "g"], T.cl_Book, g, F.okX (k := 1) (N := N_Book_rights) sc_Book_rights (fun vs H Q E h => h.1) (fun cdv A outer s H vs Q E hr h => ⟨t_Book_rights c E, by
  exact (pss_cons (ps_expr (e_meth (metx_Book_need T) hr (by decide) (passes_call (takes_of rfl rfl rfl rfl) fun _ _ _ _ z => z) (pv 0) (pa_cons (pv 1) pa_nil)))
  (pss_one (ps_ret (pe_callTy (k_list rfl) (by rfl) T.n_list (by decide +kernel) (pa_cons (pe_ix (x_ix (hu64 hr)) (pe_ix (x_ix (hu64 hr)) (pe_fld (pv 0) rfl) (pv 1) (fun _ _ => rfl)) pe_int (fun _ _ => rfl)) pa_nil))))), h.2.elim (p_Book_rights T) (q_Book_rights T)⟩), b⟩
theorem met_Book_rights {c : Cn} {mg : Str → Option Value} {base : Heap} (T : Txt c mg) : Met c.P c.w c.K mg base (L2.CX c.P c.w) 2 c.cBook "rights" (sp_Book_rights c) := by
  obtain ⟨f, fd, ps, cl, m, F, b⟩ := (metx_Book_rights T).ex
  exact ⟨⟨f, fd, ps, cl, m, F.imp fun vs H Q E h => ⟨h.1, .inl h⟩, b⟩⟩

/-! the depth as it is told -/
abbrev N_Book_depth : List Str := ["self", "g"]
theorem sc_Book_depth : FnScope N_Book_depth ["self", "g"] (defScope s_Book_depth) := ⟨rfl, rfl, rfl, by decide +kernel, rfl, by decide +kernel, by decide +kernel⟩
def t_Book_depth (c : Cn) (E : XK) : TS :=
  (tSeq (tDrop (tMeth c.cBook "need" (sx_Book_need c) [] E (tVar 0) (tCons (tVar 1) tNil)))
  (tRet (tOp (bIx c.P c.w c.K) (tFld c.K (tVar 0) "depths") (tVar 1))))
def sp_Book_depth (c : Cn) : Sp := fun vs H Q E => vs.length = 2 ∧ ∃ (b : Addr) (M : Addr → Prop) (gs : List Gm) (ds : List Int) (g : Nat) (e : Int), vs = [.ref b, .int g] ∧ BookAt c H b M gs ds ∧ ds[g]? = some e ∧ Q (.int e) H
theorem p_Book_depth {c : Cn} {mg : Str → Option Value} (T : Txt c mg) {vs : List V} {H : Hp} {Q : VK} {E : XK} (h : sp_Book_depth c vs H Q E) : t_Book_depth c E { nx := fun _ H' => Q .non H', rt := Q } (start N_Book_depth vs) H := by
  obtain ⟨_, b, M, gs, ds, g, e, rfl, B, hg, k⟩ := h
  obtain ⟨dx, mv, nm, dp, ts, xs, h1, h2, h3, h4, h5, h6, h7, m1, m2, m3, ne, h8⟩ := B.ex
  have hl := (List.getElem?_eq_some_iff.mp hg).1
  have hn := B.dok.len
  unfold t_Book_depth
  repeat kaf_suf
  refine ⟨rfl, .inl ⟨rfl, b, M, gs, ds, g, rfl, B, by omega, by omega, ?_⟩⟩
  have hx : atI (ds.map V.int) (g : Int) = some (V.int e) := atI_get (n := g) (by rw [List.getElem?_map, hg]; rfl) rfl
  repeat kaf_suf
  exact k
def sy_Book_depth (c : Cn) : Sp := fun vs H Q E => vs.length = 2 ∧ ∃ (b : Addr) (M : Addr → Prop) (gs : List Gm) (ds : List Int) (v : V), vs = [.ref b, v] ∧ BookAt c H b M gs ds ∧ BadV H gs.length v ∧ E (.ref c.cNoGame) none H
theorem q_Book_depth {c : Cn} {mg : Str → Option Value} (T : Txt c mg) {vs : List V} {H : Hp} {Q : VK} {E : XK} (h : sy_Book_depth c vs H Q E) : t_Book_depth c E { nx := fun _ H' => Q .non H', rt := Q } (start N_Book_depth vs) H := by
  obtain ⟨_, b, M, gs, ds, v, rfl, B, bd, k⟩ := h
  obtain ⟨dx, mv, nm, dp, hb⟩ := B.ins_
  unfold t_Book_depth
  repeat kaf_suf
  exact ⟨rfl, .inr ⟨rfl, b, M, gs, ds, v, rfl, B, bd, k⟩⟩
def sx_Book_depth (c : Cn) : Sp := fun vs H Q E => vs.length = 2 ∧ (sp_Book_depth c vs H Q E ∨ sy_Book_depth c vs H Q E)
theorem metx_Book_depth {c : Cn} {mg : Str → Option Value} {base : Heap} (T : Txt c mg) : Met c.P c.w c.K mg base (L2.CX c.P c.w) 2 c.cBook "depth" (sx_Book_depth c) := by
  obtain ⟨f, fd, F, g, b⟩ := T.F_Book_depth
  exact ⟨f, fd, ["self", "g"], T.cl_Book, g, F.okX (k := 1) (N := N_Book_depth) sc_Book_depth (fun vs H Q E h => h.1) (fun cdv A outer s H vs Q E hr h => ⟨t_Book_depth c E, by
  exact (pss_cons (ps_expr (e_meth (metx_Book_need T) hr (by decide) (passes_call (takes_of rfl rfl rfl rfl) fun _ _ _ _ z => z) (pv 0) (pa_cons (pv 1) pa_nil)))
  (pss_one (ps_ret (pe_ix (x_ix (hu64 hr)) (pe_fld (pv 0) rfl) (pv 1) (fun _ _ => rfl))))), h.2.elim (p_Book_depth T) (q_Book_depth T)⟩), b⟩
theorem met_Book_depth {c : Cn} {mg : Str → Option Value} {base : Heap} (T : Txt c mg) : Met c.P c.w c.K mg base (L2.CX c.P c.w) 2 c.cBook "depth" (sp_Book_depth c) := by
  obtain ⟨f, fd, ps, cl, m, F, b⟩ := (metx_Book_depth T).ex
  exact ⟨⟨f, fd, ps, cl, m, F.imp fun vs H Q E h => ⟨h.1, .inl h⟩, b⟩⟩
theorem DOk.pos {gs : List Gm} {ds : List Int} (o : GOk gs) (d : DOk gs ds) : ∀ (n i : Nat), i < n → ∀ e, ds[i]? = some e → 0 ≤ e
  | 0, _, h, _, _ => by omega
  | n + 1, i, h, e, he => by
    have hi := (List.getElem?_eq_some_iff.mp he).1
    obtain ⟨g, hg⟩ : ∃ g, gs[i]? = some g := ⟨_, List.getElem?_eq_getElem (by rw [← d.len]; exact hi)⟩
    obtain ⟨d1, _, d3⟩ := d.at_ i _ e hg he
    by_cases z : g.1 ++ g.2 = []
    · have := d1 z; omega
    · obtain ⟨x, hx, ex⟩ := d3 z
      obtain ⟨m, hm, rfl⟩ := List.mem_map.mp hx
      obtain ⟨l0, l1⟩ := o.low i _ hg m hm
      have : 0 ≤ ds[m.toNat]?.getD 0 := by
        cases q : ds[m.toNat]? with
        | none => simp
        | some v => exact DOk.pos o d n m.toNat (by omega) v q
      omega

theorem gm_len {c : Cn} {H : Hp} {b : Addr} {M : Addr → Prop} {gs : List Gm} {ds : List Int} (B : BookAt c H b M gs ds) {i : Nat} {g : Gm} (h : gs[i]? = some g) (n : gs.length ≤ 900) : g.1.length ≤ 900 ∧ g.2.length ≤ 900 := by
  have up := B.ok.up g (List.mem_of_getElem? h)
  have lw := B.ok.low i g h
  have hi := (List.getElem?_eq_some_iff.mp h).1
  have l1 := up_len _ 0 gs.length up.1 (fun x hx => by have := lw x (List.mem_append_left _ hx); omega) (by omega)
  have l2 := up_len _ 0 gs.length up.2 (fun x hx => by have := lw x (List.mem_append_right _ hx); omega) (by omega)
  omega

/-! some moves among many -/
abbrev N_law_moves : List Str := ["deck", "many", "found", "k", "one", "near"]
theorem sc_law_moves : FnScope N_law_moves ["deck", "many"] (defScope s_law_moves) := ⟨rfl, rfl, rfl, by decide +kernel, rfl, by decide +kernel, by decide +kernel⟩
def t_law_moves (c : Cn) : TS :=
  (tSeq (tAsg (tLst tNil) (gName 2))
  (tSeq (tFor (iRng1 (tCons (tOp (bIx c.P c.w c.K) (tLst (tCons (tC (.int 0)) (tCons (tC (.int 1)) (tCons (tC (.int 1)) (tCons (tC (.int 2)) (tCons (tC (.int 2)) (tCons (tC (.int 3)) (tCons (tC (.int 4)) tNil)))))))) (tCall (sp_law_draw c) [] E0 (tCons (tVar 0) (tCons (tC (.int 7)) tNil)))) tNil)) (gName 3)
  (tSeq (tAsg (tCall (sp_law_draw c) [] E0 (tCons (tVar 0) (tCons (tVar 1) tNil))) (gName 4))
  (tSeq (tAsg (tOp bSub (tOp bSub (tVar 1) (tC (.int 1))) (tCall (sp_law_draw c) [] E0 (tCons (tVar 0) (tCons (tCB (kMin c.K) (tCons (tVar 1) (tCons (tC (.int 3)) tNil))) tNil)))) (gName 5))
  (tDrop (tBM c.K "list" rAppend (tVar 2) (tCons (tOp (bIx c.P c.w c.K) (tLst (tCons (tVar 4) (tCons (tVar 5) tNil))) (tCall (sp_law_draw c) [] E0 (tCons (tVar 0) (tCons (tC (.int 2)) tNil)))) tNil))))))
  (tRet (tVar 2))))
def sp_law_moves (c : Cn) : Sp := fun vs H Q E => vs.length = 2 ∧ ∃ (d : Addr) (m : Int) (M : Addr → Prop), vs = [.ref d, .int m] ∧ 1 ≤ m ∧ m < 2000 ∧ DeckAt H d M ∧
  ∀ (H' : Hp) (l : Addr) (ms : List Int), Keep M H H' → DeckAt H' d M → H l = none → H' l = some (.lst (ms.map V.int)) → ms.length ≤ 4 → (∀ x ∈ ms, 0 ≤ x ∧ x < m) → Q (.ref l) H'
theorem p_law_moves {c : Cn} {mg : Str → Option Value} (T : Txt c mg) {vs : List V} {H : Hp} {Q : VK} {E : XK} (h : sp_law_moves c vs H Q E) : t_law_moves c { nx := fun _ H' => Q .non H', rt := Q } (start N_law_moves vs) H := by
  obtain ⟨_, d, m, M, rfl, m1, m2, D, k⟩ := h
  unfold t_law_moves
  repeat kaf_suf
  intro l hl
  repeat kaf_suf
  intro p1 hp1
  repeat kaf_suf
  have D1 : DeckAt (upd (upd H l (.lst [])) p1 (.lst [.int 0, .int 1, .int 1, .int 2, .int 2, .int 3, .int 4])) d M := D.keep (Keep.new (Keep.alloc hl) hp1) (fun _ _ z => z)
  refine ⟨rfl, d, 7, M, rfl, by decide, by decide, D1, fun H1 n kp1 D1 n0 n1 => ?_⟩
  obtain ⟨z, hz, z0, z1⟩ : ∃ z : Int, atI [V.int 0, V.int 1, V.int 1, V.int 2, V.int 2, V.int 3, V.int 4] n = some (V.int z) ∧ 0 ≤ z ∧ z ≤ 4 := by
    have : n = 0 ∨ n = 1 ∨ n = 2 ∨ n = 3 ∨ n = 4 ∨ n = 5 ∨ n = 6 := by omega
    rcases this with rfl | rfl | rfl | rfl | rfl | rfl | rfl
    · exact ⟨0, rfl, by decide, by decide⟩
    · exact ⟨1, rfl, by decide, by decide⟩
    · exact ⟨1, rfl, by decide, by decide⟩
    · exact ⟨2, rfl, by decide, by decide⟩
    · exact ⟨2, rfl, by decide, by decide⟩
    · exact ⟨3, rfl, by decide, by decide⟩
    · exact ⟨4, rfl, by decide, by decide⟩
  have np1 : ¬ M p1 := D.new (none_of_upd hp1)
  have nl : ¬ M l := D.new hl
  repeat kaf_suf
  refine for_range (lo := 0) (n := z.toNat) (fun i σ H' => ∃ (ms : List Int) (a b c : Option V), σ = [some (.ref d), some (.int m), some (.ref l), a, b, c] ∧ H' l = some (.lst (ms.map V.int)) ∧ ms.length = i ∧ (∀ x ∈ ms, 0 ≤ x ∧ x < m) ∧ Keep M H H' ∧ DeckAt H' d M) ⟨[], _, _, _, rfl, by kaf_pre, rfl, fun _ z => (nomatch z), ((Keep.alloc hl).new hp1 |>.trans kp1), D1⟩ ?_ ?_
  · rintro i σ H2 hi ⟨ms, a, b, c', rfl, e1, e2, e3, k2, D2⟩
    repeat kaf_suf
    refine ⟨rfl, d, m, M, rfl, m1, by omega, D2, fun H3 one kp3 D3 o0 o1 => ?_⟩
    repeat kaf_suf
    have tm : 1 ≤ (if (3 : Int) < m then 3 else m) ∧ (if (3 : Int) < m then 3 else m) ≤ 3 ∧ (if (3 : Int) < m then 3 else m) ≤ m := by split <;> omega
    refine ⟨rfl, d, _, M, rfl, tm.1, by omega, D3, fun H4 w kp4 D4 w0 w1 => ?_⟩
    repeat kaf_suf
    intro p2 hp2
    repeat kaf_suf
    have D5 := D4.keep (Keep.alloc (o := .lst [.int one, .int (m - 1 - w)]) hp2) (fun _ _ z => z)
    refine ⟨rfl, d, 2, M, rfl, by decide, by decide, D5, fun H6 u kp6 D6 u0 u1 => ?_⟩
    have np2 : ¬ M p2 := D4.new hp2
    obtain ⟨y, hy, y0, y1⟩ : ∃ y : Int, atI [V.int one, V.int (m - 1 - w)] u = some (V.int y) ∧ 0 ≤ y ∧ y < m := by
      have : u = 0 ∨ u = 1 := by omega
      rcases this with rfl | rfl
      · exact ⟨one, rfl, o0, o1⟩
      · exact ⟨_, rfl, by omega, by omega⟩
    repeat kaf_suf
    refine ⟨ms ++ [y], _, _, _, rfl, ?_, by simp [e2], fun x hx => ?_, (((k2.trans kp3).trans kp4).new hp2 |>.trans kp6).setN hl, D6.keep (N := fun x => x = l) (Keep.refl.set rfl) fun x hx e => nl (e ▸ hx)⟩
    · rw [List.map_append]; exact upd_same
    · rcases List.mem_append.mp hx with hx | hx
      · exact e3 x hx
      · cases List.mem_singleton.mp hx; exact ⟨y0, y1⟩
  · rintro σ H2 ⟨ms, a, b, c', rfl, e1, e2, e3, k2, D2⟩
    repeat kaf_suf
    exact k H2 l ms k2 D2 hl e1 (by omega) e3
theorem cal_law_moves {c : Cn} {mg : Str → Option Value} {base : Heap} (T : Txt c mg) : Cal c.P c.w c.K mg base CX0 2 "_law_moves" (sp_law_moves c) := by
  obtain ⟨f, fd, F, g, b⟩ := T.F_law_moves
  exact ⟨f, fd, ["deck", "many"], F.ok (k := 1) (N := N_law_moves) sc_law_moves (fun vs H Q E h => h.1) (fun cdv A outer s H vs Q E hr h => ⟨t_law_moves c, by
  exact (pss_cons (ps_set (i := 2) sc_law_moves.nd rfl (Or.inl rfl) (pe_lst pa_nil))
  (pss_cons (ps_for PassesOwn.never rfl (pi_range1 rfl T.n_range (pa_cons (pe_ix (x_ix (hu64 hr)) (pe_lst (pa_cons pe_int (pa_cons pe_int (pa_cons pe_int (pa_cons pe_int (pa_cons pe_int (pa_cons pe_int (pa_cons pe_int pa_nil)))))))) (e_call (cal_law_draw T) hr (by decide) pass0 rfl (pa_cons (pv 0) (pa_cons pe_int pa_nil))) (fun _ _ => rfl)) pa_nil)) (pg_name (i := 3) sc_law_moves.nd rfl (Or.inl rfl))
  (pss_cons (ps_set (i := 4) sc_law_moves.nd rfl (Or.inl rfl) (e_call (cal_law_draw T) hr (by decide) pass0 rfl (pa_cons (pv 0) (pa_cons (pv 1) pa_nil))))
  (pss_cons (ps_set (i := 5) sc_law_moves.nd rfl (Or.inl rfl) (pe_op o_sub (pe_op o_sub (pv 1) pe_int) (e_call (cal_law_draw T) hr (by decide) pass0 rfl (pa_cons (pv 0) (pa_cons (pe_callB (k_min rfl) (by rfl) T.n_min (by decide +kernel) (pa_cons (pv 1) (pa_cons pe_int pa_nil))) pa_nil)))))
  (pss_one (ps_expr (pe_bm PySem.F.plainAttrs_list PySem.F.slot_list_append PySem.F.type_list_append mt_append (pv 2) (pa_cons (pe_ix (x_ix (hu64 hr)) (pe_lst (pa_cons (pv 4) (pa_cons (pv 5) pa_nil))) (e_call (cal_law_draw T) hr (by decide) pass0 rfl (pa_cons (pv 0) (pa_cons pe_int pa_nil))) (fun _ _ => rfl)) pa_nil)))))))
  (pss_one (ps_ret (pv 2))))), p_law_moves T h⟩), g, F.kp, b⟩

/-! a book grown out of the deck -/
abbrev N_law_grown : List Str := ["deck", "book", "many", "rows", "k", "lefts", "rights", "told", "key"]
theorem sc_law_grown : FnScope N_law_grown ["deck", "book", "many"] (defScope s_law_grown) := ⟨rfl, rfl, rfl, by decide +kernel, rfl, by decide +kernel, by decide +kernel⟩
def t_law_grown (c : Cn) : TS :=
  (tSeq (tAsg (tLst (tCons (tTup (tCons (tLst tNil) (tCons (tLst tNil) tNil))) tNil)) (gName 3))
  (tSeq (tFor (iRng1 (tCons (tVar 2) tNil)) (gName 4)
  (tSeq (tAsg (tCall (sp_law_moves c) [] E0 (tCons (tVar 0) (tCons (tCB (kLen c.K) (tCons (tVar 3) tNil)) tNil))) (gName 5))
  (tSeq (tAsg (tCall (sp_law_moves c) [] E0 (tCons (tVar 0) (tCons (tCB (kLen c.K) (tCons (tVar 3) tNil)) tNil))) (gName 6))
  (tSeq (tAsg (tMeth c.cBook "game" (sp_Book_game c) [] E0 (tVar 1) (tCons (tCB (kList c.K) (tCons (tVar 5) tNil)) (tCons (tCB (kList c.K) (tCons (tVar 6) tNil)) tNil))) (gName 7))
  (tSeq (tAsg (tTup (tCons (tCB (kSorted c.K c.w) (tCons (tCB (uSetI c.K c.w) (tCons (tVar 5) tNil)) tNil)) (tCons (tCB (kSorted c.K c.w) (tCons (tCB (uSetI c.K c.w) (tCons (tVar 6) tNil)) tNil)) tNil))) (gName 8))
  (C8.tCut (tIfS (tTest (tOp (cNotIn c.P c.w c.K) (tVar 8) (tVar 3)))
  (tDrop (tBM c.K "list" rAppend (tVar 3) (tCons (tVar 8) tNil)))
  tNext)
  (tIfS (tTest (tOp (cNe c.K) (tVar 7) (tBM c.K "list" (kIndex c.K) (tVar 3) (tCons (tVar 8) tNil))))
  (tRet (tC .non))
  tNext)))))))
  (tRet (tVar 3))))
def sp_law_grown (c : Cn) : Sp := fun vs H Q E => vs.length = 3 ∧ ∃ (d b : Addr) (m : Int) (MD MB : Addr → Prop), vs = [.ref d, .ref b, .int m] ∧ 0 ≤ m ∧ m ≤ 60 ∧ DeckAt H d MD ∧ BookAt c H b MB [([], [])] [0] ∧ (∀ x, MB x → ¬ MD x) ∧
  ∀ (H' : Hp) (R : Addr) (gs : List Gm) (ds : List Int), Lv c H' d b R MD MB gs gs ds → (gs.length : Int) ≤ m + 1 → Q (.ref R) H'
theorem p_law_grown {c : Cn} {mg : Str → Option Value} (T : Txt c mg) {vs : List V} {H : Hp} {Q : VK} {E : XK} (h : sp_law_grown c vs H Q E) : t_law_grown c { nx := fun _ H' => Q .non H', rt := Q } (start N_law_grown vs) H := by
  obtain ⟨_, d, b, m, MD, MB, rfl, m0, m1, D2, B2, nbD, k⟩ := h
  unfold t_law_grown
  repeat kaf_suf
  intro e1 he1
  repeat kaf_suf
  intro e2 he2
  repeat kaf_suf
  intro e3 he3
  repeat kaf_suf
  intro R hR
  have kR : Keep Nil H (upd (upd (upd (upd H e1 (.lst [])) e2 (.lst [])) e3 (.tup [.ref e1, .ref e2])) R (.lst [.ref e3])) := (((Keep.alloc he1).new he2).new he3).new hR
  have hR2 : H R = none := none_of_upd (none_of_upd (none_of_upd hR))
  have nw : ∀ x, H x = none → x ≠ R → ¬ Wd MD MB R x := fun x h n z => z.elim (D2.new h) fun z => z.elim (B2.new h) n
  have ne1 : e1 ≠ R := ne_old hR (by kaf_pre)
  have ne2 : e2 ≠ R := ne_old hR (by kaf_pre)
  have ne3 : e3 ≠ R := ne_old hR (by kaf_pre)
  have L3 : Lv c (upd (upd (upd (upd H e1 (.lst [])) e2 (.lst [])) e3 (.tup [.ref e1, .ref e2])) R (.lst [.ref e3])) d b R MD MB [([], [])] [([], [])] [0] :=
    ⟨D2.keep kR fun _ _ z => z, B2.same kR, ⟨[e3], upd_same, .cons ⟨e1, e2, by kaf_pre, by kaf_pre, by kaf_pre, nw _ (none_of_upd (none_of_upd he3)) ne3, nw _ he1 ne1, nw _ (none_of_upd he2) ne2⟩ .nil⟩, nbD, D2.new hR2, B2.new hR2⟩
  generalize upd (upd (upd (upd H e1 (.lst [])) e2 (.lst [])) e3 (.tup [.ref e1, .ref e2])) R (.lst [.ref e3]) = H3 at L3 ⊢
  clear kR hR2 nw ne1 ne2 ne3 he1 he2 he3 hR D2 B2
  repeat kaf_suf
  refine for_range (lo := 0) (n := m.toNat) (fun i σ H' => ∃ (x4 x5 x6 x7 x8 : Option V) (gs : List Gm) (ds : List Int), σ = [some (.ref d), some (.ref b), some (.int m), some (.ref R), x4, x5, x6, x7, x8] ∧ Lv c H' d b R MD MB gs gs ds ∧ gs.length ≤ i + 1) ⟨_, _, _, _, _, _, _, rfl, L3, by simp⟩ ?_ ?_
  · rintro i σ H5 hi ⟨x4, x5, x6, x7, x8, gs, ds, rfl, L5, hg⟩
    obtain ⟨ks, hks, pks⟩ := id L5.rows
    have pos := L5.B.pos
    have hkl : ks.length = gs.length := Paired.length pks
    have hkm : (ks.map V.ref).length = gs.length := by rw [List.length_map, hkl]
    have gi : gs.length ≤ 60 := by omega
    repeat kaf_suf
    refine ⟨rfl, d, _, MD, rfl, by omega, by omega, L5.D, fun H6 l ls k6 D6 nl hl ll lb => ?_⟩
    have L6 := L5.draw k6 D6
    have hks6 := k6 _ _ L5.s2 hks
    have nl6 := L5.new nl
    repeat kaf_suf
    refine ⟨rfl, d, _, MD, rfl, by omega, by omega, L6.D, fun H7 r rs k7 D7 nr hr rl rb => ?_⟩
    have L7 := L6.draw k7 D7
    have hks7 := k7 _ _ L6.s2 hks6
    have nr7 := L6.new nr
    have hl7 : H7 l = some (.lst (ls.map V.int)) := k7 _ _ (fun z => nl6 (.inl z)) hl
    have lb' : ∀ x ∈ ls, 0 ≤ x ∧ x < gs.length := fun x hx => by have := lb x hx; omega
    have rb' : ∀ x ∈ rs, 0 ≤ x ∧ x < gs.length := fun x hx => by have := rb x hx; omega
    obtain ⟨bx0, bm0, bn0, bd0, hb7⟩ := L7.B.ins_
    clear k6 k7 L6 D6 D7 hl lb rb L5 pks hks6 hks
    repeat kaf_suf
    intro y1 hy1
    repeat kaf_suf
    intro y2 hy2
    have ny1 := L7.new hy1
    have ny2 := L7.new (none_of_upd hy2)
    have y12 : y1 ≠ y2 := ne_old hy2 upd_same
    repeat kaf_suf
    have kY : Keep Nil H7 (upd (upd H7 y1 (.lst (ls.map V.int))) y2 (.lst (rs.map V.int))) := (Keep.alloc hy1).new hy2
    refine ⟨rfl, b, y1, y2, MB, gs, ds, ls, rs, rfl, L7.B.same kY, by kaf_pre, by kaf_pre, fun z => ny1 (.inr (.inl z)), fun z => ny2 (.inr (.inl z)), by omega, by omega, by omega, fun x hx => ?_, fun H8 e k8 B8 => ?_⟩
    · rcases List.mem_append.mp hx with hx | hx
      · exact lb' x hx
      · exact rb' x hx
    have L8 := (L7.same kY).game k8 B8
    have kw8 : Keep MB H7 H8 := kY.weak.trans k8
    have al8 := kw8 _ _ (fun z => nl6 (.inr (.inl z))) hl7
    have ar8 := kw8 _ _ (fun z => nr7 (.inr (.inl z))) hr
    have hks8 := kw8 _ _ L7.s3 hks7
    clear kY k8 kw8 B8 hl7 hr hks7 L7 hb7 hy1 hy2
    have w1 : ls.length ≤ 4000 := by omega
    have w2 : rs.length ≤ 4000 := by omega
    repeat kaf_suf
    intro p4 c4 hp4 _
    repeat kaf_suf
    intro ns4 p5 u4 m4 _ hp5
    repeat kaf_suf
    intro p7 c7 hp7 _
    repeat kaf_suf
    intro ns7 p8 u7 m7 _ hp8
    repeat kaf_suf
    intro t ht
    repeat kaf_suf
    obtain rfl : ns4 = canon ls := canon_eq u4 (by simpa using m4)
    obtain rfl : ns7 = canon rs := canon_eq u7 (by simpa using m7)
    refine absS (S := fun HT => Keep Nil H8 HT ∧ HT t = some (.tup [.ref p5, .ref p8]) ∧ HT p5 = some (.lst ((canon ls).map V.int)) ∧ HT p8 = some (.lst ((canon rs).map V.int))) ⟨?_, upd_same, by kaf_pre, by kaf_pre⟩ fun H9 ⟨k9, t1, t2, t3⟩ => ?_
    · exact ((((Keep.alloc hp4).new hp5).new hp7).new hp8).new ht
    have rt : RowAt (Wd MD MB R) H9 t (canon ls, canon rs) := ⟨p5, p8, t1, t2, t3, L8.new (none_of_upd (none_of_upd (none_of_upd (none_of_upd ht)))), L8.new (none_of_upd hp5), L8.new (none_of_upd (none_of_upd (none_of_upd hp8)))⟩
    have L9 := L8.same k9
    obtain ⟨ks9, hks9, pks9⟩ := id L9.rows
    have hkl9 : ks9.length = gs.length := Paired.length pks9
    have mem := addG_mem gs (canon ls, canon rs)
    have gl := addG_len (gs := gs) (k := (canon ls, canon rs))
    clear hp4 hp5 hp7 hp8 ht k9 L8 m4 m7 u4 u7 al8 ar8 hks8
    refine ⟨fun σ' H' => ∃ x4 x5 x6, σ' = [some (.ref d), some (.ref b), some (.int m), some (.ref R), x4, x5, x6, some (.int (ixG (addG gs (canon ls, canon rs)) (canon ls, canon rs))), some (.ref t)] ∧ Keep (Wd MD MB R) H9 H' ∧ Lv c H' d b R MD MB (addG gs (canon ls, canon rs)) (addG gs (canon ls, canon rs)) (ds ++ e), ?_, ?_⟩
    · repeat kaf_suf
      refine v_ninRows L9.rows rt ?_
      repeat kaf_suf
      refine r_iteN (fun e => ?_) (fun e => ?_)
      · repeat kaf_suf
        refine ⟨_, _, _, rfl, Keep.refl.set (.inr (.inr rfl)), ?_⟩
        have := L9.push hks9 rt
        rw [addG, if_neg e] at this ⊢
        exact this
      · repeat kaf_suf
        refine ⟨_, _, _, rfl, Keep.refl, ?_⟩
        have := L9
        rw [addG, if_pos e] at this ⊢
        exact this
    · rintro σ' H10 ⟨x4, x5, x6, rfl, k10, L10⟩
      have rt10 := rt.keep k10
      obtain ⟨ks10, hks10, pks10⟩ := id L10.rows
      generalize addG gs (canon ls, canon rs) = gs' at L10 mem gl pks10 ⊢
      clear k10 hks9 pks9 L9 rt t1 t2 t3
      repeat kaf_suf
      refine v_indexRows L10.rows rt10 mem ?_
      repeat kaf_suf
      exact ⟨_, _, _, _, _, gs', _, rfl, L10, by omega⟩
  · rintro σ H5 ⟨x4, x5, x6, x7, x8, gs, ds, rfl, L5, hg⟩
    repeat kaf_suf
    exact k H5 R gs ds L5 (by omega)
theorem cal_law_grown {c : Cn} {mg : Str → Option Value} {base : Heap} (T : Txt c mg) : Cal c.P c.w c.K mg base CX0 3 "_law_grown" (sp_law_grown c) := by
  obtain ⟨f, fd, F, g, b⟩ := T.F_law_grown
  exact ⟨f, fd, ["deck", "book", "many"], F.ok (k := 2) (N := N_law_grown) sc_law_grown (fun vs H Q E h => h.1) (fun cdv A outer s H vs Q E hr h => ⟨t_law_grown c, by
  exact (pss_cons (ps_set (i := 3) sc_law_grown.nd rfl (Or.inl rfl) (pe_lst (pa_cons (pe_tup (pa_cons (pe_lst pa_nil) (pa_cons (pe_lst pa_nil) pa_nil))) pa_nil)))
  (pss_cons (ps_for PassesOwn.never rfl (pi_range1 rfl T.n_range (pa_cons (pv 2) pa_nil)) (pg_name (i := 4) sc_law_grown.nd rfl (Or.inl rfl))
  (pss_cons (ps_set (i := 5) sc_law_grown.nd rfl (Or.inl rfl) (e_call (cal_law_moves T) hr (by decide) pass0 rfl (pa_cons (pv 0) (pa_cons (pe_callB k_len (by rfl) T.n_len (by decide +kernel) (pa_cons (pv 3) pa_nil)) pa_nil))))
  (pss_cons (ps_set (i := 6) sc_law_grown.nd rfl (Or.inl rfl) (e_call (cal_law_moves T) hr (by decide) pass0 rfl (pa_cons (pv 0) (pa_cons (pe_callB k_len (by rfl) T.n_len (by decide +kernel) (pa_cons (pv 3) pa_nil)) pa_nil))))
  (pss_cons (ps_set (i := 7) sc_law_grown.nd rfl (Or.inl rfl) (e_meth (met_Book_game T) hr (by decide) passL (pv 1) (pa_cons (pe_callTy (k_list rfl) (by rfl) T.n_list (by decide +kernel) (pa_cons (pv 5) pa_nil)) (pa_cons (pe_callTy (k_list rfl) (by rfl) T.n_list (by decide +kernel) (pa_cons (pv 6) pa_nil)) pa_nil))))
  (pss_cons (ps_set (i := 8) sc_law_grown.nd rfl (Or.inl rfl) (pe_tup (pa_cons (pe_callB (k_sorted rfl) (by rfl) T.n_sorted (by decide +kernel) (pa_cons (pe_callTy (k_set rfl) (by rfl) T.n_set (by decide +kernel) (pa_cons (pv 5) pa_nil)) pa_nil)) (pa_cons (pe_callB (k_sorted rfl) (by rfl) T.n_sorted (by decide +kernel) (pa_cons (pe_callTy (k_set rfl) (by rfl) T.n_set (by decide +kernel) (pa_cons (pv 6) pa_nil)) pa_nil)) pa_nil))))
  (C8.pss_cut (ps_if (pt_cmpR (o_notin (hu65 hr)) (pv 8) (pv 3) (by rfl)) (pss_one (ps_expr (pe_bm PySem.F.plainAttrs_list PySem.F.slot_list_append PySem.F.type_list_append mt_append (pv 3) (pa_cons (pv 8) pa_nil)))) pss_nil)
  (pss_one (ps_if (pt_cmpR (o_ne (hu64 hr)) (pv 7) (pe_bm PySem.F.plainAttrs_list PySem.F.slot_list_index PySem.F.type_list_index (mt_kindex (hu65 hr)) (pv 3) (pa_cons (pv 8) pa_nil)) (nomark _)) (pss_one (ps_ret pe_non)) pss_nil))))))))
  (pss_one (ps_ret (pv 3))))), p_law_grown T h⟩), g, F.kp, b⟩

/-! plain helpers -/
theorem any_eq {α : Type} {f g : α → Bool} : ∀ {l : List α}, (∀ m ∈ l, f m = g m) → l.any f = l.any g
  | [], _ => rfl
  | x :: r, h => by rw [List.any_cons, List.any_cons, h x List.mem_cons_self, any_eq fun m hm => h m (List.mem_cons_of_mem _ hm)]
def mvs (gs : List Gm) (g : Nat) (s : Bool) : List Int := match gs[g]? with
  | some x => if s then x.1 else x.2
  | none => []
theorem mvs_low {gs : List Gm} (o : GOk gs) {g : Nat} {s : Bool} {m : Int} (h : m ∈ mvs gs g s) : 0 ≤ m ∧ m < g ∧ g < gs.length := by
  unfold mvs at h
  cases e : gs[g]? with
  | none => rw [e] at h; simp at h
  | some x =>
    rw [e] at h
    have hl := (List.getElem?_eq_some_iff.mp e).1
    have := o.low g x e m (by
      cases s
      · simp at h; simp [h]
      · simp at h; simp [h])
    omega
theorem mvs_more {gs f : List Gm} {g : Nat} {s : Bool} (h : g < gs.length) : mvs (gs ++ f) g s = mvs gs g s := by
  unfold mvs; rw [List.getElem?_append_left h]
theorem nodup_le {α : Type} [DecidableEq α] : ∀ (l m : List α), l.Nodup → (∀ x ∈ l, x ∈ m) → l.length ≤ m.length
  | [], _, _, _ => Nat.zero_le _
  | x :: l, m, nd, h => by
    have nd' := List.nodup_cons.mp nd
    have hx := h x List.mem_cons_self
    have := nodup_le l (m.erase x) nd'.2 fun y hy => by
      have hm := h y (List.mem_cons_of_mem _ hy)
      exact (List.mem_erase_of_ne (fun (e : y = x) => nd'.1 (by rw [← e]; exact hy))).mpr hm
    rw [List.length_erase_of_mem hx] at this
    have := List.length_pos_of_mem hx
    simp only [List.length_cons]; omega
theorem nval_nput {xs : List NX} {k : NestedKey} {a : Addr} {v : V} : nval (nput xs k a v) k = some v := by
  unfold nput
  split
  · rename_i h
    clear a
    have go : ∀ xs : List NX, (nval xs k).isSome = true → nval (xs.map fun x => if x.1 = k then (x.1, x.2.1, v) else x) k = some v := fun xs => by
      unfold nval
      induction xs with
      | nil => intro h; simp at h
      | cons p q ih =>
        intro h
        rw [List.map_cons]
        by_cases e : p.1 = k
        · rw [if_pos e, List.find?_cons_of_pos (by simp [e])]; rfl
        · rw [if_neg e, List.find?_cons_of_neg (by simp [e])]
          rw [List.find?_cons_of_neg (by simp [e])] at h
          exact ih h
    exact go xs h
  · rename_i h
    rw [nval_snoc]
    have : nval xs k = none := by
      cases e : nval xs k with
      | none => rfl
      | some v => rw [e] at h; simp at h
    rw [this]; simp
theorem nval_mem {xs : List NX} {k : NestedKey} {v : V} (h : nval xs k = some v) : ∃ x ∈ xs, x.1 = k ∧ x.2.2 = v := by
  unfold nval at h
  obtain ⟨x, hx, rfl⟩ := Option.map_eq_some_iff.mp h
  exact ⟨x, List.mem_of_find?_eq_some hx, by simpa using List.find?_some hx, rfl⟩
theorem nval_none {xs : List NX} {k : NestedKey} (h : nval xs k = none) : ∀ x ∈ xs, x.1 ≠ k := fun x hx e => by
  unfold nval at h
  rw [Option.map_eq_none_iff] at h
  have := List.find?_eq_none.mp h x hx
  simp [e] at this
theorem any_filter {α : Type} [DecidableEq α] {p : α → Bool} : ∀ (l : List α), l.any p = !decide (l.filter p = [])
  | [] => by simp
  | x :: r => by
    by_cases h : p x = true
    · simp [h]
    · simp only [Bool.not_eq_true] at h
      rw [List.any_cons, h, Bool.false_or, any_filter r]
      simp [List.filter_cons, h]
theorem BookAt.keepX {c : Cn} {H H' : Hp} {b : Addr} {M N : Addr → Prop} {gs : List Gm} {ds : List Int} (B : BookAt c H b M gs ds) (k : Keep N H H') (n : ∀ x, N x → ∃ φ, H x = some (.ext φ)) (d : ∀ x, M x → ¬ N x) : BookAt c H' b M gs ds := by
  obtain ⟨dx, mv, nm, dp, ts, xs, h1, h2, h3, h4, h5, h6, h7, m1, m2, m3, ne, h8⟩ := B.ex
  have kt : ∀ q ys, H q = some (.tup ys) → H' q = some (.tup ys) := fun q ys e => k _ _ (fun z => by obtain ⟨l, e'⟩ := n q z; rw [e] at e'; cases e') e
  refine ⟨B.ok, B.dok, dx, mv, nm, dp, ts, xs, k _ _ (fun z => ?_) h1, k _ _ (d _ m1) h2, paired_keep h3 fun t g q => q.keep kt, ⟨k _ _ (d _ m2) h4.here, fun x hx => ⟨NkV.keeps kt _ _ (h4.keys x hx).1, (h4.keys x hx).2⟩⟩, h5, h6, k _ _ (d _ m3) h7, m1, m2, m3, ne, h8⟩
  obtain ⟨l, e'⟩ := n b z; rw [h1] at e'; cases e'
theorem v_setN' {P : Program} {w : World} {H : Hp} {Q : Hp → Prop} {p a : Addr} {k : NestedKey} {xs : List NX} {v : V} (N : NdAt P w H a xs) (kp : NkV H k (.ref p)) (d : k.depth ≤ 8) (l : xs.length < sizeLine) (q : Q (upd H a (NdO P w a (nput xs k p v)))) : bSet P w (.ref a) (.ref p) v H Q := v_setN N kp d l q
theorem BookAt.keepY {c : Cn} {H H' : Hp} {b : Addr} {M N : Addr → Prop} {gs : List Gm} {ds : List Int} (B : BookAt c H b M gs ds) (k : Keep N H H') (n : ∀ x, N x → (∀ l, H x ≠ some (.tup l)) ∧ ∀ C d l, H x ≠ some (.ins C d l)) (d : ∀ x, M x → ¬ N x) : BookAt c H' b M gs ds := by
  obtain ⟨dx, mv, nm, dp, ts, xs, h1, h2, h3, h4, h5, h6, h7, m1, m2, m3, ne, h8⟩ := B.ex
  have kt : ∀ q ys, H q = some (.tup ys) → H' q = some (.tup ys) := fun q ys e => k _ _ (fun z => (n q z).1 _ e) e
  exact ⟨B.ok, B.dok, dx, mv, nm, dp, ts, xs, k _ _ (fun z => (n b z).2 _ _ _ h1) h1, k _ _ (d _ m1) h2, paired_keep h3 fun t g q => q.keep kt, ⟨k _ _ (d _ m2) h4.here, fun x hx => ⟨NkV.keeps kt _ _ (h4.keys x hx).1, (h4.keys x hx).2⟩⟩, h5, h6, k _ _ (d _ m3) h7, m1, m2, m3, ne, h8⟩
abbrev KX := Key × V
theorem valV_mem {kvs : List KX} {k : Key} {v : V} (h : valV kvs k = some v) : ∃ x ∈ kvs, x.1 = k ∧ x.2 = v := by
  unfold valV at h
  obtain ⟨x, hx, rfl⟩ := Option.map_eq_some_iff.mp h
  exact ⟨x, List.mem_of_find?_eq_some hx, by simpa using List.find?_some hx, rfl⟩
theorem valV_none {kvs : List KX} {k : Key} (h : valV kvs k = none) : ∀ x ∈ kvs, x.1 ≠ k := fun x hx e => by
  unfold valV at h
  rw [Option.map_eq_none_iff] at h
  have := List.find?_eq_none.mp h x hx
  simp [e] at this
theorem putK_new {kvs : List KX} {k : Key} {v : V} (h : valV kvs k = none) : putK kvs k v = kvs ++ [(k, v)] := by
  unfold putK
  rw [if_neg]
  intro z
  obtain ⟨x, hx, e⟩ := List.any_eq_true.mp z
  exact valV_none h x hx (by simpa using e)
theorem putK_val {kvs : List KX} {k : Key} {v : V} : valV (putK kvs k v) k = some v := by
  unfold putK
  split
  · rename_i h
    induction kvs with
    | nil => simp at h
    | cons p q ih =>
      rw [List.map_cons]
      by_cases e : p.1 = k
      · rw [if_pos e]; exact valV_pos e
      · rw [if_neg e, valV_neg e]
        exact ih (by simpa [e] using h)
  · rename_i h
    unfold valV
    rw [List.find?_append]
    have : kvs.find? (fun kv => decide (kv.1 = k)) = none := List.find?_eq_none.mpr fun x hx z => h (List.any_eq_true.mpr ⟨x, hx, z⟩)
    rw [this]; simp
theorem putK_len {kvs : List KX} {k : Key} {v : V} : kvs.length ≤ (putK kvs k v).length := by
  unfold putK; split <;> simp
theorem addG_grow {gs : List Gm} {k : Gm} : ∃ f, addG gs k = gs ++ f ∧ f.length ≤ 1 ∧ (k ∈ gs → f = []) := by
  unfold addG; split
  · exact ⟨[], by simp, by simp, fun _ => rfl⟩
  · rename_i h
    exact ⟨[k], rfl, by simp, fun z => absurd z h⟩
theorem DOk.move {gs : List Gm} {ds : List Int} (o : GOk gs) (d : DOk gs ds) {g : Nat} {gm : Gm} {dg : Int} (hg : gs[g]? = some gm) (hd : ds[g]? = some dg) {m : Int} (hm : m ∈ gm.1 ++ gm.2) : ∃ dm, ds[m.toNat]? = some dm ∧ dm + 1 ≤ dg := by
  have low := o.low g gm hg m hm
  have lg := (List.getElem?_eq_some_iff.mp hg).1
  have dl := d.len
  obtain ⟨v, hv⟩ : ∃ v, ds[m.toNat]? = some v := ⟨_, List.getElem?_eq_getElem (by omega)⟩
  refine ⟨v, hv, (d.at_ g gm dg hg hd).2.1 v ?_⟩
  unfold dps
  exact List.mem_map.mpr ⟨m, hm, by rw [hv]; rfl⟩
theorem DOk.le {gs : List Gm} {ds : List Int} (o : GOk gs) (d : DOk gs ds) : ∀ (n g : Nat), g < n → ∀ dg, ds[g]? = some dg → dg ≤ g
  | 0, _, h, _, _ => by omega
  | n + 1, g, h, dg, hd => by
    have hl := (List.getElem?_eq_some_iff.mp hd).1
    obtain ⟨gm, hg⟩ : ∃ x, gs[g]? = some x := ⟨_, List.getElem?_eq_getElem (by have := d.len; omega)⟩
    obtain ⟨p1, p2, p3⟩ := d.at_ g gm dg hg hd
    by_cases z : gm.1 ++ gm.2 = []
    · have := p1 z; omega
    · obtain ⟨u, hu, eu⟩ := p3 z
      obtain ⟨m, hm, em⟩ := List.mem_map.mp hu
      have low := o.low g gm hg m hm
      obtain ⟨v, hv⟩ : ∃ v, ds[m.toNat]? = some v := ⟨_, List.getElem?_eq_getElem (by have := d.len; omega)⟩
      have := DOk.le o d n m.toNat (by omega) v hv
      rw [hv] at em
      have em' : v = u := em
      omega
theorem mvs_dep {gs : List Gm} {ds : List Int} (o : GOk gs) (d : DOk gs ds) {g : Nat} {s : Bool} {m : Int} (h : m ∈ mvs gs g s) {dg : Int} (hd : ds[g]? = some dg) : ∃ dm, ds[m.toNat]? = some dm ∧ dm + 1 ≤ dg := by
  obtain ⟨m0, m1, m2⟩ := mvs_low o h
  have e := List.getElem?_eq_getElem m2
  refine d.move o e hd ?_
  unfold mvs at h; rw [e] at h
  cases s
  · exact List.mem_append_right _ (by simpa using h)
  · exact List.mem_append_left _ (by simpa using h)

/-! who wins: the plain law -/
def wn (gs : List Gm) : Nat → Nat → Bool → Bool
  | 0, _, _ => false
  | n + 1, g, s => (mvs gs g s).any fun m => !wn gs n m.toNat (!s)
def wins (gs : List Gm) (g : Nat) (s : Bool) : Bool := wn gs (g + 1) g s
theorem wn_more {gs : List Gm} (o : GOk gs) : ∀ (n k g : Nat) (s : Bool), g < n → n ≤ k → wn gs k g s = wn gs n g s
  | 0, _, _, _, h, _ => by omega
  | n + 1, 0, _, _, _, h => by omega
  | n + 1, k + 1, g, s, h, hk => by
    have e : ∀ m ∈ mvs gs g s, (!wn gs k m.toNat (!s)) = (!wn gs n m.toNat (!s)) := fun m hm => by
      have := mvs_low o hm
      rw [wn_more o n k m.toNat (!s) (by omega) (by omega)]
    show (mvs gs g s).any _ = (mvs gs g s).any _
    exact any_eq e
theorem wins_eq {gs : List Gm} (o : GOk gs) (g : Nat) (s : Bool) : wins gs g s = (mvs gs g s).any fun m => !wins gs m.toNat (!s) := by
  have e : ∀ m ∈ mvs gs g s, (!wn gs g m.toNat (!s)) = (!wins gs m.toNat (!s)) := fun m hm => by
    have := mvs_low o hm
    unfold wins
    rw [wn_more o (m.toNat + 1) g m.toNat (!s) (by omega) (by omega)]
  show (mvs gs g s).any _ = (mvs gs g s).any _
  exact any_eq e
theorem wn_app {gs f : List Gm} (o : GOk gs) : ∀ (n g : Nat) (s : Bool), g < gs.length → wn (gs ++ f) n g s = wn gs n g s
  | 0, _, _, _ => rfl
  | n + 1, g, s, h => by
    show (mvs (gs ++ f) g s).any _ = (mvs gs g s).any _
    rw [mvs_more h]
    refine any_eq fun m hm => ?_
    have := mvs_low o hm
    rw [wn_app o n m.toNat (!s) (by omega)]
theorem wins_app {gs f : List Gm} (o : GOk gs) {g : Nat} {s : Bool} (h : g < gs.length) : wins (gs ++ f) g s = wins gs g s := wn_app o _ _ _ h
/-! what a Turns knows -/
def sd (s : Bool) : Str := if s then "left" else "right"
def kk (g : Nat) (s : Bool) : NestedKey := .tup [.num g, .text (sd s)]
theorem kk_inj {g g' : Nat} {s s' : Bool} (h : kk g s = kk g' s') : g = g' ∧ s = s' := by
  unfold kk sd at h
  injection h with h
  injection h with h1 h2
  injection h1 with h1
  injection h2 with h2 _
  injection h2 with h2
  refine ⟨by omega, ?_⟩
  cases s <;> cases s' <;> first | rfl | exact absurd h2 (by decide)
theorem kk_depth (g : Nat) (s : Bool) : (kk g s).depth ≤ 8 := by
  unfold kk
  simp only [NestedKey.depth, NestedKey.depthAll]; omega
theorem kk_nk {H : Hp} {t : Addr} {g : Nat} {s : Bool} (h : H t = some (.tup [.int g, .str (sd s)])) : NkV H (kk g s) (.ref t) := by
  unfold kk
  simp only [NkV]
  refine ⟨t, _, rfl, h, ?_⟩
  simp only [NkVs, NkV]
  exact ⟨_, _, rfl, rfl, _, _, rfl, rfl, rfl⟩
structure KOk (gs : List Gm) (xs : List NX) : Prop where
  nd : (xs.map (·.1)).Nodup
  at_ : ∀ x ∈ xs, ∃ g s, g < gs.length ∧ x.1 = kk g s ∧ x.2.2 = .bl (wins gs g s)
theorem KOk.nil {gs : List Gm} : KOk gs [] := ⟨List.nodup_nil, fun _ h => nomatch h⟩
theorem KOk.len {gs : List Gm} {xs : List NX} (k : KOk gs xs) : xs.length ≤ 2 * gs.length := by
  have := nodup_le (xs.map (·.1)) ((List.range gs.length).map (kk · true) ++ (List.range gs.length).map (kk · false)) k.nd fun x hx => by
    obtain ⟨y, hy, rfl⟩ := List.mem_map.mp hx
    obtain ⟨g, s, hg, e, _⟩ := k.at_ y hy
    rw [e]
    cases s
    · exact List.mem_append.mpr (.inr (List.mem_map.mpr ⟨g, List.mem_range.mpr hg, rfl⟩))
    · exact List.mem_append.mpr (.inl (List.mem_map.mpr ⟨g, List.mem_range.mpr hg, rfl⟩))
  simp only [List.length_map, List.length_append, List.length_range] at this
  omega
theorem KOk.val {gs : List Gm} {xs : List NX} (k : KOk gs xs) {g : Nat} {s : Bool} {v : V} (h : nval xs (kk g s) = some v) : v = .bl (wins gs g s) := by
  obtain ⟨x, hx, e, rfl⟩ := nval_mem h
  obtain ⟨g', s', _, e', hv⟩ := k.at_ x hx
  obtain ⟨rfl, rfl⟩ := kk_inj (e.symm.trans e')
  exact hv
theorem KOk.put {gs : List Gm} {xs : List NX} (k : KOk gs xs) {g : Nat} {s : Bool} {a : Addr} (hg : g < gs.length) : KOk gs (nput xs (kk g s) a (.bl (wins gs g s))) := by
  unfold nput
  split
  · refine ⟨?_, fun x hx => ?_⟩
    · rw [List.map_map]
      have : (xs.map ((fun x : NX => x.1) ∘ fun x => if x.1 = kk g s then (x.1, x.2.1, V.bl (wins gs g s)) else x)) = xs.map (·.1) := by
        refine List.map_congr_left fun x _ => ?_
        simp only [Function.comp]
        split <;> rfl
      rw [this]; exact k.nd
    · obtain ⟨y, hy, rfl⟩ := List.mem_map.mp hx
      split
      · rename_i e
        exact ⟨g, s, hg, e, rfl⟩
      · exact k.at_ y hy
  · rename_i h
    have h0 : nval xs (kk g s) = none := by
      cases e : nval xs (kk g s) with
      | none => rfl
      | some v => rw [e] at h; simp at h
    refine ⟨?_, fun x hx => ?_⟩
    · rw [List.map_append, List.nodup_append]
      refine ⟨k.nd, by simp, fun x hx y hy => ?_⟩
      obtain ⟨z, hz, rfl⟩ := List.mem_map.mp hx
      simp at hy
      subst hy
      exact nval_none h0 z hz
    · rcases List.mem_append.mp hx with hx | hx
      · exact k.at_ x hx
      · cases List.mem_singleton.mp hx
        exact ⟨g, s, hg, rfl, rfl⟩
def turnsFs (b kn : Addr) : List (Str × V) := [("book", .ref b), ("known", .ref kn)]
theorem turnsFs_book {b kn : Addr} : (turnsFs b kn).lookup ("book" : Str) = some (.ref b) := by rfl
theorem turnsFs_known {b kn : Addr} : (turnsFs b kn).lookup ("known" : Str) = some (.ref kn) := by rfl
theorem turnsFs_row {b kn : Addr} : (turnsFs b kn).lookup ("row" : Str) = none := by rfl
theorem turnsFs_wins {b kn : Addr} : (turnsFs b kn).lookup ("wins" : Str) = none := by rfl
local macro_rules | `(tactic| kaf_suf) => `(tactic| first
  | ((with_reducible refine' r_kfld ?a (Txt.cl_Turns (by assumption)) (Txt.na_Turns_book (by assumption)) turnsFs_book ?_); (case a => (kaf_pre; done)))
  | ((with_reducible refine' r_kfld ?a (Txt.cl_Turns (by assumption)) (Txt.na_Turns_known (by assumption)) turnsFs_known ?_); (case a => (kaf_pre; done)))
  | ((with_reducible refine' r_kmeth ?a ?b ?_); (case a => (kaf_pre; done)); (case b => (first | exact turnsFs_row | exact turnsFs_wins))))
structure TurnsAt (c : Cn) (H : Hp) (tu b kn : Addr) (M : Addr → Prop) (gs : List Gm) (xs : List NX) : Prop where
  here : ∃ dx, H tu = some (.ins c.cTurns dx (turnsFs b kn))
  N : NdAt c.P c.w H kn xs
  ok : KOk gs xs
  nm : ¬ M kn
theorem TurnsAt.keep {c : Cn} {H H' : Hp} {tu b kn : Addr} {M N : Addr → Prop} {gs : List Gm} {xs : List NX} (t : TurnsAt c H tu b kn M gs xs) (k : Keep N H H') (n : ∀ x, N x → ∃ l, H x = some (.lst l)) : TurnsAt c H' tu b kn M gs xs := by
  obtain ⟨⟨dx, h⟩, ⟨h2, h3⟩, h4, h5⟩ := t
  refine ⟨⟨dx, k _ _ (fun z => ?_) h⟩, ⟨k _ _ (fun z => ?_) h2, fun x hx => ⟨NkV.keeps (fun q ys e => k _ _ (fun z => by obtain ⟨l, e'⟩ := n q z; rw [e] at e'; cases e') e) _ _ (h3 x hx).1, (h3 x hx).2⟩⟩, h4, h5⟩
  · obtain ⟨l, e⟩ := n _ z; rw [h] at e; cases e
  · obtain ⟨l, e⟩ := n _ z; rw [h2] at e; unfold NdO at e; cases e
theorem TurnsAt.same {c : Cn} {H H' : Hp} {tu b kn : Addr} {M : Addr → Prop} {gs : List Gm} {xs : List NX} (t : TurnsAt c H tu b kn M gs xs) (k : Keep Nil H H') : TurnsAt c H' tu b kn M gs xs := t.keep k fun _ z => z.elim
theorem v_sides {K : PySem.W.Frag} {p : Addr} {mg : Str → Option Value} {H : Hp} {i : Nat} {σ : St} {s : Bool} (h : mg "SIDES" = some (.ref p) ∧ (∀ H, SqT K H p [.str "left", .str "right"]) ∧ ∃ o, K.lookup p = some o ∧ o.cls = .type "tuple" ∧ o.dict = none)
    {R : VK} (k : R (.int (if s then 0 else 1)) H) (e : σ[i]? = some (some (.str (sd s))) := by rfl) : kBM K "tuple" (rTupIndex K) (tCons (tVar i) tNil) σ (.ref p) H R := by
  refine ⟨.inr (.inl ⟨rfl, h.2.2⟩), _, e, ?_⟩
  cases s with
  | true => exact ⟨p, ["left", "right"], sd true, 0, rfl, rfl, h.2.1 H, rfl, fun m hm => by omega, k⟩
  | false => exact ⟨p, ["left", "right"], sd false, 1, rfl, rfl, h.2.1 H, rfl, fun m hm => by
      have : m = 0 := by omega
      subst this
      intro z
      exact absurd (Option.some.inj z) (by decide), k⟩
abbrev N_Turns_init : List Str := ["self", "book"]
theorem sc_Turns_init : FnScope N_Turns_init ["self", "book"] (defScope s_Turns_init) := ⟨rfl, rfl, rfl, by decide +kernel, rfl, by decide +kernel, by decide +kernel⟩
def t_Turns_init (c : Cn) : TS :=
  (tSeq (sFld c.K (tVar 0) (tVar 1) "book")
  (sFld c.K (tVar 0) (uDNew c.P c.w) "known"))
def sp_Turns_init (c : Cn) : Sp := fun vs H Q E => vs.length = 2 ∧ ∃ (x b dx : Addr) (M : Addr → Prop) (gs : List Gm) (ds : List Int), vs = [.ref x, .ref b] ∧ H x = some (.ins c.cTurns dx []) ∧ BookAt c H b M gs ds ∧
  ∀ (H' : Hp) (kn : Addr), H kn = none → Keep (fun a => a = x) H H' → TurnsAt c H' x b kn M gs [] → Q .non H'
theorem p_Turns_init {c : Cn} {mg : Str → Option Value} (T : Txt c mg) {vs : List V} {H : Hp} {Q : VK} {E : XK} (h : sp_Turns_init c vs H Q E) : t_Turns_init c { nx := fun _ H' => Q .non H', rt := Q } (start N_Turns_init vs) H := by
  obtain ⟨_, x, b, dx, M, gs, ds, rfl, hx, B, k⟩ := h
  unfold t_Turns_init
  repeat kaf_suf
  refine r_ksfld (by kaf_pre) (Txt.cl_Turns T) (Txt.na_Turns_book T) (by decide) ?_
  repeat kaf_suf
  refine .inl ⟨false, fun kn hkn => ?_⟩
  rw [if_neg Bool.false_ne_true]
  have hx1 : (upd (upd H x (.ins c.cTurns dx (putF (Str.ofString "book") (.ref b) []))) kn (NdO c.P c.w kn [])) x = some (.ins c.cTurns dx (putF (Str.ofString "book") (.ref b) [])) := get_new hkn upd_same
  have nkx : kn ≠ x := ne_new hkn upd_same
  have hkn0 : H kn = none := none_of_upd hkn
  repeat kaf_suf
  refine r_ksfld hx1 (Txt.cl_Turns T) (Txt.na_Turns_known T) (by show 1 < 1000; decide) ?_
  repeat kaf_suf
  refine k _ kn hkn0 (Keep.set (M := fun a => a = x) (Keep.new (Keep.set Keep.refl rfl) hkn) rfl) ⟨⟨dx, upd_same⟩, ⟨get_set nkx upd_same, fun _ h => nomatch h⟩, KOk.nil, B.new hkn0⟩
theorem mak_Turns {c : Cn} {mg : Str → Option Value} {base : Heap} (T : Txt c mg) : Mak c.P c.w c.K mg base CX0 1 "Turns" c.cTurns (sp_Turns_init c) := by
  obtain ⟨f, fd, F, g, b⟩ := T.F_Turns_init
  exact ⟨f, fd, ["self", "book"], g, F.ok (k := 0) (N := N_Turns_init) sc_Turns_init (fun vs H Q E h => h.1) (fun cdv A outer s H vs Q E hr h => ⟨t_Turns_init c, by
  exact (pss_cons (ps_fld (pv 0) (pv 1) rfl)
  (pss_one (ps_fld (pv 0) pe_dnew rfl))), p_Turns_init T h⟩), T.g_Turns, b⟩
abbrev N_Turns_row : List Str := ["self", "g", "side"]
theorem sc_Turns_row : FnScope N_Turns_row ["self", "g", "side"] (defScope s_Turns_row) := ⟨rfl, rfl, rfl, by decide +kernel, rfl, by decide +kernel, by decide +kernel⟩
def t_Turns_row (c : Cn) (E : XK) : TS :=
  (tSeq (tIfS (tTest (tOp (cEq c.K) (tVar 2) (tC (.str "left"))))
  (tRet (tMeth c.cBook "lefts" (sx_Book_lefts c) [] E (tFld c.K (tVar 0) "book") (tCons (tVar 1) tNil)))
  tNext)
  (tRet (tMeth c.cBook "rights" (sx_Book_rights c) [] E (tFld c.K (tVar 0) "book") (tCons (tVar 1) tNil))))
def sp_Turns_row (c : Cn) : Sp := fun vs H Q E => vs.length = 3 ∧ ∃ (tu b kn : Addr) (M : Addr → Prop) (gs : List Gm) (ds : List Int) (xs : List NX) (g : Nat) (s : Bool), vs = [.ref tu, .int g, .str (sd s)] ∧ TurnsAt c H tu b kn M gs xs ∧ BookAt c H b M gs ds ∧ g < gs.length ∧
  ∀ p, H p = none → Q (.ref p) (upd H p (.lst ((mvs gs g s).map V.int)))
theorem p_Turns_row {c : Cn} {mg : Str → Option Value} (T : Txt c mg) {vs : List V} {H : Hp} {Q : VK} {E : XK} (h : sp_Turns_row c vs H Q E) : t_Turns_row c E { nx := fun _ H' => Q .non H', rt := Q } (start N_Turns_row vs) H := by
  obtain ⟨_, tu, b, kn, M, gs, ds, xs, g, s, rfl, t, B, hg, k⟩ := h
  obtain ⟨dx, ht⟩ := t.here
  obtain ⟨bx, bm, bn, bd, hb⟩ := B.ins_
  have e := List.getElem?_eq_getElem hg
  unfold t_Turns_row
  cases s with
  | true =>
    repeat kaf_suf
    refine ⟨rfl, .inl ⟨rfl, b, M, gs, ds, g, _, rfl, B, e, fun p hp => ?_⟩⟩
    have := k p hp
    unfold mvs at this
    rw [e] at this
    exact this
  | false =>
    have hne : ¬ (sd false = "left") := by decide
    repeat kaf_suf
    refine ⟨rfl, .inl ⟨rfl, b, M, gs, ds, g, _, rfl, B, e, fun p hp => ?_⟩⟩
    have := k p hp
    unfold mvs at this
    rw [e] at this
    exact this
def sy_Turns_row (c : Cn) : Sp := fun vs H Q E => vs.length = 3 ∧ ∃ (tu b kn : Addr) (M : Addr → Prop) (gs : List Gm) (ds : List Int) (xs : List NX) (v : V) (s : Bool), vs = [.ref tu, v, .str (sd s)] ∧ TurnsAt c H tu b kn M gs xs ∧ BookAt c H b M gs ds ∧ BadV H gs.length v ∧ E (.ref c.cNoGame) none H
theorem q_Turns_row {c : Cn} {mg : Str → Option Value} (T : Txt c mg) {vs : List V} {H : Hp} {Q : VK} {E : XK} (h : sy_Turns_row c vs H Q E) : t_Turns_row c E { nx := fun _ H' => Q .non H', rt := Q } (start N_Turns_row vs) H := by
  obtain ⟨_, tu, b, kn, M, gs, ds, xs, v, s, rfl, t, B, bd, k⟩ := h
  obtain ⟨dx, ht⟩ := t.here
  obtain ⟨bx, bm, bn, bdx, hb⟩ := B.ins_
  unfold t_Turns_row
  cases s with
  | true =>
    repeat kaf_suf
    exact ⟨rfl, .inr ⟨rfl, b, M, gs, ds, v, rfl, B, bd, k⟩⟩
  | false =>
    have hne : ¬ (sd false = "left") := by decide
    repeat kaf_suf
    exact ⟨rfl, .inr ⟨rfl, b, M, gs, ds, v, rfl, B, bd, k⟩⟩
def sx_Turns_row (c : Cn) : Sp := fun vs H Q E => vs.length = 3 ∧ (sp_Turns_row c vs H Q E ∨ sy_Turns_row c vs H Q E)
theorem metx_Turns_row {c : Cn} {mg : Str → Option Value} {base : Heap} (T : Txt c mg) : Met c.P c.w c.K mg base (L2.CX c.P c.w) 3 c.cTurns "row" (sx_Turns_row c) := by
  obtain ⟨f, fd, F, g, b⟩ := T.F_Turns_row
  exact ⟨f, fd, ["self", "g", "side"], T.cl_Turns, g, F.okX (k := 2) (N := N_Turns_row) sc_Turns_row (fun vs H Q E h => h.1) (fun cdv A outer s H vs Q E hr h => ⟨t_Turns_row c E, by
  exact (pss_cons (ps_if (pt_cmpR (o_eq (hu64 hr)) (pv 2) pe_str (nomark _)) (pss_one (ps_ret (e_meth (metx_Book_lefts T) hr (by decide) (passes_call (takes_of rfl rfl rfl rfl) fun _ _ _ _ z => z) (pe_fld (pv 0) rfl) (pa_cons (pv 1) pa_nil)))) pss_nil)
  (pss_one (ps_ret (e_meth (metx_Book_rights T) hr (by decide) (passes_call (takes_of rfl rfl rfl rfl) fun _ _ _ _ z => z) (pe_fld (pv 0) rfl) (pa_cons (pv 1) pa_nil))))), h.2.elim (p_Turns_row T) (q_Turns_row T)⟩), b⟩
theorem met_Turns_row {c : Cn} {mg : Str → Option Value} {base : Heap} (T : Txt c mg) : Met c.P c.w c.K mg base (L2.CX c.P c.w) 3 c.cTurns "row" (sp_Turns_row c) := by
  obtain ⟨f, fd, ps, cl, m, F, b⟩ := (metx_Turns_row T).ex
  exact ⟨⟨f, fd, ps, cl, m, F.imp fun vs H Q E h => ⟨h.1, .inl h⟩, b⟩⟩
def sp_Turns_wins (n : Nat) (c : Cn) : Sp := fun vs H Q E => vs.length = 3 ∧ ∃ (tu b kn : Addr) (M : Addr → Prop) (gs : List Gm) (ds : List Int) (xs : List NX) (g : Nat) (s : Bool), vs = [.ref tu, .int g, .str (sd s)] ∧ TurnsAt c H tu b kn M gs xs ∧ BookAt c H b M gs ds ∧ g < gs.length ∧ (∃ dg, ds[g]? = some dg ∧ dg < n) ∧ gs.length ≤ 40000 ∧
  ∀ (H' : Hp) (xs' : List NX), Keep (fun a => a = kn) H H' → TurnsAt c H' tu b kn M gs xs' → BookAt c H' b M gs ds → Q (.bl (wins gs g s)) H'
theorem z_Turns_wins {c : Cn} {vs : List V} {H : Hp} {Q : VK} {E : XK} (h : sp_Turns_wins 0 c vs H Q E) : False := by
  obtain ⟨_, _, _, _, _, _, _, _, g, _, _, _, B, hg, ⟨dg, h, h'⟩, _⟩ := h
  have := DOk.pos B.ok B.dok (g + 1) g (by omega) dg h
  omega
abbrev N_Turns_wins : List Str := ["self", "g", "side", "other", "move"]
theorem sc_Turns_wins : FnScope N_Turns_wins ["self", "g", "side"] (defScope s_Turns_wins) := ⟨rfl, rfl, rfl, by decide +kernel, rfl, by decide +kernel, by decide +kernel⟩
def t_Turns_wins (n : Nat) (c : Cn) : TS :=
  (C8.tCut (tIfS (tTest (tOp (cNotIn c.P c.w c.K) (tTup (tCons (tVar 1) (tCons (tVar 2) tNil))) (tFld c.K (tVar 0) "known")))
  (tSeq (tAsg (tOp (bIx c.P c.w c.K) (tC (.ref c.k_SIDES)) (tOp bSub (tC (.int 1)) (tBM c.K "tuple" (rTupIndex c.K) (tC (.ref c.k_SIDES)) (tCons (tVar 2) tNil)))) (gName 3))
  (tAsg (tOp (cNe c.K) (tLc (iAny c.K (tMeth c.cTurns "row" (sp_Turns_row c) [] E0 (tVar 0) (tCons (tVar 1) (tCons (tVar 2) tNil)))) (gName 4) (tNot (tTru c.K (tMeth c.cTurns "wins" (sp_Turns_wins n c) [] E0 (tVar 0) (tCons (tVar 4) (tCons (tVar 3) tNil))))) (tVar 4) [4]) (tLst tNil)) (gSub (tFld c.K (tVar 0) "known") (tTup (tCons (tVar 1) (tCons (tVar 2) tNil))) (bSet c.P c.w))))
  tNext)
  (tRet (tOp (bIx c.P c.w c.K) (tFld c.K (tVar 0) "known") (tTup (tCons (tVar 1) (tCons (tVar 2) tNil))))))
theorem p_Turns_wins {n : Nat} {c : Cn} {mg : Str → Option Value} (T : Txt c mg) {vs : List V} {H : Hp} {Q : VK} {E : XK} (h : sp_Turns_wins (n + 1) c vs H Q E) : t_Turns_wins n c { nx := fun _ H' => Q .non H', rt := Q } (start N_Turns_wins vs) H := by
  obtain ⟨_, tu, b, kn, M, gs, ds, xs, g, s, rfl, t, B, hg, ⟨dg, hdg, hdn⟩, few, k⟩ := h
  obtain ⟨dx, ht⟩ := t.here
  unfold t_Turns_wins
  repeat kaf_suf
  refine ⟨fun σ' H' => ∃ (x3 : Option V) (xs' : List NX), σ' = [some (.ref tu), some (.int g), some (.str (sd s)), x3, none] ∧ Keep (fun a => a = kn) H H' ∧ TurnsAt c H' tu b kn M gs xs' ∧ BookAt c H' b M gs ds ∧ nval xs' (kk g s) = some (.bl (wins gs g s)), ?_, ?_⟩
  · repeat kaf_suf
    intro p hp
    repeat kaf_suf
    have tp := t.same (Keep.alloc (o := .tup [.int g, .str (sd s)]) hp)
    have Bp := B.same (Keep.alloc (o := .tup [.int g, .str (sd s)]) hp)
    refine v_ninN tp.N (kk_nk upd_same) (kk_depth _ _) ?_
    cases e : nval xs (kk g s) with
    | some v =>
      refine r_kB (r_ite_nt ?_)
      repeat kaf_suf
      refine ⟨_, xs, rfl, Keep.alloc hp, tp, Bp, ?_⟩
      rw [e, t.ok.val e]
    | none =>
      refine r_kB (r_ite_nf ?_)
      repeat kaf_suf
      refine v_sides T.t_SIDES ?_
      repeat kaf_suf
      refine .inr (.inl ⟨_, _, _, .str (sd (!s)), rfl, rfl, T.t_SIDES.2.1 _, by cases s <;> rfl, ?_⟩)
      obtain ⟨dxp, htp⟩ := tp.here
      repeat kaf_suf
      refine ⟨rfl, tu, b, kn, M, gs, ds, xs, g, s, rfl, tp, Bp, hg, fun r hr => ?_⟩
      have kr : Keep Nil H (upd (upd H p (.tup [.int g, .str (sd s)])) r (.lst ((mvs gs g s).map V.int))) := (Keep.alloc hp).new hr
      have er : (upd (upd H p (.tup [.int g, .str (sd s)])) r (.lst ((mvs gs g s).map V.int))) r = some (.lst ((mvs gs g s).map V.int)) := upd_same
      repeat kaf_suf
      have tr := t.same kr
      have Br := B.same kr
      obtain ⟨dxr, htr⟩ := tr.here
      have hknr := tr.N.here
      generalize upd (upd H p (.tup [.int g, .str (sd s)])) r (.lst ((mvs gs g s).map V.int)) = Hr at kr er tr Br htr hknr ⊢
      clear tp Bp htp hp hr
      intro D hD
      have Dkn : D ≠ kn := fun z => by rw [z, hknr] at hD; cases hD
      have ml : (mvs gs g s).length ≤ 40000 := by
        obtain ⟨x, e⟩ : ∃ x, gs[g]? = some x := ⟨_, List.getElem?_eq_getElem hg⟩
        have up := B.ok.up x (List.mem_of_getElem? e)
        have lw := B.ok.low g x e
        have l1 := up_len _ 0 g up.1 (fun y hy => lw y (List.mem_append_left _ hy)) (by omega)
        have l2 := up_len _ 0 g up.2 (fun y hy => lw y (List.mem_append_right _ hy)) (by omega)
        unfold mvs
        rw [e]
        cases s
        · simp; omega
        · simp; omega
      refine lc_list (xs := (mvs gs g s).map V.int) (fun j H' => ∃ xs', H' D = some (.lst ((((mvs gs g s).take j).filter fun m => !wins gs m.toNat (!s)).map V.int)) ∧ Keep (fun a => a = kn) Hr H' ∧ TurnsAt c H' tu b kn M gs xs' ∧ BookAt c H' b M gs ds) ⟨xs, upd_same, Keep.alloc hD, tr.same (Keep.alloc hD), Br.same (Keep.alloc hD)⟩ ?_ ?_ ?_
      · rintro j H' _ ⟨_, _, k1, _⟩; exact SqL.of (k1 _ _ (fun z => by rw [z, hknr] at er; unfold NdO at er; cases er) er)
      · rintro j x H1 hj ⟨xs1, eD, k1, t1, B1⟩
        rw [List.getElem?_map] at hj
        obtain ⟨m, hm, rfl⟩ := Option.map_eq_some_iff.mp hj
        obtain ⟨dm, hdm, ldm⟩ := mvs_dep B.ok B.dok (List.mem_of_getElem? hm) hdg
        obtain ⟨m0, m1, _⟩ := mvs_low B.ok (List.mem_of_getElem? hm)
        obtain ⟨mn, rfl⟩ := Int.eq_ofNat_of_zero_le m0
        have hjl := (List.getElem?_eq_some_iff.mp hm).1
        obtain ⟨dx1, ht1⟩ := t1.here
        repeat kaf_suf
        refine ⟨rfl, ?_⟩
        repeat kaf_suf
        refine ⟨rfl, tu, b, kn, M, gs, ds, xs1, mn, !s, rfl, t1, B1, by omega, ⟨dm, by rw [Int.toNat_natCast] at hdm; exact hdm, by omega⟩, few, fun H2 xs2 k2 t2 B2 => ?_⟩
        repeat kaf_suf
        have tk1 : (mvs gs g s).take (j + 1) = (mvs gs g s).take j ++ [(mn : Int)] := by rw [List.take_succ, hm]; rfl
        have eD2 := k2 _ _ Dkn eD
        cases hw : wins gs mn (!s) with
        | true =>
          refine r_ite_nt ?_
          refine ⟨xs2, ?_, k1.trans k2, t2, B2⟩
          rw [eD2, tk1, List.filter_append]
          simp [hw]
        | false =>
          refine r_ite_nf ?_
          repeat kaf_suf
          refine ⟨_, eD2, few1 ?_, xs2, ?_, (k1.trans k2).setN hD, t2.keep (N := fun a => a = D) (Keep.refl.set rfl) fun z e => ⟨_, e ▸ eD2⟩, B2.keep (N := fun a => a = D) (Keep.refl.set rfl) (fun z e => ⟨_, e ▸ eD2⟩) fun z hz e => Br.new hD (e ▸ hz)⟩
          · rw [List.length_map]
            have := List.length_filter_le (fun m : Int => !wins gs m.toNat (!s)) ((mvs gs g s).take j)
            rw [List.length_take] at this; omega
          · rw [upd_same, tk1, List.filter_append, List.map_append]
            simp [hw]
      · rintro H1 ⟨xs1, eD, k1, t1, B1⟩
        rw [List.length_map, List.take_length] at eD
        obtain ⟨dx1, ht1⟩ := t1.here
        repeat kaf_suf
        intro q hq
        repeat kaf_suf
        refine v_neD (dp_ints (get_new hq eD)) (.lst (SqL.of upd_same) .nil) (dInts_sh _) (dInts_sh []) ?_
        have ew : (!PyData.eqv (dInts ((mvs gs g s).filter fun m => !wins gs m.toNat (!s))) (.list [])) = wins gs g s := by
          rw [wins_eq B.ok, any_filter]
          exact congrArg (!·) (eqv_dInts _ [])
        rw [ew]
        have kq : Keep Nil H1 (upd H1 q (.lst [])) := Keep.alloc hq
        repeat kaf_suf
        intro p2 hp2
        repeat kaf_suf
        have kq2 := kq.new (o := .tup [.int g, .str (sd s)]) hp2
        have t2 := t1.same kq2
        have B2 := B1.same kq2
        have hl := t1.ok.len
        refine v_setN' t2.N (kk_nk upd_same) (kk_depth _ _) (few1 (by omega)) ?_
        repeat kaf_suf
        refine ⟨_, _, rfl, ((kr.weak.trans k1).trans kq2.weak).set rfl, ⟨?_, ⟨upd_same, nput_keys ?_ ?_ (kk_depth _ _)⟩, t2.ok.put hg, t2.nm⟩, B2.keepX (N := fun a => a = kn) (Keep.refl.set rfl) (fun z e => by subst e; exact ⟨_, t2.N.here⟩) (fun z hz e => t2.nm (e ▸ hz)), nval_nput⟩
        · obtain ⟨dx2, ht2⟩ := t2.here
          exact ⟨dx2, get_set (nd_neI t2.N ht2) ht2⟩
        · exact fun x hx => ⟨NkV.keeps (fun b ys h => get_set (nd_neT t2.N h) h) _ _ (t2.N.keys x hx).1, (t2.N.keys x hx).2⟩
        · exact NkV.keeps (fun b ys h => get_set (nd_neT t2.N h) h) _ _ (kk_nk upd_same)
  · rintro σ' H' ⟨x3, xs', rfl, k', t', B', e⟩
    obtain ⟨dx', ht'⟩ := t'.here
    repeat kaf_suf
    intro p hp
    repeat kaf_suf
    have tp := t'.same (Keep.alloc (o := .tup [.int g, .str (sd s)]) hp)
    have Bp := B'.same (Keep.alloc (o := .tup [.int g, .str (sd s)]) hp)
    refine v_ixN tp.N (kk_nk upd_same) (kk_depth _ _) e ?_
    exact k _ xs' (k'.new hp) tp Bp
theorem met_Turns_wins {c : Cn} {mg : Str → Option Value} {base : Heap} (T : Txt c mg) : ∀ n : Nat, Met c.P c.w c.K mg base CX0 (4 + n) c.cTurns "wins" (sp_Turns_wins n c)
  | 0 => by
    obtain ⟨f, fd, F, g, b⟩ := T.F_Turns_wins
    exact ⟨f, fd, ["self", "g", "side"], T.cl_Turns, g, F.ok (k := 3) (N := N_Turns_wins) sc_Turns_wins (fun vs H Q E h => (z_Turns_wins h).elim) (fun cdv A outer s H vs Q E hr h => (z_Turns_wins h).elim), b⟩
  | n + 1 => by
    obtain ⟨f, fd, F, g, b⟩ := T.F_Turns_wins
    exact ⟨f, fd, ["self", "g", "side"], T.cl_Turns, g, F.ok (k := 4 + n) (N := N_Turns_wins) sc_Turns_wins (fun vs H Q E h => h.1) (fun cdv A outer s H vs Q E hr h => ⟨t_Turns_wins n c, by
  exact (C8.pss_cut (ps_if (pt_cmpR (o_notin (hu65 hr)) (pe_tup (pa_cons (pv 1) (pa_cons (pv 2) pa_nil))) (pe_fld (pv 0) rfl) (by rfl)) (pss_cons (ps_set (i := 3) sc_Turns_wins.nd rfl (Or.inr rfl) (pe_ix (x_ix (hu64 hr)) (pe_glob rfl (T.t_SIDES).1 rfl) (pe_op o_sub pe_int (pe_bm PySem.F.plainAttrs_tuple PySem.F.slot_tuple_index PySem.F.type_tuple_index mt_tup_index (pe_glob rfl (T.t_SIDES).1 rfl) (pa_cons (pv 2) pa_nil))) (fun _ _ => rfl)))
  (pss_one (ps_asg (pe_cmpR (o_ne (hu64 hr)) (pe_lc (own := [("move", 4)]) rfl sc_Turns_wins.nd (pi_any (e_meth (met_Turns_row T) hr (by omega) passL (pv 0) (pa_cons (pv 1) (pa_cons (pv 2) pa_nil)))) (blkOk_by (own := [("move", 4)]) (N := N_Turns_wins) (sc := defScope s_Turns_wins) (by decide +kernel)) (fun _ _ _ _ _ => (pg_name (i := 4) sc_Turns_wins.nd rfl (Or.inl rfl))) (fun _ _ _ _ _ => (pts_one (pt_not (p_tru (e_meth (met_Turns_wins T n) hr (by omega) pass0 (pv 0) (pa_cons (pv 4) (pa_cons (pv 3) pa_nil))))))) (fun _ _ _ _ _ => (pv 4))) (pe_lst pa_nil) (nomark _)) (pg_sub (pe_fld (pv 0) rfl) (pe_tup (pa_cons (pv 1) (pa_cons (pv 2) pa_nil))) (s_set (hu64 hr)))))) pss_nil)
  (pss_one (ps_ret (pe_ix (x_ix (hu64 hr)) (pe_fld (pv 0) rfl) (pe_tup (pa_cons (pv 1) (pa_cons (pv 2) pa_nil))) (fun _ _ => rfl))))), p_Turns_wins T h⟩), b⟩

/-! who wins -/
def wd (l r : Bool) : Str := if l then (if r then "first" else "left") else (if r then "right" else "second")
abbrev N_who_wins : List Str := ["book", "g", "turns", "left", "right"]
theorem sc_who_wins : FnScope N_who_wins ["book", "g"] (defScope s_who_wins) := ⟨rfl, rfl, rfl, by decide +kernel, rfl, by decide +kernel, by decide +kernel⟩
def t_who_wins (c : Cn) (E : XK) : TS :=
  (tSeq (tDrop (tMeth c.cBook "depth" (sx_Book_depth c) [] E (tVar 0) (tCons (tVar 1) tNil)))
  (tSeq (tAsg (tMake c.cTurns (sp_Turns_init c) [] E0 (tCons (tVar 0) tNil)) (gName 2))
  (tSeq (tAsg (tMeth c.cTurns "wins" (sp_Turns_wins 70 c) [] E0 (tVar 2) (tCons (tVar 1) (tCons (tC (.str "left")) tNil))) (gName 3))
  (tSeq (tAsg (tMeth c.cTurns "wins" (sp_Turns_wins 70 c) [] E0 (tVar 2) (tCons (tVar 1) (tCons (tC (.str "right")) tNil))) (gName 4))
  (tSeq (tIfS (tAnd (tTru c.K (tVar 3)) (tTru c.K (tVar 4)))
  (tRet (tC (.str "first")))
  tNext)
  (tSeq (tIfS (tTru c.K (tVar 3))
  (tRet (tC (.str "left")))
  tNext)
  (tSeq (tIfS (tTru c.K (tVar 4))
  (tRet (tC (.str "right")))
  tNext)
  (tRet (tC (.str "second"))))))))))
def sp_who_wins (c : Cn) : Sp := fun vs H Q E => vs.length = 2 ∧ ∃ (b : Addr) (M : Addr → Prop) (gs : List Gm) (ds : List Int) (g : Nat), vs = [.ref b, .int g] ∧ BookAt c H b M gs ds ∧ g < gs.length ∧ (∃ dg, ds[g]? = some dg ∧ dg < 70) ∧ gs.length ≤ 40000 ∧
  ∀ (H' : Hp), Keep Nil H H' → Q (.str (wd (wins gs g true) (wins gs g false))) H'
theorem p_who_wins {c : Cn} {mg : Str → Option Value} (T : Txt c mg) {vs : List V} {H : Hp} {Q : VK} {E : XK} (h : sp_who_wins c vs H Q E) : t_who_wins c E { nx := fun _ H' => Q .non H', rt := Q } (start N_who_wins vs) H := by
  obtain ⟨_, b, M, gs, ds, g, rfl, B, hg, ⟨e, he, hen⟩, few, k⟩ := h
  obtain ⟨bx, bm, bn, bd, hb⟩ := B.ins_
  unfold t_who_wins
  repeat kaf_suf
  refine ⟨rfl, .inl ⟨rfl, b, M, gs, ds, g, e, rfl, B, he, ?_⟩⟩
  repeat kaf_suf
  intro tu dx htu hdx ndx
  repeat kaf_suf
  have kI : Keep Nil H (upd (upd H dx (.own tu)) tu (.ins c.cTurns dx [])) := (Keep.alloc hdx).setN htu
  refine ⟨rfl, tu, b, dx, M, gs, ds, rfl, upd_same, B.same kI, fun H1 kn hkn k1 t1 => ⟨rfl, ?_⟩⟩
  have hkn0 : H kn = none := keep_none kI hkn
  have k01 : Keep Nil H H1 := fun a o n h => k1 a o (fun z => by rw [z, htu] at h; cases h) (kI a o n h)
  have B1 := B.same k01
  obtain ⟨dx1, ht1⟩ := t1.here
  clear k1 kI
  repeat kaf_suf
  refine ⟨rfl, tu, b, kn, M, gs, ds, [], g, true, rfl, t1, B1, hg, ⟨e, he, hen⟩, few, fun H2 xs2 k2 t2 B2 => ?_⟩
  have k02 : Keep Nil H H2 := fun a o n h => k2 a o (fun z => by rw [z, hkn0] at h; cases h) (k01 a o n h)
  obtain ⟨dx2, ht2⟩ := t2.here
  clear k2
  repeat kaf_suf
  refine ⟨rfl, tu, b, kn, M, gs, ds, xs2, g, false, rfl, t2, B2, hg, ⟨e, he, hen⟩, few, fun H3 xs3 k3 t3 B3 => ?_⟩
  have k03 : Keep Nil H H3 := fun a o n h => k3 a o (fun z => by rw [z, hkn0] at h; cases h) (k02 a o n h)
  have kf := k H3 k03
  clear k3 k
  generalize wins gs g true = l at kf ⊢
  generalize wins gs g false = r at kf ⊢
  cases l <;> cases r <;> repeat kaf_suf
  all_goals exact kf
def sy_who_wins (c : Cn) : Sp := fun vs H Q E => vs.length = 2 ∧ ∃ (b : Addr) (M : Addr → Prop) (gs : List Gm) (ds : List Int) (v : V), vs = [.ref b, v] ∧ BookAt c H b M gs ds ∧ BadV H gs.length v ∧ E (.ref c.cNoGame) none H
theorem q_who_wins {c : Cn} {mg : Str → Option Value} (T : Txt c mg) {vs : List V} {H : Hp} {Q : VK} {E : XK} (h : sy_who_wins c vs H Q E) : t_who_wins c E { nx := fun _ H' => Q .non H', rt := Q } (start N_who_wins vs) H := by
  obtain ⟨_, b, M, gs, ds, v, rfl, B, bd, k⟩ := h
  obtain ⟨bx, bm, bn, bdx, hb⟩ := B.ins_
  unfold t_who_wins
  repeat kaf_suf
  exact ⟨rfl, .inr ⟨rfl, b, M, gs, ds, v, rfl, B, bd, k⟩⟩
def sx_who_wins (c : Cn) : Sp := fun vs H Q E => vs.length = 2 ∧ (sp_who_wins c vs H Q E ∨ sy_who_wins c vs H Q E)
theorem calx_who_wins {c : Cn} {mg : Str → Option Value} {base : Heap} (T : Txt c mg) : Cal c.P c.w c.K mg base (L2.CX c.P c.w) 75 "who_wins" (sx_who_wins c) := by
  obtain ⟨f, fd, F, g, b⟩ := T.F_who_wins
  exact ⟨f, fd, ["book", "g"], F.okX (k := 74) (N := N_who_wins) sc_who_wins (fun vs H Q E h => h.1) (fun cdv A outer s H vs Q E hr h => ⟨t_who_wins c E, by
  exact (pss_cons (ps_expr (e_meth (metx_Book_depth T) hr (by decide) (passes_call (takes_of rfl rfl rfl rfl) fun _ _ _ _ z => z) (pv 0) (pa_cons (pv 1) pa_nil)))
  (pss_cons (ps_set (i := 2) sc_who_wins.nd rfl (Or.inl rfl) (e_make (mak_Turns T) hr (by decide) pass0 rfl (pa_cons (pv 0) pa_nil)))
  (pss_cons (ps_set (i := 3) sc_who_wins.nd rfl (Or.inl rfl) (e_meth (met_Turns_wins T 70) hr (by decide) pass0 (pv 2) (pa_cons (pv 1) (pa_cons pe_str pa_nil))))
  (pss_cons (ps_set (i := 4) sc_who_wins.nd rfl (Or.inl rfl) (e_meth (met_Turns_wins T 70) hr (by decide) pass0 (pv 2) (pa_cons (pv 1) (pa_cons pe_str pa_nil))))
  (pss_cons (ps_if (PW.pt (pw_and (p_tru (pv 3)) (pw_and1 (p_tru (pv 4))))) (pss_one (ps_ret pe_str)) pss_nil)
  (pss_cons (ps_if (p_tru (pv 3)) (pss_one (ps_ret pe_str)) pss_nil)
  (pss_cons (ps_if (p_tru (pv 4)) (pss_one (ps_ret pe_str)) pss_nil)
  (pss_one (ps_ret pe_str))))))))), h.2.elim (p_who_wins T) (q_who_wins T)⟩), g, F.kp, b⟩
theorem cal_who_wins {c : Cn} {mg : Str → Option Value} {base : Heap} (T : Txt c mg) : Cal c.P c.w c.K mg base (L2.CX c.P c.w) 75 "who_wins" (sp_who_wins c) := by
  obtain ⟨f, fd, ps, F, g, kp, b⟩ := (calx_who_wins T).ex
  exact ⟨⟨f, fd, ps, F.imp fun vs H Q E h => ⟨h.1, .inl h⟩, g, kp, b⟩⟩

/-! winning moves -/
def wmv (gs : List Gm) (g : Nat) (s : Bool) : List Int := (mvs gs g s).filter fun m => !wins gs m.toNat (!s)
theorem mvs_len {gs : List Gm} (o : GOk gs) {g : Nat} {s : Bool} (n : gs.length ≤ 40000) : (mvs gs g s).length ≤ 40000 := by
  unfold mvs
  cases e : gs[g]? with
  | none => simp
  | some x =>
    have hg := (List.getElem?_eq_some_iff.mp e).1
    have up := o.up x (List.mem_of_getElem? e)
    have lw := o.low g x e
    have l1 := up_len _ 0 g up.1 (fun y hy => lw y (List.mem_append_left _ hy)) (by omega)
    have l2 := up_len _ 0 g up.2 (fun y hy => lw y (List.mem_append_right _ hy)) (by omega)
    cases s
    · simp; omega
    · simp; omega
abbrev N_winning_moves : List Str := ["book", "g", "side", "turns", "other", "move"]
theorem sc_winning_moves : FnScope N_winning_moves ["book", "g", "side"] (defScope s_winning_moves) := ⟨rfl, rfl, rfl, by decide +kernel, rfl, by decide +kernel, by decide +kernel⟩
def t_winning_moves (c : Cn) (E : XK) : TS :=
  (tSeq (tAsg (tMake c.cTurns (sp_Turns_init c) [] E0 (tCons (tVar 0) tNil)) (gName 3))
  (tSeq (tAsg (tOp (bIx c.P c.w c.K) (tC (.ref c.k_SIDES)) (tOp bSub (tC (.int 1)) (tBM c.K "tuple" (rTupIndex c.K) (tC (.ref c.k_SIDES)) (tCons (tVar 2) tNil)))) (gName 4))
  (tRet (tLc (iAny c.K (tMeth c.cTurns "row" (sx_Turns_row c) [] E (tVar 3) (tCons (tVar 1) (tCons (tVar 2) tNil)))) (gName 5) (tNot (tTru c.K (tMeth c.cTurns "wins" (sp_Turns_wins 70 c) [] E0 (tVar 3) (tCons (tVar 5) (tCons (tVar 4) tNil))))) (tVar 5) [5]))))
def sp_winning_moves (c : Cn) : Sp := fun vs H Q E => vs.length = 3 ∧ ∃ (b : Addr) (M : Addr → Prop) (gs : List Gm) (ds : List Int) (g : Nat) (s : Bool), vs = [.ref b, .int g, .str (sd s)] ∧ BookAt c H b M gs ds ∧ g < gs.length ∧ (∃ dg, ds[g]? = some dg ∧ dg < 70) ∧ gs.length ≤ 40000 ∧
  ∀ (H' : Hp) (l : Addr), Keep Nil H H' → H l = none → H' l = some (.lst ((wmv gs g s).map V.int)) → Q (.ref l) H'
theorem p_winning_moves {c : Cn} {mg : Str → Option Value} (T : Txt c mg) {vs : List V} {H : Hp} {Q : VK} {E : XK} (h : sp_winning_moves c vs H Q E) : t_winning_moves c E { nx := fun _ H' => Q .non H', rt := Q } (start N_winning_moves vs) H := by
  obtain ⟨_, b, M, gs, ds, g, s, rfl, B, hg, ⟨dg, hdg, hdn⟩, few, k⟩ := h
  obtain ⟨bx, bm, bn, bd, hb⟩ := B.ins_
  unfold t_winning_moves
  repeat kaf_suf
  intro tu dx htu hdx ndx
  repeat kaf_suf
  have kI : Keep Nil H (upd (upd H dx (.own tu)) tu (.ins c.cTurns dx [])) := (Keep.alloc hdx).setN htu
  refine ⟨rfl, tu, b, dx, M, gs, ds, rfl, upd_same, B.same kI, fun H1 kn hkn k1 t1 => ⟨rfl, ?_⟩⟩
  have hkn0 : H kn = none := keep_none kI hkn
  have k01 : Keep Nil H H1 := fun a o n h => k1 a o (fun z => by rw [z, htu] at h; cases h) (kI a o n h)
  have B1 := B.same k01
  obtain ⟨dx1, ht1⟩ := t1.here
  clear k1 kI
  repeat kaf_suf
  refine v_sides T.t_SIDES ?_
  repeat kaf_suf
  refine .inr (.inl ⟨_, _, _, .str (sd (!s)), rfl, rfl, T.t_SIDES.2.1 _, by cases s <;> rfl, ?_⟩)
  repeat kaf_suf
  refine ⟨rfl, .inl ⟨rfl, tu, b, kn, M, gs, ds, [], g, s, rfl, t1, B1, hg, fun r hr => ?_⟩⟩
  have kr : Keep Nil H1 (upd H1 r (.lst ((mvs gs g s).map V.int))) := Keep.alloc hr
  have er : (upd H1 r (.lst ((mvs gs g s).map V.int))) r = some (.lst ((mvs gs g s).map V.int)) := upd_same
  have tr := t1.same kr
  have Br := B1.same kr
  have k0r := k01.trans kr
  have hknr := tr.N.here
  generalize upd H1 r (.lst ((mvs gs g s).map V.int)) = Hr at kr er tr Br hknr k0r ⊢
  clear hr kr t1 ht1 B1 k01
  repeat kaf_suf
  intro D hD
  have Dkn : D ≠ kn := fun z => by rw [z, hknr] at hD; cases hD
  have hD0 : H D = none := keep_none k0r hD
  have ml := mvs_len (g := g) (s := s) B.ok (by omega)
  refine lc_list (xs := (mvs gs g s).map V.int) (fun j H' => ∃ xs', H' D = some (.lst ((((mvs gs g s).take j).filter fun m => !wins gs m.toNat (!s)).map V.int)) ∧ Keep Nil H H' ∧ Keep (fun a => a = kn) Hr H' ∧ TurnsAt c H' tu b kn M gs xs' ∧ BookAt c H' b M gs ds) ⟨[], upd_same, k0r.new hD, Keep.alloc hD, tr.same (Keep.alloc hD), Br.same (Keep.alloc hD)⟩ ?_ ?_ ?_
  · rintro j H' _ ⟨_, _, _, k1, _⟩; exact SqL.of (k1 _ _ (fun z => by rw [z, hknr] at er; unfold NdO at er; cases er) er)
  · rintro j x H1 hj ⟨xs1, eD, k01, k1, t1, B1⟩
    rw [List.getElem?_map] at hj
    obtain ⟨m, hm, rfl⟩ := Option.map_eq_some_iff.mp hj
    obtain ⟨dm, hdm, ldm⟩ := mvs_dep B.ok B.dok (List.mem_of_getElem? hm) hdg
    obtain ⟨m0, m1, _⟩ := mvs_low B.ok (List.mem_of_getElem? hm)
    obtain ⟨mn, rfl⟩ := Int.eq_ofNat_of_zero_le m0
    have hjl := (List.getElem?_eq_some_iff.mp hm).1
    obtain ⟨dx1, ht1⟩ := t1.here
    repeat kaf_suf
    refine ⟨rfl, ?_⟩
    repeat kaf_suf
    refine ⟨rfl, tu, b, kn, M, gs, ds, xs1, mn, !s, rfl, t1, B1, by omega, ⟨dm, by rw [Int.toNat_natCast] at hdm; exact hdm, by omega⟩, few, fun H2 xs2 k2 t2 B2 => ?_⟩
    have k02 : Keep Nil H H2 := fun a o n h => k2 a o (fun z => by rw [z, hkn0] at h; cases h) (k01 a o n h)
    repeat kaf_suf
    have tk1 : (mvs gs g s).take (j + 1) = (mvs gs g s).take j ++ [(mn : Int)] := by rw [List.take_succ, hm]; rfl
    have eD2 := k2 _ _ Dkn eD
    cases hw : wins gs mn (!s) with
    | true =>
      refine r_ite_nt ?_
      refine ⟨xs2, ?_, k02, k1.trans k2, t2, B2⟩
      rw [eD2, tk1, List.filter_append]
      simp [hw]
    | false =>
      refine r_ite_nf ?_
      repeat kaf_suf
      refine ⟨_, eD2, few1 ?_, xs2, ?_, k02.setN hD0, (k1.trans k2).setN hD, t2.keep (N := fun a => a = D) (Keep.refl.set rfl) fun z e => ⟨_, e ▸ eD2⟩, B2.keep (N := fun a => a = D) (Keep.refl.set rfl) (fun z e => ⟨_, e ▸ eD2⟩) fun z hz e => Br.new hD (e ▸ hz)⟩
      · rw [List.length_map]
        have := List.length_filter_le (fun m : Int => !wins gs m.toNat (!s)) ((mvs gs g s).take j)
        rw [List.length_take] at this; omega
      · rw [upd_same, tk1, List.filter_append, List.map_append]
        simp [hw]
  · rintro H1 ⟨xs1, eD, k01, k1, t1, B1⟩
    rw [List.length_map, List.take_length] at eD
    exact k H1 D k01 hD0 eD
def sy_winning_moves (c : Cn) : Sp := fun vs H Q E => vs.length = 3 ∧ ∃ (b : Addr) (M : Addr → Prop) (gs : List Gm) (ds : List Int) (v : V) (s : Bool), vs = [.ref b, v, .str (sd s)] ∧ BookAt c H b M gs ds ∧ BadV H gs.length v ∧ ∀ H', Keep Nil H H' → E (.ref c.cNoGame) none H'
theorem q_winning_moves {c : Cn} {mg : Str → Option Value} (T : Txt c mg) {vs : List V} {H : Hp} {Q : VK} {E : XK} (h : sy_winning_moves c vs H Q E) : t_winning_moves c E { nx := fun _ H' => Q .non H', rt := Q } (start N_winning_moves vs) H := by
  obtain ⟨_, b, M, gs, ds, v, s, rfl, B, bd, k⟩ := h
  obtain ⟨bx, bm, bn, bdx, hb⟩ := B.ins_
  unfold t_winning_moves
  repeat kaf_suf
  intro tu dx htu hdx ndx
  repeat kaf_suf
  have kI : Keep Nil H (upd (upd H dx (.own tu)) tu (.ins c.cTurns dx [])) := (Keep.alloc hdx).setN htu
  refine ⟨rfl, tu, b, dx, M, gs, ds, rfl, upd_same, B.same kI, fun H1 kn hkn k1 t1 => ⟨rfl, ?_⟩⟩
  have k01 : Keep Nil H H1 := fun a o n h => k1 a o (fun z => by rw [z, htu] at h; cases h) (kI a o n h)
  have B1 := B.same k01
  obtain ⟨dx1, ht1⟩ := t1.here
  clear k1 kI
  repeat kaf_suf
  refine v_sides T.t_SIDES ?_
  repeat kaf_suf
  refine .inr (.inl ⟨_, _, _, .str (sd (!s)), rfl, rfl, T.t_SIDES.2.1 _, by cases s <;> rfl, ?_⟩)
  repeat kaf_suf
  exact ⟨rfl, .inr ⟨rfl, tu, b, kn, M, gs, ds, [], v, s, rfl, t1, B1, bd.keep k01, k H1 k01⟩⟩
def sx_winning_moves (c : Cn) : Sp := fun vs H Q E => vs.length = 3 ∧ (sp_winning_moves c vs H Q E ∨ sy_winning_moves c vs H Q E)
theorem calx_winning_moves {c : Cn} {mg : Str → Option Value} {base : Heap} (T : Txt c mg) : Cal c.P c.w c.K mg base (L2.CX c.P c.w) 75 "winning_moves" (sx_winning_moves c) := by
  obtain ⟨f, fd, F, g, b⟩ := T.F_winning_moves
  exact ⟨f, fd, ["book", "g", "side"], F.okX (k := 74) (N := N_winning_moves) sc_winning_moves (fun vs H Q E h => h.1) (fun cdv A outer s H vs Q E hr h => ⟨t_winning_moves c E, by
  exact (pss_cons (ps_set (i := 3) sc_winning_moves.nd rfl (Or.inr rfl) (e_make (mak_Turns T) hr (by decide) pass0 rfl (pa_cons (pv 0) pa_nil)))
  (pss_cons (ps_set (i := 4) sc_winning_moves.nd rfl (Or.inr rfl) (pe_ix (x_ix (hu64 hr)) (pe_glob rfl (T.t_SIDES).1 rfl) (pe_op o_sub pe_int (pe_bm PySem.F.plainAttrs_tuple PySem.F.slot_tuple_index PySem.F.type_tuple_index mt_tup_index (pe_glob rfl (T.t_SIDES).1 rfl) (pa_cons (pv 2) pa_nil))) (fun _ _ => rfl)))
  (pss_one (ps_ret (pe_lc (own := [("move", 5)]) rfl sc_winning_moves.nd (pi_any (e_meth (metx_Turns_row T) hr (by decide) (passes_call (takes_of rfl rfl rfl rfl) fun _ _ _ _ z => z) (pv 3) (pa_cons (pv 1) (pa_cons (pv 2) pa_nil)))) (blkOk_by (own := [("move", 5)]) (N := N_winning_moves) (sc := defScope s_winning_moves) (by decide +kernel)) (fun _ _ _ _ _ => (pg_name (i := 5) sc_winning_moves.nd rfl (Or.inl rfl))) (fun _ _ _ _ _ => (pts_one (pt_not (p_tru (e_meth (met_Turns_wins T 70) hr (by decide) pass0 (pv 3) (pa_cons (pv 5) (pa_cons (pv 4) pa_nil))))))) (fun _ _ _ _ _ => (pv 5))))))), h.2.elim (p_winning_moves T) (q_winning_moves T)⟩), g, F.kp, b⟩
theorem cal_winning_moves {c : Cn} {mg : Str → Option Value} {base : Heap} (T : Txt c mg) : Cal c.P c.w c.K mg base (L2.CX c.P c.w) 75 "winning_moves" (sp_winning_moves c) := by
  obtain ⟨f, fd, ps, F, g, kp, b⟩ := (calx_winning_moves T).ex
  exact ⟨⟨f, fd, ps, F.imp fun vs H Q E h => ⟨h.1, .inl h⟩, g, kp, b⟩⟩

/-! games turned: the plain law -/
def mapO {α : Type} (f : α → Option Int) : List α → Option (List Int)
  | [] => some []
  | x :: r => (f x).bind fun a => (mapO f r).map (a :: ·)
theorem mapO_cons {α : Type} {f : α → Option Int} {x : α} {r : List α} {l : List Int} : mapO f (x :: r) = some l ↔ ∃ a b, f x = some a ∧ mapO f r = some b ∧ l = a :: b := by
  show (f x).bind _ = _ ↔ _
  cases h : f x with
  | none => simp
  | some a => cases h' : mapO f r with
    | none => simp
    | some b => simp [eq_comm]
theorem mapO_mem {α : Type} {f : α → Option Int} : ∀ {l : List α} {a : List Int}, mapO f l = some a → ∀ z, z ∈ a ↔ ∃ x ∈ l, f x = some z
  | [], a, h, z => by cases h; simp
  | x :: r, l, h, z => by
    obtain ⟨a, b, h1, h2, rfl⟩ := mapO_cons.mp h
    rw [List.mem_cons, mapO_mem h2]
    constructor
    · rintro (rfl | ⟨y, hy, e⟩)
      · exact ⟨x, List.mem_cons_self, h1⟩
      · exact ⟨y, List.mem_cons_of_mem _ hy, e⟩
    · rintro ⟨y, hy, e⟩
      rcases List.mem_cons.mp hy with rfl | hy
      · rw [h1] at e; exact .inl (Option.some.inj e).symm
      · exact .inr ⟨y, hy, e⟩
theorem mapO_all {α : Type} {f : α → Option Int} : ∀ {l : List α} {a : List Int}, mapO f l = some a → ∀ x ∈ l, ∃ z, f x = some z
  | [], _, _, x, hx => nomatch hx
  | y :: r, l, h, x, hx => by
    obtain ⟨a, b, h1, h2, rfl⟩ := mapO_cons.mp h
    rcases List.mem_cons.mp hx with rfl | hx
    · exact ⟨a, h1⟩
    · exact mapO_all h2 x hx
theorem mapO_len {α : Type} {f : α → Option Int} : ∀ {l : List α} {a : List Int}, mapO f l = some a → a.length = l.length
  | [], a, h => by cases h; rfl
  | y :: r, l, h => by
    obtain ⟨a, b, h1, h2, rfl⟩ := mapO_cons.mp h
    simp [mapO_len h2]
theorem mapO_congr {α : Type} {f g : α → Option Int} : ∀ {l : List α}, (∀ x ∈ l, f x = g x) → mapO f l = mapO g l
  | [], _ => rfl
  | y :: r, h => by
    show (f y).bind _ = (g y).bind _
    rw [h y List.mem_cons_self, mapO_congr fun x hx => h x (List.mem_cons_of_mem _ hx)]
theorem mapO_mono {α : Type} {f g : α → Option Int} : ∀ {l : List α} {a : List Int}, (∀ x ∈ l, ∀ z, f x = some z → g x = some z) → mapO f l = some a → mapO g l = some a
  | [], _, _, h => h
  | y :: r, l, m, h => by
    obtain ⟨a, b, h1, h2, rfl⟩ := mapO_cons.mp h
    exact mapO_cons.mpr ⟨a, b, m y List.mem_cons_self _ h1, mapO_mono (fun x hx => m x (List.mem_cons_of_mem _ hx)) h2, rfl⟩
theorem mapO_snoc {α : Type} {f : α → Option Int} : ∀ {l : List α} {a : List Int} {x : α} {z : Int}, mapO f l = some a → f x = some z → mapO f (l ++ [x]) = some (a ++ [z])
  | [], a, x, z, h, e => by cases h; exact mapO_cons.mpr ⟨z, [], e, rfl, rfl⟩
  | y :: r, l, x, z, h, e => by
    obtain ⟨a, b, h1, h2, rfl⟩ := mapO_cons.mp h
    exact mapO_cons.mpr ⟨a, b ++ [z], h1, mapO_snoc h2 e, rfl⟩
theorem mapO_def {α : Type} {f : α → Option Int} : ∀ {l : List α}, (∀ x ∈ l, ∃ z, f x = some z) → ∃ a, mapO f l = some a
  | [], _ => ⟨[], rfl⟩
  | y :: r, h => by
    obtain ⟨a, e⟩ := h y List.mem_cons_self
    obtain ⟨b, e'⟩ := mapO_def fun x hx => h x (List.mem_cons_of_mem _ hx)
    exact ⟨a :: b, mapO_cons.mpr ⟨a, b, e, e', rfl⟩⟩
/-- where a game stands -/
def look (gs : List Gm) (k : Gm) : Option Int := if k ∈ gs then some (ixG gs k) else none
theorem look_get {gs : List Gm} {k : Gm} {x : Int} (h : look gs k = some x) : 0 ≤ x ∧ gs[x.toNat]? = some k := by
  unfold look at h
  split at h
  · rename_i m
    have := Option.some.inj h
    subst this
    exact ⟨by omega, by simpa using ixG_get m⟩
  · cases h
theorem look_of {gs : List Gm} (nd : gs.Nodup) {k : Gm} {i : Nat} (h : gs[i]? = some k) : look gs k = some (i : Int) := by
  have m := List.mem_of_getElem? h
  unfold look
  rw [if_pos m]
  have := (List.getElem?_inj (List.getElem?_eq_some_iff.mp (ixG_get m)).1 nd).mp ((ixG_get m).trans h.symm)
  rw [this]
theorem look_app {gs f : List Gm} {k : Gm} {x : Int} (h : look gs k = some x) : look (gs ++ f) k = some x := by
  unfold look at h ⊢
  split at h
  · rename_i m
    rw [if_pos (List.mem_append_left _ m)]
    rw [← h]
    unfold ixG
    rw [List.idxOf_append, if_pos m]
  · cases h
def tn (gs : List Gm) : Nat → Int → Option Int
  | 0, _ => none
  | n + 1, g => (gs[g.toNat]?).bind fun gm => (mapO (tn gs n) gm.2).bind fun a => (mapO (tn gs n) gm.1).bind fun b => look gs (canon a, canon b)
def tr (gs : List Gm) (g : Int) : Option Int := tn gs (g.toNat + 1) g
theorem tn_more {gs : List Gm} (o : GOk gs) : ∀ (n k : Nat) (g : Int), g.toNat < n → n ≤ k → tn gs k g = tn gs n g
  | 0, _, _, h, _ => by omega
  | n + 1, 0, _, _, h => by omega
  | n + 1, k + 1, g, h, hk => by
    show (gs[g.toNat]?).bind _ = (gs[g.toNat]?).bind _
    cases e : gs[g.toNat]? with
    | none => rfl
    | some gm =>
      have low := o.low _ gm e
      show (mapO (tn gs k) gm.2).bind _ = (mapO (tn gs n) gm.2).bind _
      rw [mapO_congr (f := tn gs k) (g := tn gs n) (l := gm.2) fun x hx => tn_more o n k x (by have := low x (List.mem_append_right _ hx); omega) (by omega),
        mapO_congr (f := tn gs k) (g := tn gs n) (l := gm.1) fun x hx => tn_more o n k x (by have := low x (List.mem_append_left _ hx); omega) (by omega)]
theorem tr_eq {gs : List Gm} (o : GOk gs) {g : Int} {gm : Gm} (e : gs[g.toNat]? = some gm) : tr gs g = (mapO (tr gs) gm.2).bind fun a => (mapO (tr gs) gm.1).bind fun b => look gs (canon a, canon b) := by
  have low := o.low _ gm e
  show (gs[g.toNat]?).bind _ = _
  rw [e]
  show (mapO (tn gs g.toNat) gm.2).bind _ = _
  rw [mapO_congr (f := tn gs g.toNat) (g := tr gs) (l := gm.2) fun x hx => tn_more o (x.toNat + 1) g.toNat x (by omega) (by have := low x (List.mem_append_right _ hx); omega),
    mapO_congr (f := tn gs g.toNat) (g := tr gs) (l := gm.1) fun x hx => tn_more o (x.toNat + 1) g.toNat x (by omega) (by have := low x (List.mem_append_left _ hx); omega)]
theorem bind3 {α β γ : Type} {p : Option α} {q : Option β} {f : α → β → Option γ} {z : γ} : (p.bind fun a => q.bind fun b => f a b) = some z ↔ ∃ a b, p = some a ∧ q = some b ∧ f a b = some z := by
  cases p <;> cases q <;> simp
theorem tn_app {gs f : List Gm} : ∀ (n : Nat) (g x : Int), tn gs n g = some x → tn (gs ++ f) n g = some x
  | 0, _, _, h => nomatch h
  | n + 1, g, x, h => by
    obtain ⟨gm, e, h⟩ := Option.bind_eq_some_iff.mp (show (gs[g.toNat]?).bind _ = some x from h)
    obtain ⟨a, b, h1, h2, h3⟩ := bind3.mp h
    show ((gs ++ f)[g.toNat]?).bind _ = some x
    rw [List.getElem?_append_left (List.getElem?_eq_some_iff.mp e).1, e]
    exact bind3.mpr ⟨a, b, mapO_mono (fun y _ z => tn_app n y z) h1, mapO_mono (fun y _ z => tn_app n y z) h2, look_app h3⟩
theorem tr_app {gs f : List Gm} {g x : Int} (h : tr gs g = some x) : tr (gs ++ f) g = some x := tn_app _ _ _ h
theorem tr_some {gs : List Gm} (o : GOk gs) {g x : Int} (h : tr gs g = some x) : ∃ gm a b, gs[g.toNat]? = some gm ∧ mapO (tr gs) gm.2 = some a ∧ mapO (tr gs) gm.1 = some b ∧ 0 ≤ x ∧ gs[x.toNat]? = some (canon a, canon b) ∧ look gs (canon a, canon b) = some x := by
  obtain ⟨gm, e, _⟩ := Option.bind_eq_some_iff.mp (show (gs[g.toNat]?).bind _ = some x from h)
  rw [tr_eq o e] at h
  obtain ⟨a, b, h1, h2, h3⟩ := bind3.mp h
  exact ⟨gm, a, b, e, h1, h2, (look_get h3).1, (look_get h3).2, h3⟩
/-- turned again it is the game -/
theorem tr_back {gs : List Gm} (o : GOk gs) : ∀ (n : Nat) (g x : Int), g.toNat < n → 0 ≤ g → tr gs g = some x → tr gs x = some g
  | 0, _, _, h, _, _ => by omega
  | n + 1, g, x, hn, g0, h => by
    obtain ⟨gm, a, b, e, h1, h2, x0, ex, _⟩ := tr_some o h
    have low := o.low _ gm e
    have up := o.up gm (List.mem_of_getElem? e)
    have bk : ∀ (l a : List Int), (∀ m ∈ l, m ∈ gm.1 ++ gm.2) → l.Pairwise (· < ·) → mapO (tr gs) l = some a → ∃ c, mapO (tr gs) (canon a) = some c ∧ canon c = l := fun l a hl ul ha => by
      obtain ⟨c, hc⟩ := mapO_def (f := tr gs) (l := canon a) fun z hz => by
        obtain ⟨y, hy, ey⟩ := (mapO_mem ha z).mp (canon_mem.mp hz)
        have := low y (hl y hy)
        exact ⟨y, tr_back o n y z (by omega) this.1 ey⟩
      refine ⟨c, hc, up_eq (canon_up c) ul fun z => ?_⟩
      rw [canon_mem, mapO_mem hc]
      constructor
      · rintro ⟨w, hw, ew⟩
        obtain ⟨y, hy, ey⟩ := (mapO_mem ha w).mp (canon_mem.mp hw)
        have := low y (hl y hy)
        have := tr_back o n y w (by omega) this.1 ey
        rw [this] at ew
        cases ew; exact hy
      · intro hz
        have lz := low z (hl z hz)
        obtain ⟨w, ew⟩ := mapO_all ha z hz
        exact ⟨w, canon_mem.mpr ((mapO_mem ha w).mpr ⟨z, hz, ew⟩), tr_back o n z w (by omega) lz.1 ew⟩
    obtain ⟨c, hc, ec⟩ := bk gm.2 a (fun m hm => List.mem_append_right _ hm) up.2 h1
    obtain ⟨c', hc', ec'⟩ := bk gm.1 b (fun m hm => List.mem_append_left _ hm) up.1 h2
    rw [tr_eq o ex]
    refine bind3.mpr ⟨c', c, hc', hc, ?_⟩
    rw [ec, ec']
    have := look_of o.nd e
    rw [Int.toNat_of_nonneg g0] at this
    exact this
theorem tr_inj {gs : List Gm} (o : GOk gs) {g h x : Int} (g0 : 0 ≤ g) (h0 : 0 ≤ h) (e : tr gs g = some x) (e' : tr gs h = some x) : g = h := by
  have a := tr_back o _ g x (Nat.lt_succ_self _) g0 e
  have b := tr_back o _ h x (Nat.lt_succ_self _) h0 e'
  exact Option.some.inj (a.symm.trans b)
theorem tr_depth {gs : List Gm} {ds : List Int} (o : GOk gs) (d : DOk gs ds) : ∀ (n : Nat) (g x : Int), g.toNat < n → 0 ≤ g → tr gs g = some x → ds[x.toNat]? = ds[g.toNat]?
  | 0, _, _, h, _, _ => by omega
  | n + 1, g, x, hn, g0, h => by
    obtain ⟨gm, a, b, e, h1, h2, x0, ex, _⟩ := tr_some o h
    have low := o.low _ gm e
    have lg := (List.getElem?_eq_some_iff.mp e).1
    have lx := (List.getElem?_eq_some_iff.mp ex).1
    have dl := d.len
    obtain ⟨dg, hdg⟩ : ∃ v, ds[g.toNat]? = some v := ⟨_, List.getElem?_eq_getElem (by omega)⟩
    obtain ⟨dx, hdx⟩ : ∃ v, ds[x.toNat]? = some v := ⟨_, List.getElem?_eq_getElem (by omega)⟩
    obtain ⟨p1, p2, p3⟩ := d.at_ _ gm dg e hdg
    obtain ⟨q1, q2, q3⟩ := d.at_ _ _ dx ex hdx
    have mm : ∀ z, z ∈ dps ds (canon a ++ canon b) ↔ z ∈ dps ds (gm.1 ++ gm.2) := fun z => by
      have ih : ∀ y ∈ gm.1 ++ gm.2, ∀ w, tr gs y = some w → ds[w.toNat]?.getD 0 = ds[y.toNat]?.getD 0 := fun y hy w ew => by
        have := low y hy
        rw [tr_depth o d n y w (by omega) this.1 ew]
      unfold dps
      rw [List.mem_map, List.mem_map]
      constructor
      · rintro ⟨w, hw, rfl⟩
        rcases List.mem_append.mp hw with hw | hw
        · obtain ⟨y, hy, ey⟩ := (mapO_mem h1 w).mp (canon_mem.mp hw)
          exact ⟨y, List.mem_append_right _ hy, (ih y (List.mem_append_right _ hy) w ey).symm⟩
        · obtain ⟨y, hy, ey⟩ := (mapO_mem h2 w).mp (canon_mem.mp hw)
          exact ⟨y, List.mem_append_left _ hy, (ih y (List.mem_append_left _ hy) w ey).symm⟩
      · rintro ⟨y, hy, rfl⟩
        rcases List.mem_append.mp hy with hy' | hy'
        · obtain ⟨w, ew⟩ := mapO_all h2 y hy'
          exact ⟨w, List.mem_append_right _ (canon_mem.mpr ((mapO_mem h2 w).mpr ⟨y, hy', ew⟩)), ih y hy w ew⟩
        · obtain ⟨w, ew⟩ := mapO_all h1 y hy'
          exact ⟨w, List.mem_append_left _ (canon_mem.mpr ((mapO_mem h1 w).mpr ⟨y, hy', ew⟩)), ih y hy w ew⟩
    have nil : canon a ++ canon b = [] ↔ gm.1 ++ gm.2 = [] := by
      have e1 := mapO_len h1
      have e2 := mapO_len h2
      constructor
      · intro z
        obtain ⟨z1, z2⟩ := List.append_eq_nil_iff.mp z
        have a0 : a = [] := List.eq_nil_iff_forall_not_mem.mpr fun y hy => by have := canon_mem.mpr hy; rw [z1] at this; cases this
        have b0 : b = [] := List.eq_nil_iff_forall_not_mem.mpr fun y hy => by have := canon_mem.mpr hy; rw [z2] at this; cases this
        rw [a0] at e1; rw [b0] at e2
        rw [List.eq_nil_of_length_eq_zero e1.symm, List.eq_nil_of_length_eq_zero e2.symm]; rfl
      · intro z
        obtain ⟨z1, z2⟩ := List.append_eq_nil_iff.mp z
        rw [z2] at e1; rw [z1] at e2
        rw [List.eq_nil_of_length_eq_zero e1, List.eq_nil_of_length_eq_zero e2]; rfl
    rw [hdg, hdx]
    refine congrArg some ?_
    by_cases z : gm.1 ++ gm.2 = []
    · rw [p1 z, q1 (nil.mpr z)]
    · obtain ⟨u, hu, eu⟩ := p3 z
      obtain ⟨v, hv, ev⟩ := q3 (fun y => z (nil.mp y))
      have := p2 v ((mm v).mp hv)
      have := q2 u ((mm u).mpr hu)
      omega

/-! what a Putting knows -/
structure TOk (gs : List Gm) (N : Nat) (kvs : List KX) : Prop where
  nd : (kvs.map (·.1)).Nodup
  at_ : ∀ x ∈ kvs, ∃ (g : Nat) (y : Int), g < N ∧ x.1 = .inl (g : Int) ∧ x.2 = .int y ∧ tr gs g = some y
theorem TOk.nil {gs : List Gm} {N : Nat} : TOk gs N [] := ⟨List.nodup_nil, fun _ h => nomatch h⟩
theorem TOk.more {gs f : List Gm} {N : Nat} {kvs : List KX} (t : TOk gs N kvs) : TOk (gs ++ f) N kvs := ⟨t.nd, fun x hx => by
  obtain ⟨g, y, h1, h2, h3, h4⟩ := t.at_ x hx
  exact ⟨g, y, h1, h2, h3, tr_app h4⟩⟩
theorem TOk.len {gs : List Gm} {N : Nat} {kvs : List KX} (t : TOk gs N kvs) : kvs.length ≤ N := by
  have := nodup_le (kvs.map (·.1)) ((List.range N).map fun (g : Nat) => (.inl (g : Int) : Key)) t.nd fun x hx => by
    obtain ⟨y, hy, rfl⟩ := List.mem_map.mp hx
    obtain ⟨g, _, h1, h2, _⟩ := t.at_ y hy
    rw [h2]
    exact List.mem_map.mpr ⟨g, List.mem_range.mpr h1, rfl⟩
  simpa using this
theorem TOk.val {gs : List Gm} {N : Nat} {kvs : List KX} (t : TOk gs N kvs) {g : Nat} {v : V} (h : valV kvs (.inl (g : Int)) = some v) : ∃ y, v = .int y ∧ tr gs g = some y := by
  obtain ⟨x, hx, e, rfl⟩ := valV_mem h
  obtain ⟨g', y, _, e', hv, ht⟩ := t.at_ x hx
  rw [e] at e'
  injection e' with e'
  rw [← e'] at ht
  exact ⟨y, hv, ht⟩
theorem TOk.put {gs : List Gm} {N : Nat} {kvs : List KX} (t : TOk gs N kvs) {g : Nat} {y : Int} (hg : g < N) (ht : tr gs g = some y) : TOk gs N (putK kvs (.inl (g : Int)) (.int y)) := by
  unfold putK
  split
  · refine ⟨?_, fun x hx => ?_⟩
    · rw [List.map_map]
      have : (kvs.map ((fun x : KX => x.1) ∘ fun kv => if kv.1 = .inl (g : Int) then (kv.1, V.int y) else kv)) = kvs.map (·.1) := by
        refine List.map_congr_left fun x _ => ?_
        simp only [Function.comp]
        split <;> rfl
      rw [this]; exact t.nd
    · obtain ⟨z, hz, rfl⟩ := List.mem_map.mp hx
      split
      · rename_i e
        exact ⟨g, y, hg, e, rfl, ht⟩
      · exact t.at_ z hz
  · rename_i h
    refine ⟨?_, fun x hx => ?_⟩
    · rw [List.map_append, List.nodup_append]
      refine ⟨t.nd, by simp, fun x hx z hz => ?_⟩
      obtain ⟨w, hw, rfl⟩ := List.mem_map.mp hx
      simp at hz
      subst hz
      intro e
      exact h (List.any_eq_true.mpr ⟨w, hw, by simpa using e⟩)
    · rcases List.mem_append.mp hx with hx | hx
      · exact t.at_ x hx
      · cases List.mem_singleton.mp hx
        exact ⟨g, y, hg, rfl, rfl, ht⟩
def putFs (b tk sk : Addr) : List (Str × V) := [("book", .ref b), ("turned", .ref tk), ("sums", .ref sk)]
theorem putFs_book {b tk sk : Addr} : (putFs b tk sk).lookup ("book" : Str) = some (.ref b) := by rfl
theorem putFs_turned {b tk sk : Addr} : (putFs b tk sk).lookup ("turned" : Str) = some (.ref tk) := by rfl
theorem putFs_sums {b tk sk : Addr} : (putFs b tk sk).lookup ("sums" : Str) = some (.ref sk) := by rfl
theorem putFs_turn {b tk sk : Addr} : (putFs b tk sk).lookup ("turn" : Str) = none := by rfl
theorem putFs_put {b tk sk : Addr} : (putFs b tk sk).lookup ("put" : Str) = none := by rfl
local macro_rules | `(tactic| kaf_suf) => `(tactic| first
  | ((with_reducible refine' r_kfld ?a (Txt.cl_Putting (by assumption)) (Txt.na_Putting_book (by assumption)) putFs_book ?_); (case a => (kaf_pre; done)))
  | ((with_reducible refine' r_kfld ?a (Txt.cl_Putting (by assumption)) (Txt.na_Putting_turned (by assumption)) putFs_turned ?_); (case a => (kaf_pre; done)))
  | ((with_reducible refine' r_kfld ?a (Txt.cl_Putting (by assumption)) (Txt.na_Putting_sums (by assumption)) putFs_sums ?_); (case a => (kaf_pre; done)))
  | ((with_reducible refine' r_kmeth ?a ?b ?_); (case a => (kaf_pre; done)); (case b => (first | exact putFs_turn | exact putFs_put))))
structure PutAt (c : Cn) (H : Hp) (pu b tk sk : Addr) (M : Addr → Prop) (gs : List Gm) (N : Nat) (kvs : List KX) : Prop where
  here : ∃ dx, H pu = some (.ins c.cPutting dx (putFs b tk sk))
  K : H tk = some (.dK kvs)
  ok : TOk gs N kvs
  nm : ¬ M tk
theorem PutAt.keep {c : Cn} {H H' : Hp} {pu b tk sk : Addr} {M W : Addr → Prop} {gs f : List Gm} {N : Nat} {kvs : List KX} (t : PutAt c H pu b tk sk M gs N kvs) (k : Keep W H H') (n : ∀ x, W x → (∃ l, H x = some (.lst l)) ∨ ∃ φ, H x = some (.ext φ)) : PutAt c H' pu b tk sk M (gs ++ f) N kvs := by
  obtain ⟨⟨dx, h⟩, h2, h4, h5⟩ := t
  refine ⟨⟨dx, k _ _ (fun z => ?_) h⟩, k _ _ (fun z => ?_) h2, h4.more, h5⟩
  · rcases n _ z with ⟨l, e⟩ | ⟨l, e⟩ <;> rw [h] at e <;> cases e
  · rcases n _ z with ⟨l, e⟩ | ⟨l, e⟩ <;> rw [h2] at e <;> cases e
theorem PutAt.same {c : Cn} {H H' : Hp} {pu b tk sk : Addr} {M : Addr → Prop} {gs : List Gm} {N : Nat} {kvs : List KX} (t : PutAt c H pu b tk sk M gs N kvs) (k : Keep Nil H H') : PutAt c H' pu b tk sk M gs N kvs := by
  have := t.keep (f := []) k fun _ z => z.elim
  rwa [List.append_nil] at this
theorem PutAt.keepL {c : Cn} {H H' : Hp} {pu b tk sk : Addr} {M W : Addr → Prop} {gs : List Gm} {N : Nat} {kvs : List KX} (t : PutAt c H pu b tk sk M gs N kvs) (k : Keep W H H') (n : ∀ x, W x → ∃ l, H x = some (.lst l)) : PutAt c H' pu b tk sk M gs N kvs := by
  have := t.keep (f := []) k fun x h => .inl (n x h)
  rwa [List.append_nil] at this
abbrev N_Putting_init : List Str := ["self", "book"]
theorem sc_Putting_init : FnScope N_Putting_init ["self", "book"] (defScope s_Putting_init) := ⟨rfl, rfl, rfl, by decide +kernel, rfl, by decide +kernel, by decide +kernel⟩
def t_Putting_init (c : Cn) : TS :=
  (tSeq (sFld c.K (tVar 0) (tVar 1) "book")
  (tSeq (sFld c.K (tVar 0) (uDNew c.P c.w) "turned")
  (sFld c.K (tVar 0) (uDNew c.P c.w) "sums")))
def sp_Putting_init (c : Cn) : Sp := fun vs H Q E => vs.length = 2 ∧ ∃ (x b dx : Addr) (M : Addr → Prop) (gs : List Gm) (ds : List Int), vs = [.ref x, .ref b] ∧ H x = some (.ins c.cPutting dx []) ∧ BookAt c H b M gs ds ∧
  ∀ (H' : Hp) (tk sk : Addr), H tk = none → H sk = none → sk ≠ tk → Keep (fun a => a = x) H H' → H' sk = some (NdO c.P c.w sk []) → (∀ N, PutAt c H' x b tk sk M gs N []) → Q .non H'
theorem p_Putting_init {c : Cn} {mg : Str → Option Value} (T : Txt c mg) {vs : List V} {H : Hp} {Q : VK} {E : XK} (h : sp_Putting_init c vs H Q E) : t_Putting_init c { nx := fun _ H' => Q .non H', rt := Q } (start N_Putting_init vs) H := by
  obtain ⟨_, x, b, dx, M, gs, ds, rfl, hx, B, k⟩ := h
  unfold t_Putting_init
  repeat kaf_suf
  refine r_ksfld (by kaf_pre) (Txt.cl_Putting T) (Txt.na_Putting_book T) (by decide) ?_
  repeat kaf_suf
  refine .inl ⟨true, fun tk htk => ?_⟩
  rw [if_pos rfl]
  have hx1 : (upd (upd H x (.ins c.cPutting dx (putF (Str.ofString "book") (.ref b) []))) tk (.dK [])) x = some (.ins c.cPutting dx (putF (Str.ofString "book") (.ref b) [])) := get_new htk upd_same
  have ntx : tk ≠ x := ne_new htk upd_same
  have htk0 : H tk = none := none_of_upd htk
  repeat kaf_suf
  refine r_ksfld hx1 (Txt.cl_Putting T) (Txt.na_Putting_turned T) (by show 1 < 1000; decide) ?_
  repeat kaf_suf
  refine .inl ⟨false, fun sk hsk => ?_⟩
  rw [if_neg Bool.false_ne_true]
  have e2 : (upd (upd (upd H x (.ins c.cPutting dx (putF (Str.ofString "book") (.ref b) []))) tk (.dK [])) x (.ins c.cPutting dx (putF (Str.ofString "turned") (.ref tk) (putF (Str.ofString "book") (.ref b) [])))) tk = some (.dK []) := get_set ntx upd_same
  repeat kaf_suf
  refine r_ksfld (get_new hsk upd_same) (Txt.cl_Putting T) (Txt.na_Putting_sums T) (by show 2 < 1000; decide) ?_
  repeat kaf_suf
  have hsk0 : H sk = none := none_of_upd (none_of_upd (none_of_upd hsk))
  have nst : sk ≠ tk := ne_new hsk e2
  have nsx : sk ≠ x := ne_new hsk upd_same
  refine k _ tk sk htk0 hsk0 nst (Keep.set (M := fun a => a = x) (Keep.new (Keep.set (Keep.new (Keep.set Keep.refl rfl) htk) rfl) hsk) rfl) (get_set nsx upd_same) fun N => ⟨⟨dx, upd_same⟩, get_set ntx (get_new hsk e2), TOk.nil, B.new htk0⟩
theorem mak_Putting {c : Cn} {mg : Str → Option Value} {base : Heap} (T : Txt c mg) : Mak c.P c.w c.K mg base CX0 1 "Putting" c.cPutting (sp_Putting_init c) := by
  obtain ⟨f, fd, F, g, b⟩ := T.F_Putting_init
  exact ⟨f, fd, ["self", "book"], g, F.ok (k := 0) (N := N_Putting_init) sc_Putting_init (fun vs H Q E h => h.1) (fun cdv A outer s H vs Q E hr h => ⟨t_Putting_init c, by
  exact (pss_cons (ps_fld (pv 0) (pv 1) rfl)
  (pss_cons (ps_fld (pv 0) pe_dnew rfl)
  (pss_one (ps_fld (pv 0) pe_dnew rfl)))), p_Putting_init T h⟩), T.g_Putting, b⟩
def sp_Putting_turn (n : Nat) (c : Cn) : Sp := fun vs H Q E => vs.length = 2 ∧ ∃ (pu b tk sk : Addr) (M : Addr → Prop) (gs : List Gm) (ds : List Int) (N : Nat) (kvs : List KX) (g : Nat), vs = [.ref pu, .int g] ∧ PutAt c H pu b tk sk M gs N kvs ∧ BookAt c H b M gs ds ∧ g < gs.length ∧ (∃ dg, ds[g]? = some dg ∧ dg < n) ∧ g < N ∧ N ≤ 2000 ∧ gs.length + N ≤ 80000 + kvs.length ∧
  ∀ (H' : Hp) (f : List Gm) (e : List Int) (kvs' : List KX) (x : Int), Keep (fun a => a = tk ∨ M a) H H' → PutAt c H' pu b tk sk M (gs ++ f) N kvs' → BookAt c H' b M (gs ++ f) (ds ++ e) → f.length + kvs.length ≤ kvs'.length → tr (gs ++ f) g = some x → ((∃ y, tr gs g = some y) → f = []) → Q (.int x) H'
theorem z_Putting_turn {c : Cn} {vs : List V} {H : Hp} {Q : VK} {E : XK} (h : sp_Putting_turn 0 c vs H Q E) : False := by
  obtain ⟨_, _, _, _, _, _, _, ds, _, _, g, _, _, B, hg, ⟨dg, h, h'⟩, _⟩ := h
  have := DOk.pos B.ok B.dok (g + 1) g (by omega) dg h
  omega
abbrev N_Putting_turn : List Str := ["self", "g", "lefts", "rights", "move"]
theorem sc_Putting_turn : FnScope N_Putting_turn ["self", "g"] (defScope s_Putting_turn) := ⟨rfl, rfl, rfl, by decide +kernel, rfl, by decide +kernel, by decide +kernel⟩
def t_Putting_turn (n : Nat) (c : Cn) : TS :=
  (C8.tCut (tIfS (tTest (tOp (cNotIn c.P c.w c.K) (tVar 1) (tFld c.K (tVar 0) "turned")))
  (tSeq (tAsg (tLc (iAny c.K (tMeth c.cBook "rights" (sp_Book_rights c) [] E0 (tFld c.K (tVar 0) "book") (tCons (tVar 1) tNil))) (gName 4) tYes (tMeth c.cPutting "turn" (sp_Putting_turn n c) [] E0 (tVar 0) (tCons (tVar 4) tNil)) [4]) (gName 2))
  (tSeq (tAsg (tLc (iAny c.K (tMeth c.cBook "lefts" (sp_Book_lefts c) [] E0 (tFld c.K (tVar 0) "book") (tCons (tVar 1) tNil))) (gName 4) tYes (tMeth c.cPutting "turn" (sp_Putting_turn n c) [] E0 (tVar 0) (tCons (tVar 4) tNil)) [4]) (gName 3))
  (tAsg (tMeth c.cBook "game" (sp_Book_game c) [] E0 (tFld c.K (tVar 0) "book") (tCons (tVar 2) (tCons (tVar 3) tNil))) (gSub (tFld c.K (tVar 0) "turned") (tVar 1) (bSet c.P c.w)))))
  tNext)
  (tRet (tOp (bIx c.P c.w c.K) (tFld c.K (tVar 0) "turned") (tVar 1))))
theorem p_Putting_turn {n : Nat} {c : Cn} {mg : Str → Option Value} (T : Txt c mg) {vs : List V} {H : Hp} {Q : VK} {E : XK} (h : sp_Putting_turn (n + 1) c vs H Q E) : t_Putting_turn n c { nx := fun _ H' => Q .non H', rt := Q } (start N_Putting_turn vs) H := by
  obtain ⟨_, pu, b, tk, sk, M, gs, ds, N, kvs, g, rfl, t, B, hg, hn, hN, fN, few, k⟩ := h
  obtain ⟨dx, ht⟩ := t.here
  obtain ⟨dg, hdg, hdn⟩ := hn
  unfold t_Putting_turn
  refine ⟨fun σ' H' => ∃ (x2 x3 : Option V) (f : List Gm) (e : List Int) (kvs' : List KX) (x : Int), σ' = [some (.ref pu), some (.int g), x2, x3, none] ∧ Keep (fun a => a = tk ∨ M a) H H' ∧ PutAt c H' pu b tk sk M (gs ++ f) N kvs' ∧ BookAt c H' b M (gs ++ f) (ds ++ e) ∧ f.length + kvs.length ≤ kvs'.length ∧ tr (gs ++ f) g = some x ∧ ((∃ y, tr gs g = some y) → f = []) ∧ valV kvs' (.inl (g : Int)) = some (.int x), ?_, ?_⟩
  · repeat kaf_suf
    refine .inr (.inr (.inr (.inl ⟨tk, _, rfl, DGet.k (k := .inl (g : Int)) t.K, ?_⟩)))
    cases e : valV kvs (.inl (g : Int)) with
    | some v =>
      refine r_kB (r_ite_ff ?_)
      obtain ⟨y, rfl, ey⟩ := t.ok.val e
      repeat kaf_suf
      exact ⟨_, _, [], [], kvs, y, rfl, Keep.refl, by rw [List.append_nil]; exact t, by rw [List.append_nil, List.append_nil]; exact B, by simp, by rw [List.append_nil]; exact ey, fun _ => rfl, e⟩
    | none =>
      refine r_kB (r_ite_tt ?_)
      repeat kaf_suf
      have hgm : gs[g]? = some gs[g] := List.getElem?_eq_getElem hg
      generalize gs[g] = gm at hgm
      have low := B.ok.low g gm hgm
      have low1 : ∀ m ∈ gm.1, 0 ≤ m ∧ m < g := fun m hm => low m (List.mem_append_left _ hm)
      have low2 : ∀ m ∈ gm.2, 0 ≤ m ∧ m < g := fun m hm => low m (List.mem_append_right _ hm)
      have up := B.ok.up gm (List.mem_of_getElem? hgm)
      have gl1 := up_len _ 0 g up.1 low1 (by omega)
      have gl2 := up_len _ 0 g up.2 low2 (by omega)
      obtain ⟨bx, bm, bn, bd, hb⟩ := B.ins_
      repeat kaf_suf
      refine ⟨rfl, b, M, gs, ds, g, gm, rfl, B, hgm, fun r hr => ?_⟩
      have kr : Keep Nil H (upd H r (.lst (gm.2.map V.int))) := Keep.alloc hr
      have erA : (upd H r (.lst (gm.2.map V.int))) r = some (.lst (gm.2.map V.int)) := upd_same
      have wrA : ¬ (r = tk ∨ M r) := fun z => z.elim (fun z => by rw [z, t.K] at hr; cases hr) (B.new hr)
      have tA := t.same kr
      have BA := B.same kr
      generalize upd H r (.lst (gm.2.map V.int)) = Hr at kr erA tA BA ⊢
      clear hr hb
      repeat kaf_suf
      intro DA hDA
      have nDAt : DA ≠ tk := fun z => by rw [z, tA.K] at hDA; cases hDA
      have nDA : ¬ M DA := BA.new hDA
      have wDA : ¬ (DA = tk ∨ M DA) := fun z => z.elim nDAt nDA
      refine lc_list (xs := gm.2.map V.int) (fun j H' => ∃ (f : List Gm) (e : List Int) (kvs' : List KX) (acc : List Int), H' DA = some (.lst (acc.map V.int)) ∧ Keep (fun a => a = tk ∨ M a) Hr H' ∧ PutAt c H' pu b tk sk M (gs ++ f) N kvs' ∧ BookAt c H' b M (gs ++ f) (ds ++ e) ∧ f.length + kvs.length ≤ kvs'.length ∧ mapO (tr (gs ++ f)) (gm.2.take j) = some acc ∧ ((∃ y, tr gs g = some y) → f = [])) ⟨[], [], kvs, [], upd_same, Keep.alloc hDA, by rw [List.append_nil]; exact tA.same (Keep.alloc hDA), by rw [List.append_nil, List.append_nil]; exact BA.same (Keep.alloc hDA), by simp, rfl, fun _ => rfl⟩ ?_ ?_ ?_
      · rintro j H' _ ⟨_, _, _, _, _, k1, _⟩; exact SqL.of (k1 _ _ wrA erA)
      · rintro j x H1 hj ⟨f, e, kvs1, acc, eD, k1, t1, B1, fl, ea, hf⟩
        rw [List.getElem?_map] at hj
        obtain ⟨m, hm, rfl⟩ := Option.map_eq_some_iff.mp hj
        have mm := List.mem_of_getElem? hm
        obtain ⟨m0, m1⟩ := low2 m mm
        obtain ⟨mn, rfl⟩ := Int.eq_ofNat_of_zero_le m0
        have hjl := (List.getElem?_eq_some_iff.mp hm).1
        obtain ⟨dm, hdm, ldm⟩ := B.dok.move B.ok hgm hdg (List.mem_append_right _ mm)
        rw [Int.toNat_natCast] at hdm
        have hdm' : (ds ++ e)[mn]? = some dm := by rw [List.getElem?_append_left (List.getElem?_eq_some_iff.mp hdm).1]; exact hdm
        obtain ⟨dx1, ht1⟩ := t1.here
        repeat kaf_suf
        refine ⟨rfl, ?_⟩
        repeat kaf_suf
        refine ⟨rfl, pu, b, tk, sk, M, gs ++ f, ds ++ e, N, kvs1, mn, rfl, t1, B1, by rw [List.length_append]; omega, ⟨dm, hdm', by omega⟩, by omega, fN, by rw [List.length_append]; omega, fun H2 f2 e2 kvs2 x2 k2 t2 B2 fl2 ex2 hf2 => ?_⟩
        have eD2 := k2 _ _ wDA eD
        have al := mapO_len ea
        rw [List.length_take] at al
        have q1 : gs ++ (f ++ f2) = gs ++ f ++ f2 := by simp
        have q2 : ds ++ (e ++ e2) = ds ++ e ++ e2 := by simp
        refine ⟨_, eD2, few1 (by rw [List.length_map]; omega), f ++ f2, e ++ e2, kvs2, acc ++ [x2], by rw [List.map_append]; exact upd_same, (k1.trans k2).setN hDA, ?_, ?_, by rw [List.length_append]; omega, ?_, ?_⟩
        · rw [q1]; exact t2.keepL (W := fun a => a = DA) (Keep.refl.set rfl) fun z e => ⟨_, e ▸ eD2⟩
        · rw [q1, q2]; exact B2.keep (N := fun a => a = DA) (Keep.refl.set rfl) (fun z e => ⟨_, e ▸ eD2⟩) fun z hz e => nDA (e ▸ hz)
        · have tk1 : (gm.2).take (j + 1) = (gm.2).take j ++ [(mn : Int)] := by rw [List.take_succ, hm]; rfl
          rw [tk1, q1]
          exact mapO_snoc (mapO_mono (fun _ _ _ h => tr_app h) ea) ex2
        · intro hy
          have f0 := hf hy
          subst f0
          have : f2 = [] := hf2 (by
            obtain ⟨y, hy⟩ := hy
            obtain ⟨gm', a', b', e1, e2, e3, _⟩ := tr_some B.ok hy
            rw [Int.toNat_natCast, hgm] at e1
            cases e1
            rw [List.append_nil]
            exact mapO_all e2 _ mm)
          rw [this]; rfl
      rintro H3 ⟨f3, e3, kvs3, aa, eD3, k3, t3, B3, fl3, ea3, hf3⟩
      rw [List.length_map, List.take_length] at ea3
      obtain ⟨dx3, ht3⟩ := t3.here
      obtain ⟨bx3, bm3, bn3, bd3, hb3⟩ := B3.ins_
      have hg3 : (gs ++ f3)[g]? = some gm := by rw [List.getElem?_append_left hg]; exact hgm
      have kH3 : Keep (fun a => a = tk ∨ M a) H H3 := kr.weak.trans k3
      have hDA0 : H DA = none := keep_none kr hDA
      clear k3 kr tA BA hDA erA
      repeat kaf_suf
      refine ⟨rfl, b, M, _, _, g, gm, rfl, B3, hg3, fun r2 hr2 => ?_⟩
      have kr : Keep Nil H3 (upd H3 r2 (.lst (gm.1.map V.int))) := Keep.alloc hr2
      have erB : (upd H3 r2 (.lst (gm.1.map V.int))) r2 = some (.lst (gm.1.map V.int)) := upd_same
      have wrB : ¬ (r2 = tk ∨ M r2) := fun z => z.elim (fun z => by rw [z, t3.K] at hr2; cases hr2) (B3.new hr2)
      have tB := t3.same kr
      have BB := B3.same kr
      have eD4 := kr.get (fun z => z) eD3
      have kH4 : Keep (fun a => a = tk ∨ M a) H (upd H3 r2 (.lst (gm.1.map V.int))) := kH3.trans kr.weak
      generalize upd H3 r2 (.lst (gm.1.map V.int)) = Hs at kr erB tB BB eD4 kH4 ⊢
      clear hr2 hb3 kH3 eD3
      repeat kaf_suf
      intro DB hDB
      have nDBt : DB ≠ tk := fun z => by rw [z, tB.K] at hDB; cases hDB
      have nDB : ¬ M DB := BB.new hDB
      have wDB : ¬ (DB = tk ∨ M DB) := fun z => z.elim nDBt nDB
      refine lc_list (xs := gm.1.map V.int) (fun j H' => ∃ (f : List Gm) (e : List Int) (kvs' : List KX) (acc : List Int), H' DB = some (.lst (acc.map V.int)) ∧ Keep (fun a => a = tk ∨ M a) Hs H' ∧ PutAt c H' pu b tk sk M (gs ++ f) N kvs' ∧ BookAt c H' b M (gs ++ f) (ds ++ e) ∧ f.length + kvs.length ≤ kvs'.length ∧ mapO (tr (gs ++ f)) (gm.1.take j) = some acc ∧ ((∃ y, tr gs g = some y) → f = []) ∧ mapO (tr (gs ++ f)) gm.2 = some aa) ⟨f3, e3, kvs3, [], upd_same, Keep.alloc hDB, tB.same (Keep.alloc hDB), BB.same (Keep.alloc hDB), fl3, rfl, hf3, ea3⟩ ?_ ?_ ?_
      · rintro j H' _ ⟨_, _, _, _, _, k1, _⟩; exact SqL.of (k1 _ _ wrB erB)
      · rintro j x H1 hj ⟨f, e, kvs1, acc, eD, k1, t1, B1, fl, ea, hf, eaa⟩
        rw [List.getElem?_map] at hj
        obtain ⟨m, hm, rfl⟩ := Option.map_eq_some_iff.mp hj
        have mm := List.mem_of_getElem? hm
        obtain ⟨m0, m1⟩ := low1 m mm
        obtain ⟨mn, rfl⟩ := Int.eq_ofNat_of_zero_le m0
        have hjl := (List.getElem?_eq_some_iff.mp hm).1
        obtain ⟨dm, hdm, ldm⟩ := B.dok.move B.ok hgm hdg (List.mem_append_left _ mm)
        rw [Int.toNat_natCast] at hdm
        have hdm' : (ds ++ e)[mn]? = some dm := by rw [List.getElem?_append_left (List.getElem?_eq_some_iff.mp hdm).1]; exact hdm
        obtain ⟨dx1, ht1⟩ := t1.here
        repeat kaf_suf
        refine ⟨rfl, ?_⟩
        repeat kaf_suf
        refine ⟨rfl, pu, b, tk, sk, M, gs ++ f, ds ++ e, N, kvs1, mn, rfl, t1, B1, by rw [List.length_append]; omega, ⟨dm, hdm', by omega⟩, by omega, fN, by rw [List.length_append]; omega, fun H2 f2 e2 kvs2 x2 k2 t2 B2 fl2 ex2 hf2 => ?_⟩
        have eD2 := k2 _ _ wDB eD
        have al := mapO_len ea
        rw [List.length_take] at al
        have q1 : gs ++ (f ++ f2) = gs ++ f ++ f2 := by simp
        have q2 : ds ++ (e ++ e2) = ds ++ e ++ e2 := by simp
        refine ⟨_, eD2, few1 (by rw [List.length_map]; omega), f ++ f2, e ++ e2, kvs2, acc ++ [x2], by rw [List.map_append]; exact upd_same, (k1.trans k2).setN hDB, ?_, ?_, by rw [List.length_append]; omega, ?_, ?_, ?_⟩
        · rw [q1]; exact t2.keepL (W := fun a => a = DB) (Keep.refl.set rfl) fun z e => ⟨_, e ▸ eD2⟩
        · rw [q1, q2]; exact B2.keep (N := fun a => a = DB) (Keep.refl.set rfl) (fun z e => ⟨_, e ▸ eD2⟩) fun z hz e => nDB (e ▸ hz)
        · have tk1 : (gm.1).take (j + 1) = (gm.1).take j ++ [(mn : Int)] := by rw [List.take_succ, hm]; rfl
          rw [tk1, q1]
          exact mapO_snoc (mapO_mono (fun _ _ _ h => tr_app h) ea) ex2
        · intro hy
          have f0 := hf hy
          subst f0
          have : f2 = [] := hf2 (by
            obtain ⟨y, hy⟩ := hy
            obtain ⟨gm', a', b', e1, e2, e3, _⟩ := tr_some B.ok hy
            rw [Int.toNat_natCast, hgm] at e1
            cases e1
            rw [List.append_nil]
            exact mapO_all e3 _ mm)
          rw [this]; rfl
        · rw [q1]; exact mapO_mono (fun _ _ _ h => tr_app h) eaa
      rintro H5 ⟨f5, e5, kvs5, bb, eD5, k5, t5, B5, fl5, ea5, hf5, eaa⟩
      rw [List.length_map, List.take_length] at ea5
      have eD6 := k5 _ _ wDA eD4
      have kH5 := kH4.trans k5
      have hDB0 : H DB = none := by
        cases e : H DB with
        | none => rfl
        | some o =>
          by_cases z : DB = tk ∨ M DB
          · exact absurd z wDB
          · rw [kH4 _ _ z e] at hDB; cases hDB
      obtain ⟨dx5, ht5⟩ := t5.here
      obtain ⟨bx5, bm5, bn5, bd5, hb5⟩ := B5.ins_
      clear k5 kH4 eD4 kr tB BB hDB erB
      have al := mapO_len eaa
      have bl := mapO_len ea5
      have tl := t5.ok.len
      have lowm : ∀ {l a : List Int}, mapO (tr (gs ++ f5)) l = some a → ∀ m ∈ a, 0 ≤ m ∧ m < (gs ++ f5).length := fun h m hm => by
        obtain ⟨y, _, ey⟩ := (mapO_mem h m).mp hm
        obtain ⟨_, _, _, _, _, _, z0, z1, _⟩ := tr_some B5.ok ey
        have := (List.getElem?_eq_some_iff.mp z1).1
        omega
      repeat kaf_suf
      refine ⟨rfl, b, DA, DB, M, gs ++ f5, ds ++ e5, aa, bb, rfl, B5, eD6, eD5, nDA, nDB, by rw [List.length_append]; omega, by omega, by omega, fun m hm => ?_, fun H6 e6 k6 B6 => ?_⟩
      · rcases List.mem_append.mp hm with h | h
        · exact lowm eaa m h
        · exact lowm ea5 m h
      obtain ⟨f6, hf6, fl6, fin6⟩ := addG_grow (gs := gs ++ f5) (k := (canon aa, canon bb))
      have mem6 := addG_mem (gs ++ f5) (canon aa, canon bb)
      rw [hf6] at B6 mem6 ⊢
      have hg6 : (gs ++ f5 ++ f6)[((g : Int)).toNat]? = some gm := by
        rw [Int.toNat_natCast, List.append_assoc, List.getElem?_append_left hg]; exact hgm
      have tr6 : tr (gs ++ f5 ++ f6) g = some (ixG (gs ++ f5 ++ f6) (canon aa, canon bb) : Int) := by
        rw [tr_eq B6.ok hg6]
        refine bind3.mpr ⟨aa, bb, mapO_mono (fun _ _ _ h => tr_app h) eaa, mapO_mono (fun _ _ _ h => tr_app h) ea5, ?_⟩
        unfold look; rw [if_pos mem6]
      have same6 : (∃ y, tr (gs ++ f5) g = some y) → f6 = [] := fun ⟨y, hy⟩ => by
        obtain ⟨gm', a', b', e1, e2, e3, _, _, e4⟩ := tr_some B5.ok hy
        rw [Int.toNat_natCast, List.getElem?_append_left hg, hgm] at e1
        cases e1
        rw [eaa] at e2; cases e2
        rw [ea5] at e3; cases e3
        unfold look at e4
        split at e4
        · rename_i h; exact fin6 h
        · cases e4
      have t6 : PutAt c H6 pu b tk sk M (gs ++ f5 ++ f6) N kvs5 := t5.keep k6 fun x h => B5.cell h
      obtain ⟨dx6, ht6⟩ := t6.here
      generalize (ixG (gs ++ f5 ++ f6) (canon aa, canon bb) : Int) = x6 at tr6 ⊢
      have q1 : gs ++ (f5 ++ f6) = gs ++ f5 ++ f6 := by simp
      have q2 : ds ++ (e5 ++ e6) = ds ++ e5 ++ e6 := by simp
      repeat kaf_suf
      refine .inr (.inl ⟨tk, _, rfl, DPut.k (k := .inl (g : Int)) t6.K (few1 (by omega)), ?_⟩)
      repeat kaf_suf
      have hpt : pu ≠ tk := fun z => by have := t6.K; rw [← z, ht6] at this; cases this
      refine ⟨_, _, f5 ++ f6, e5 ++ e6, putK kvs5 (.inl (g : Int)) (.int x6), x6, rfl, (kH5.trans (k6.mono fun _ h => .inr h)).set (.inl rfl), ?_, ?_, ?_, by rw [q1]; exact tr6, fun hy => ?_, putK_val⟩
      · rw [q1]; exact ⟨⟨dx6, get_set hpt ht6⟩, upd_same, t6.ok.put hN tr6, t6.nm⟩
      · rw [q1, q2]
        exact B6.keepY (N := fun a => a = tk) (Keep.refl.set rfl) (fun z e => by subst e; exact ⟨fun l h => (by rw [t6.K] at h; cases h), fun C d l h => (by rw [t6.K] at h; cases h)⟩) fun z hz e => t6.nm (e ▸ hz)
      · cases ev : valV kvs5 (.inl (g : Int)) with
        | none => rw [putK_new ev]; simp only [List.length_append, List.length_cons, List.length_nil]; omega
        | some v =>
          obtain ⟨y, _, hy⟩ := t5.ok.val ev
          rw [same6 ⟨y, hy⟩, List.append_nil]
          have := putK_len (kvs := kvs5) (k := .inl (g : Int)) (v := .int x6)
          omega
      · have f50 := hf5 hy
        have : ∃ y, tr (gs ++ f5) g = some y := by rw [f50, List.append_nil]; exact hy
        rw [f50, same6 this]; rfl
  · rintro σ' H' ⟨x2, x3, f, e, kvs', x, rfl, k', t', B', fl, ex, hf, ev⟩
    obtain ⟨dx', ht'⟩ := t'.here
    repeat kaf_suf
    refine .inr (.inr (.inr (.inl ⟨tk, _, rfl, ev ▸ DGet.k (k := .inl (g : Int)) t'.K, ?_⟩)))
    exact k _ f e kvs' x k' t' B' fl ex hf
theorem met_Putting_turn {c : Cn} {mg : Str → Option Value} {base : Heap} (T : Txt c mg) : ∀ n : Nat, Met c.P c.w c.K mg base CX0 (3 + n) c.cPutting "turn" (sp_Putting_turn n c)
  | 0 => by
    obtain ⟨f, fd, F, g, b⟩ := T.F_Putting_turn
    exact ⟨f, fd, ["self", "g"], T.cl_Putting, g, F.ok (k := 2) (N := N_Putting_turn) sc_Putting_turn (fun vs H Q E h => (z_Putting_turn h).elim) (fun cdv A outer s H vs Q E hr h => (z_Putting_turn h).elim), b⟩
  | n + 1 => by
    obtain ⟨f, fd, F, g, b⟩ := T.F_Putting_turn
    exact ⟨f, fd, ["self", "g"], T.cl_Putting, g, F.ok (k := 3 + n) (N := N_Putting_turn) sc_Putting_turn (fun vs H Q E h => h.1) (fun cdv A outer s H vs Q E hr h => ⟨t_Putting_turn n c, by
  exact (C8.pss_cut (ps_if (pt_cmpR (o_notin (hu65 hr)) (pv 1) (pe_fld (pv 0) rfl) (by rfl)) (pss_cons (ps_setLc (i := 2) (own := [("move", 4)]) rfl sc_Putting_turn.nd rfl rfl (sw_true rfl rfl rfl (by decide +kernel)) (pi_any (e_meth (met_Book_rights T) hr (by omega) passL (pe_fld (pv 0) rfl) (pa_cons (pv 1) pa_nil))) (blkOk_by (own := [("move", 4)]) (N := N_Putting_turn) (sc := defScope s_Putting_turn) (by decide +kernel)) (fun _ _ _ _ _ => (pg_name (i := 4) sc_Putting_turn.nd rfl (Or.inl rfl))) (fun _ _ _ _ _ => pts_nil) (fun _ _ _ _ _ => (e_meth (met_Putting_turn T n) hr (by omega) pass0 (pv 0) (pa_cons (pv 4) pa_nil))))
  (pss_cons (ps_setLc (i := 3) (own := [("move", 4)]) rfl sc_Putting_turn.nd rfl rfl (sw_true rfl rfl rfl (by decide +kernel)) (pi_any (e_meth (met_Book_lefts T) hr (by omega) passL (pe_fld (pv 0) rfl) (pa_cons (pv 1) pa_nil))) (blkOk_by (own := [("move", 4)]) (N := N_Putting_turn) (sc := defScope s_Putting_turn) (by decide +kernel)) (fun _ _ _ _ _ => (pg_name (i := 4) sc_Putting_turn.nd rfl (Or.inl rfl))) (fun _ _ _ _ _ => pts_nil) (fun _ _ _ _ _ => (e_meth (met_Putting_turn T n) hr (by omega) pass0 (pv 0) (pa_cons (pv 4) pa_nil))))
  (pss_one (ps_asg (e_meth (met_Book_game T) hr (by omega) passL (pe_fld (pv 0) rfl) (pa_cons (pv 2) (pa_cons (pv 3) pa_nil))) (pg_sub (pe_fld (pv 0) rfl) (pv 1) (s_set (hu64 hr))))))) pss_nil)
  (pss_one (ps_ret (pe_ix (x_ix (hu64 hr)) (pe_fld (pv 0) rfl) (pv 1) (fun _ _ => rfl))))), p_Putting_turn T h⟩), b⟩

/-! a game turned -/
abbrev N_turned : List Str := ["book", "g"]
theorem sc_turned : FnScope N_turned ["book", "g"] (defScope s_turned) := ⟨rfl, rfl, rfl, by decide +kernel, rfl, by decide +kernel, by decide +kernel⟩
def t_turned (c : Cn) (E : XK) : TS :=
  (tSeq (tDrop (tMeth c.cBook "depth" (sx_Book_depth c) [] E (tVar 0) (tCons (tVar 1) tNil)))
  (tRet (tMeth c.cPutting "turn" (sp_Putting_turn 70 c) [] E0 (tMake c.cPutting (sp_Putting_init c) [] E0 (tCons (tVar 0) tNil)) (tCons (tVar 1) tNil))))
def sp_turned (c : Cn) : Sp := fun vs H Q E => vs.length = 2 ∧ ∃ (b : Addr) (M : Addr → Prop) (gs : List Gm) (ds : List Int) (g : Nat), vs = [.ref b, .int g] ∧ BookAt c H b M gs ds ∧ g < gs.length ∧ (∃ dg, ds[g]? = some dg ∧ dg < 70) ∧ g < 1900 ∧ gs.length ≤ 70000 ∧
  ∀ (H' : Hp) (f : List Gm) (e : List Int) (x : Int), Keep M H H' → BookAt c H' b M (gs ++ f) (ds ++ e) → f.length ≤ g + 1 → tr (gs ++ f) g = some x → ((∃ y, tr gs g = some y) → f = []) → Q (.int x) H'
theorem p_turned {c : Cn} {mg : Str → Option Value} (T : Txt c mg) {vs : List V} {H : Hp} {Q : VK} {E : XK} (h : sp_turned c vs H Q E) : t_turned c E { nx := fun _ H' => Q .non H', rt := Q } (start N_turned vs) H := by
  obtain ⟨_, b, M, gs, ds, g, rfl, B, hg, ⟨dg, hdg, hdn⟩, g19, few, k⟩ := h
  obtain ⟨bx, bm, bn, bd, hb⟩ := B.ins_
  unfold t_turned
  repeat kaf_suf
  refine ⟨rfl, .inl ⟨rfl, b, M, gs, ds, g, dg, rfl, B, hdg, ?_⟩⟩
  repeat kaf_suf
  intro pu dx hpu hdx ndx
  repeat kaf_suf
  have kI : Keep Nil H (upd (upd H dx (.own pu)) pu (.ins c.cPutting dx [])) := (Keep.alloc hdx).setN hpu
  refine ⟨rfl, pu, b, dx, M, gs, ds, rfl, upd_same, B.same kI, fun H1 tk sk htk hsk nst k1 es t1 => ⟨rfl, ?_⟩⟩
  have htk0 : H tk = none := keep_none kI htk
  have k01 : Keep Nil H H1 := fun a o n h => k1 a o (fun z => by rw [z, hpu] at h; cases h) (kI a o n h)
  have B1 := B.same k01
  obtain ⟨dx1, ht1⟩ := (t1 (g + 1)).here
  clear k1 kI
  repeat kaf_suf
  refine ⟨rfl, pu, b, tk, sk, M, gs, ds, g + 1, [], g, rfl, t1 (g + 1), B1, hg, ⟨dg, hdg, hdn⟩, by omega, by omega, by omega, fun H2 f e kvs' x k2 t2 B2 fl ex hf => ?_⟩
  have tl := t2.ok.len
  simp only [List.length_nil] at fl
  exact k H2 f e x (fun a o n h => k2 a o (fun z => z.elim (fun z => by rw [z, htk0] at h; cases h) n) (k01 a o (fun z => z) h)) B2 (by omega) ex hf
def sy_turned (c : Cn) : Sp := fun vs H Q E => vs.length = 2 ∧ ∃ (b : Addr) (M : Addr → Prop) (gs : List Gm) (ds : List Int) (v : V), vs = [.ref b, v] ∧ BookAt c H b M gs ds ∧ BadV H gs.length v ∧ E (.ref c.cNoGame) none H
theorem q_turned {c : Cn} {mg : Str → Option Value} (T : Txt c mg) {vs : List V} {H : Hp} {Q : VK} {E : XK} (h : sy_turned c vs H Q E) : t_turned c E { nx := fun _ H' => Q .non H', rt := Q } (start N_turned vs) H := by
  obtain ⟨_, b, M, gs, ds, v, rfl, B, bd, k⟩ := h
  obtain ⟨bx, bm, bn, bdx, hb⟩ := B.ins_
  unfold t_turned
  repeat kaf_suf
  exact ⟨rfl, .inr ⟨rfl, b, M, gs, ds, v, rfl, B, bd, k⟩⟩
def sx_turned (c : Cn) : Sp := fun vs H Q E => vs.length = 2 ∧ (sp_turned c vs H Q E ∨ sy_turned c vs H Q E)
theorem calx_turned {c : Cn} {mg : Str → Option Value} {base : Heap} (T : Txt c mg) : Cal c.P c.w c.K mg base (L2.CX c.P c.w) 74 "turned" (sx_turned c) := by
  obtain ⟨f, fd, F, g, b⟩ := T.F_turned
  exact ⟨f, fd, ["book", "g"], F.okX (k := 73) (N := N_turned) sc_turned (fun vs H Q E h => h.1) (fun cdv A outer s H vs Q E hr h => ⟨t_turned c E, by
  exact (pss_cons (ps_expr (e_meth (metx_Book_depth T) hr (by decide) (passes_call (takes_of rfl rfl rfl rfl) fun _ _ _ _ z => z) (pv 0) (pa_cons (pv 1) pa_nil)))
  (pss_one (ps_ret (e_meth (met_Putting_turn T 70) hr (by decide) pass0 (e_make (mak_Putting T) hr (by decide) pass0 rfl (pa_cons (pv 0) pa_nil)) (pa_cons (pv 1) pa_nil))))), h.2.elim (p_turned T) (q_turned T)⟩), g, F.kp, b⟩
theorem cal_turned {c : Cn} {mg : Str → Option Value} {base : Heap} (T : Txt c mg) : Cal c.P c.w c.K mg base (L2.CX c.P c.w) 74 "turned" (sp_turned c) := by
  obtain ⟨f, fd, ps, F, g, kp, b⟩ := (calx_turned T).ex
  exact ⟨⟨f, fd, ps, F.imp fun vs H Q E h => ⟨h.1, .inl h⟩, g, kp, b⟩⟩

/-! games put together: the plain law -/
theorem mapO_append {α : Type} {f : α → Option Int} : ∀ {l l' : List α} {a b : List Int}, mapO f l = some a → mapO f l' = some b → mapO f (l ++ l') = some (a ++ b)
  | [], l', a, b, h, h' => by cases h; exact h'
  | x :: r, l', a, b, h, h' => by
    obtain ⟨y, c, h1, h2, rfl⟩ := mapO_cons.mp h
    exact mapO_cons.mpr ⟨y, c ++ b, h1, mapO_append h2 h', rfl⟩
theorem mapO_map {α β : Type} {f : β → Option Int} {g : α → β} : ∀ {l : List α}, mapO f (l.map g) = mapO (fun x => f (g x)) l
  | [] => rfl
  | x :: r => by
    show (f (g x)).bind _ = (f (g x)).bind _
    rw [mapO_map (l := r)]
/-- all lists behind a move of a side -/
def mvl (gs : List Gm) (s : Bool) : List Int → List (List Int)
  | [] => []
  | g :: r => (mvs gs g.toNat s).map (· :: r) ++ (mvl gs s r).map (g :: ·)
def mea (l : List Int) : Nat := (l.map Int.toNat).sum
def Rg (gs : List Gm) (l : List Int) : Prop := ∀ z ∈ l, 0 ≤ z ∧ z < gs.length
theorem mvl_cons {gs : List Gm} {s : Bool} {g : Int} {r m : List Int} : m ∈ mvl gs s (g :: r) ↔ (∃ g' ∈ mvs gs g.toNat s, m = g' :: r) ∨ ∃ r' ∈ mvl gs s r, m = g :: r' := by
  show m ∈ (mvs gs g.toNat s).map (· :: r) ++ (mvl gs s r).map (g :: ·) ↔ _
  rw [List.mem_append, List.mem_map, List.mem_map]
  constructor
  · rintro (⟨a, h, e⟩ | ⟨a, h, e⟩)
    · exact .inl ⟨a, h, e.symm⟩
    · exact .inr ⟨a, h, e.symm⟩
  · rintro (⟨a, h, e⟩ | ⟨a, h, e⟩)
    · exact .inl ⟨a, h, e.symm⟩
    · exact .inr ⟨a, h, e.symm⟩
theorem mvl_mea {gs : List Gm} (o : GOk gs) {s : Bool} : ∀ {l m : List Int}, m ∈ mvl gs s l → mea m < mea l
  | [], m, h => nomatch h
  | g :: r, m, h => by
    rcases mvl_cons.mp h with ⟨g', hg, rfl⟩ | ⟨r', hr, rfl⟩
    · have := mvs_low o hg
      simp only [mea, List.map_cons, List.sum_cons]; omega
    · have := mvl_mea o hr
      simp only [mea, List.map_cons, List.sum_cons] at this ⊢; omega
theorem mvl_rg {gs : List Gm} (o : GOk gs) {s : Bool} : ∀ {l m : List Int}, Rg gs l → m ∈ mvl gs s l → Rg gs m
  | [], m, _, h => nomatch h
  | g :: r, m, R, h => by
    have Rr : Rg gs r := fun z hz => R z (List.mem_cons_of_mem _ hz)
    rcases mvl_cons.mp h with ⟨g', hg, rfl⟩ | ⟨r', hr, rfl⟩
    · have := mvs_low o hg
      intro z hz
      rcases List.mem_cons.mp hz with rfl | hz
      · omega
      · exact Rr z hz
    · intro z hz
      rcases List.mem_cons.mp hz with rfl | hz
      · exact R z List.mem_cons_self
      · exact mvl_rg o Rr hr z hz
theorem mvl_app {gs f : List Gm} {s : Bool} : ∀ {l : List Int}, Rg gs l → mvl (gs ++ f) s l = mvl gs s l
  | [], _ => rfl
  | g :: r, R => by
    have Rr : Rg gs r := fun z hz => R z (List.mem_cons_of_mem _ hz)
    have := R g List.mem_cons_self
    show (mvs (gs ++ f) g.toNat s).map (· :: r) ++ (mvl (gs ++ f) s r).map (g :: ·) = (mvs gs g.toNat s).map (· :: r) ++ (mvl gs s r).map (g :: ·)
    rw [mvl_app Rr, mvs_more (by omega)]
theorem mvl_perm {gs : List Gm} {s : Bool} {l l' : List Int} (p : l.Perm l') : ∀ m ∈ mvl gs s l, ∃ m' ∈ mvl gs s l', m.Perm m' := by
  induction p with
  | nil => intro m h; exact nomatch h
  | @cons x l l' p ih =>
    intro m h
    rcases mvl_cons.mp h with ⟨g', hg, rfl⟩ | ⟨r', hr, rfl⟩
    · exact ⟨g' :: l', mvl_cons.mpr (.inl ⟨g', hg, rfl⟩), p.cons _⟩
    · obtain ⟨m', hm, pm⟩ := ih r' hr
      exact ⟨x :: m', mvl_cons.mpr (.inr ⟨m', hm, rfl⟩), pm.cons _⟩
  | swap x y l =>
    intro m h
    rcases mvl_cons.mp h with ⟨g', hg, rfl⟩ | ⟨r', hr, rfl⟩
    · exact ⟨x :: g' :: l, mvl_cons.mpr (.inr ⟨g' :: l, mvl_cons.mpr (.inl ⟨g', hg, rfl⟩), rfl⟩), List.Perm.swap _ _ _⟩
    · rcases mvl_cons.mp hr with ⟨g', hg, rfl⟩ | ⟨r2, hr2, rfl⟩
      · exact ⟨g' :: y :: l, mvl_cons.mpr (.inl ⟨g', hg, rfl⟩), List.Perm.swap _ _ _⟩
      · exact ⟨x :: y :: r2, mvl_cons.mpr (.inr ⟨y :: r2, mvl_cons.mpr (.inr ⟨r2, hr2, rfl⟩), rfl⟩), List.Perm.swap _ _ _⟩
  | trans _ _ ih1 ih2 =>
    intro m h
    obtain ⟨m1, h1, p1⟩ := ih1 m h
    obtain ⟨m2, h2, p2⟩ := ih2 m1 h1
    exact ⟨m2, h2, p1.trans p2⟩
theorem mvl_snoc {gs : List Gm} {s : Bool} {c : Int} : ∀ {l m : List Int}, m ∈ mvl gs s (l ++ [c]) ↔ (∃ m1 ∈ mvl gs s l, m = m1 ++ [c]) ∨ ∃ c' ∈ mvs gs c.toNat s, m = l ++ [c']
  | [], m => by
    rw [List.nil_append, mvl_cons]
    constructor
    · rintro (⟨a, h, e⟩ | ⟨a, h, e⟩)
      · exact .inr ⟨a, h, e⟩
      · exact nomatch h
    · rintro (⟨a, h, e⟩ | ⟨a, h, e⟩)
      · exact nomatch h
      · exact .inl ⟨a, h, e⟩
  | g :: r, m => by
    rw [List.cons_append, mvl_cons]
    constructor
    · rintro (⟨a, h, rfl⟩ | ⟨a, h, rfl⟩)
      · exact .inl ⟨a :: r, mvl_cons.mpr (.inl ⟨a, h, rfl⟩), rfl⟩
      · rcases mvl_snoc.mp h with ⟨m1, h1, rfl⟩ | ⟨c', h1, rfl⟩
        · exact .inl ⟨g :: m1, mvl_cons.mpr (.inr ⟨m1, h1, rfl⟩), rfl⟩
        · exact .inr ⟨c', h1, rfl⟩
    · rintro (⟨m1, h, rfl⟩ | ⟨c', h, rfl⟩)
      · rcases mvl_cons.mp h with ⟨a, ha, rfl⟩ | ⟨a, ha, rfl⟩
        · exact .inl ⟨a, ha, rfl⟩
        · exact .inr ⟨a ++ [c], mvl_snoc.mpr (.inl ⟨a, ha, rfl⟩), rfl⟩
      · exact .inr ⟨r ++ [c'], mvl_snoc.mpr (.inr ⟨c', h, rfl⟩), rfl⟩
def ms (gs : List Gm) : Nat → List Int → Option Int
  | 0, _ => none
  | n + 1, l => (mapO (ms gs n) (mvl gs true l)).bind fun a => (mapO (ms gs n) (mvl gs false l)).bind fun b => look gs (canon a, canon b)
def sm (gs : List Gm) (l : List Int) : Option Int := ms gs (mea l + 1) l
theorem ms_more {gs : List Gm} (o : GOk gs) : ∀ (n k : Nat) (l : List Int), mea l < n → n ≤ k → ms gs k l = ms gs n l
  | 0, _, _, h, _ => by omega
  | n + 1, 0, _, _, h => by omega
  | n + 1, k + 1, l, h, hk => by
    show (mapO (ms gs k) _).bind _ = (mapO (ms gs n) _).bind _
    have e : ∀ s, mapO (ms gs k) (mvl gs s l) = mapO (ms gs n) (mvl gs s l) := fun s => mapO_congr fun m hm => ms_more o n k m (by have := mvl_mea o hm; omega) (by omega)
    rw [e, e]
theorem sm_eq {gs : List Gm} (o : GOk gs) (l : List Int) : sm gs l = (mapO (sm gs) (mvl gs true l)).bind fun a => (mapO (sm gs) (mvl gs false l)).bind fun b => look gs (canon a, canon b) := by
  show (mapO (ms gs (mea l)) _).bind _ = _
  have e : ∀ s, mapO (ms gs (mea l)) (mvl gs s l) = mapO (sm gs) (mvl gs s l) := fun s => mapO_congr fun m hm => ms_more o (mea m + 1) (mea l) m (by omega) (by have := mvl_mea o hm; omega)
  rw [e, e]
theorem sm_some {gs : List Gm} (o : GOk gs) {l : List Int} {x : Int} (h : sm gs l = some x) : ∃ a b, mapO (sm gs) (mvl gs true l) = some a ∧ mapO (sm gs) (mvl gs false l) = some b ∧ 0 ≤ x ∧ gs[x.toNat]? = some (canon a, canon b) ∧ look gs (canon a, canon b) = some x := by
  rw [sm_eq o] at h
  obtain ⟨a, b, h1, h2, h3⟩ := bind3.mp h
  exact ⟨a, b, h1, h2, (look_get h3).1, (look_get h3).2, h3⟩
theorem ms_app {gs f : List Gm} (o : GOk gs) : ∀ (n : Nat) (l : List Int) (x : Int), Rg gs l → ms gs n l = some x → ms (gs ++ f) n l = some x
  | 0, _, _, _, h => nomatch h
  | n + 1, l, x, R, h => by
    obtain ⟨a, b, h1, h2, h3⟩ := bind3.mp (show (mapO (ms gs n) (mvl gs true l)).bind (fun a => (mapO (ms gs n) (mvl gs false l)).bind fun b => look gs (canon a, canon b)) = some x from h)
    show (mapO (ms (gs ++ f) n) (mvl (gs ++ f) true l)).bind _ = some x
    rw [mvl_app R, mvl_app R]
    exact bind3.mpr ⟨a, b, mapO_mono (fun y hy z => ms_app o n y z (mvl_rg o R hy)) h1, mapO_mono (fun y hy z => ms_app o n y z (mvl_rg o R hy)) h2, look_app h3⟩
theorem sm_app {gs f : List Gm} (o : GOk gs) {l : List Int} {x : Int} (R : Rg gs l) (h : sm gs l = some x) : sm (gs ++ f) l = some x := ms_app o _ _ _ R h
theorem sm_lt {gs : List Gm} (o : GOk gs) {l : List Int} {x : Int} (h : sm gs l = some x) : 0 ≤ x ∧ x < gs.length := by
  obtain ⟨_, _, _, _, z0, z1, _⟩ := sm_some o h
  have := (List.getElem?_eq_some_iff.mp z1).1
  omega
theorem canon_same {a b : List Int} (h : ∀ z, z ∈ a ↔ z ∈ b) : canon a = canon b := canon_eq (canon_up a) fun z => by rw [canon_mem, h]
theorem sm_perm {gs : List Gm} (o : GOk gs) : ∀ (n : Nat) (l l' : List Int) (x : Int), mea l < n → l.Perm l' → sm gs l = some x → sm gs l' = some x
  | 0, _, _, _, h, _, _ => by omega
  | n + 1, l, l', x, hn, p, h => by
    obtain ⟨a, b, h1, h2, _, _, h3⟩ := sm_some o h
    have go : ∀ (s : Bool) (a : List Int), mapO (sm gs) (mvl gs s l) = some a → ∃ a', mapO (sm gs) (mvl gs s l') = some a' ∧ canon a' = canon a := fun s a ha => by
      obtain ⟨a', ha'⟩ := mapO_def (f := sm gs) (l := mvl gs s l') fun m' hm' => by
        obtain ⟨m, hm, pm⟩ := mvl_perm p.symm m' hm'
        obtain ⟨z, hz⟩ := mapO_all ha m hm
        exact ⟨z, sm_perm o n m m' z (by have := mvl_mea o hm; omega) pm.symm hz⟩
      refine ⟨a', ha', canon_same fun z => ?_⟩
      rw [mapO_mem ha', mapO_mem ha]
      constructor
      · rintro ⟨m', hm', ez⟩
        obtain ⟨m, hm, pm⟩ := mvl_perm p.symm m' hm'
        obtain ⟨w, hw⟩ := mapO_all ha m hm
        have := sm_perm o n m m' w (by have := mvl_mea o hm; omega) pm.symm hw
        rw [this] at ez
        cases ez
        exact ⟨m, hm, hw⟩
      · rintro ⟨m, hm, ez⟩
        obtain ⟨m', hm', pm⟩ := mvl_perm p m hm
        exact ⟨m', hm', sm_perm o n m m' z (by have := mvl_mea o hm; omega) pm ez⟩
    obtain ⟨a', ha', ca⟩ := go true a h1
    obtain ⟨b', hb', cb⟩ := go false b h2
    rw [sm_eq o]
    exact bind3.mpr ⟨a', b', ha', hb', by rw [ca, cb]; exact h3⟩
theorem sm_nil {gs : List Gm} (o : GOk gs) : sm gs [] = some 0 := by
  rw [sm_eq o]
  exact bind3.mpr ⟨[], [], rfl, rfl, look_of o.nd o.zero⟩
theorem mvs_up {gs : List Gm} (o : GOk gs) {g : Nat} {s : Bool} : (mvs gs g s).Pairwise (· < ·) := by
  unfold mvs
  cases e : gs[g]? with
  | none => exact List.Pairwise.nil
  | some x =>
    have := o.up x (List.mem_of_getElem? e)
    cases s
    · exact this.2
    · exact this.1
theorem mapO_id {f : Int → Option Int} : ∀ {l : List Int}, (∀ x ∈ l, f x = some x) → mapO f l = some l
  | [], _ => rfl
  | y :: r, h => mapO_cons.mpr ⟨y, r, h y List.mem_cons_self, mapO_id fun x hx => h x (List.mem_cons_of_mem _ hx), rfl⟩
theorem sm_one {gs : List Gm} (o : GOk gs) : ∀ (n : Nat) (g : Nat), g < n → g < gs.length → sm gs [(g : Int)] = some (g : Int)
  | 0, _, h, _ => by omega
  | n + 1, g, hn, hg => by
    have e1 : ∀ s, mapO (sm gs) (mvl gs s [(g : Int)]) = some (mvs gs g s) := fun s => by
      have : mvl gs s [(g : Int)] = (mvs gs g s).map fun m => [m] := by
        show (mvs gs (g : Int).toNat s).map _ ++ [] = _
        rw [Int.toNat_natCast, List.append_nil]
      rw [this, mapO_map]
      refine mapO_id fun m hm => ?_
      obtain ⟨m0, m1, _⟩ := mvs_low o hm
      obtain ⟨k, rfl⟩ := Int.eq_ofNat_of_zero_le m0
      exact sm_one o n k (by omega) (by omega)
    rw [sm_eq o]
    refine bind3.mpr ⟨_, _, e1 true, e1 false, ?_⟩
    rw [canon_self (mvs_up o), canon_self (mvs_up o)]
    refine look_of o.nd ?_
    have e := List.getElem?_eq_getElem hg
    unfold mvs
    rw [e]; rfl
theorem mvs_canon {gs : List Gm} {x : Int} {a b : List Int} (h : gs[x.toNat]? = some (canon a, canon b)) (s : Bool) : mvs gs x.toNat s = canon (if s then a else b) := by
  unfold mvs; rw [h]; cases s <;> rfl
/-- one game more put to them -/
theorem sm_snoc {gs : List Gm} (o : GOk gs) : ∀ (n : Nat) (l : List Int) (c x u : Int), mea (l ++ [c]) < n → sm gs l = some x → sm gs [x, c] = some u → sm gs (l ++ [c]) = some u
  | 0, _, _, _, _, h, _, _ => by omega
  | n + 1, l, c, x, u, hn, h, h' => by
    obtain ⟨a, b, a1, b1, x0, xe, _⟩ := sm_some o h
    obtain ⟨a', b', a2, b2, _, _, h3⟩ := sm_some o h'
    have low : ∀ {s m}, m ∈ mvl gs s (l ++ [c]) → mea m < n := fun hm => by have := mvl_mea o hm; omega
    have go : ∀ (s : Bool) (p q : List Int), mapO (sm gs) (mvl gs s l) = some p → mvs gs x.toNat s = canon p → mapO (sm gs) (mvl gs s [x, c]) = some q → ∃ r, mapO (sm gs) (mvl gs s (l ++ [c])) = some r ∧ canon r = canon q := fun s p q hp hx hq => by
      have one : ∀ m1 ∈ mvl gs s l, ∀ y, sm gs m1 = some y → ∃ w, sm gs [y, c] = some w ∧ sm gs (m1 ++ [c]) = some w := fun m1 hm y hy => by
        have hy' : y ∈ mvs gs x.toNat s := by rw [hx, canon_mem, mapO_mem hp]; exact ⟨m1, hm, hy⟩
        obtain ⟨w, hw⟩ := mapO_all hq [y, c] (mvl_cons.mpr (.inl ⟨y, hy', rfl⟩))
        exact ⟨w, hw, sm_snoc o n m1 c y w (low (mvl_snoc.mpr (.inl ⟨m1, hm, rfl⟩))) hy hw⟩
      have two : ∀ c' ∈ mvs gs c.toNat s, ∃ w, sm gs [x, c'] = some w ∧ sm gs (l ++ [c']) = some w := fun c' hc => by
        have mm : [x, c'] ∈ mvl gs s [x, c] := mvl_cons.mpr (.inr ⟨[c'], mvl_cons.mpr (.inl ⟨c', hc, rfl⟩), rfl⟩)
        obtain ⟨w, hw⟩ := mapO_all hq [x, c'] mm
        exact ⟨w, hw, sm_snoc o n l c' x w (low (mvl_snoc.mpr (.inr ⟨c', hc, rfl⟩))) h hw⟩
      obtain ⟨r, hr⟩ := mapO_def (f := sm gs) (l := mvl gs s (l ++ [c])) fun m hm => by
        rcases mvl_snoc.mp hm with ⟨m1, h1, rfl⟩ | ⟨c', h1, rfl⟩
        · obtain ⟨y, hy⟩ := mapO_all hp m1 h1
          obtain ⟨w, _, hw⟩ := one m1 h1 y hy
          exact ⟨w, hw⟩
        · obtain ⟨w, _, hw⟩ := two c' h1
          exact ⟨w, hw⟩
      refine ⟨r, hr, canon_same fun z => ?_⟩
      rw [mapO_mem hr, mapO_mem hq]
      constructor
      · rintro ⟨m, hm, ez⟩
        rcases mvl_snoc.mp hm with ⟨m1, h1, rfl⟩ | ⟨c', h1, rfl⟩
        · obtain ⟨y, hy⟩ := mapO_all hp m1 h1
          obtain ⟨w, hw1, hw⟩ := one m1 h1 y hy
          rw [hw] at ez; cases ez
          have hy' : y ∈ mvs gs x.toNat s := by rw [hx, canon_mem, mapO_mem hp]; exact ⟨m1, h1, hy⟩
          exact ⟨[y, c], mvl_cons.mpr (.inl ⟨y, hy', rfl⟩), hw1⟩
        · obtain ⟨w, hw1, hw⟩ := two c' h1
          rw [hw] at ez; cases ez
          exact ⟨[x, c'], mvl_cons.mpr (.inr ⟨[c'], mvl_cons.mpr (.inl ⟨c', h1, rfl⟩), rfl⟩), hw1⟩
      · rintro ⟨m, hm, ez⟩
        rcases mvl_cons.mp hm with ⟨y, hy, rfl⟩ | ⟨r', hr', rfl⟩
        · rw [hx, canon_mem, mapO_mem hp] at hy
          obtain ⟨m1, h1, hy⟩ := hy
          obtain ⟨w, hw1, hw⟩ := one m1 h1 y hy
          rw [hw1] at ez; cases ez
          exact ⟨m1 ++ [c], mvl_snoc.mpr (.inl ⟨m1, h1, rfl⟩), hw⟩
        · rcases mvl_cons.mp hr' with ⟨c', hc, rfl⟩ | ⟨_, z, _⟩
          · obtain ⟨w, hw1, hw⟩ := two c' hc
            rw [hw1] at ez; cases ez
            exact ⟨l ++ [c'], mvl_snoc.mpr (.inr ⟨c', hc, rfl⟩), hw⟩
          · exact nomatch z
    obtain ⟨r1, hr1, c1⟩ := go true a a' a1 (mvs_canon xe true) a2
    obtain ⟨r2, hr2, c2⟩ := go false b b' b1 (mvs_canon xe false) b2
    rw [sm_eq o]
    exact bind3.mpr ⟨r1, r2, hr1, hr2, by rw [c1, c2]; exact h3⟩
/-- depths add -/
def dsum (ds l : List Int) : Int := (l.map fun z => ds[z.toNat]?.getD 0).sum
theorem dsum_le {gs : List Gm} {ds : List Int} (o : GOk gs) (d : DOk gs ds) {s : Bool} : ∀ {l m : List Int}, m ∈ mvl gs s l → dsum ds m + 1 ≤ dsum ds l
  | [], m, h => nomatch h
  | g :: r, m, h => by
    rcases mvl_cons.mp h with ⟨g', hg, rfl⟩ | ⟨r', hr, rfl⟩
    · obtain ⟨m0, m1, m2⟩ := mvs_low o hg
      obtain ⟨dg, hd⟩ : ∃ v, ds[g.toNat]? = some v := ⟨_, List.getElem?_eq_getElem (by have := d.len; omega)⟩
      have e := List.getElem?_eq_getElem m2
      have hm : g' ∈ (gs[g.toNat]).1 ++ (gs[g.toNat]).2 := by
        unfold mvs at hg; rw [e] at hg
        cases s
        · exact List.mem_append_right _ (by simpa using hg)
        · exact List.mem_append_left _ (by simpa using hg)
      obtain ⟨dm, hdm, le⟩ := d.move o e hd hm
      simp only [dsum, List.map_cons, List.sum_cons, hd, hdm, Option.getD_some]; omega
    · have := dsum_le o d hr
      simp only [dsum, List.map_cons, List.sum_cons] at this ⊢; omega
theorem dsum_ex {gs : List Gm} {ds : List Int} (o : GOk gs) (d : DOk gs ds) : ∀ {l : List Int}, Rg gs l → mvl gs true l ++ mvl gs false l ≠ [] → ∃ m ∈ mvl gs true l ++ mvl gs false l, dsum ds m + 1 = dsum ds l
  | [], _, h => absurd rfl h
  | g :: r, R, h => by
    have hg := R g List.mem_cons_self
    have Rr : Rg gs r := fun z hz => R z (List.mem_cons_of_mem _ hz)
    have e := List.getElem?_eq_getElem (l := gs) (i := g.toNat) (by omega)
    obtain ⟨dg, hd⟩ : ∃ v, ds[g.toNat]? = some v := ⟨_, List.getElem?_eq_getElem (by have := d.len; omega)⟩
    obtain ⟨p1, p2, p3⟩ := d.at_ _ _ dg e hd
    by_cases z : (gs[g.toNat]).1 ++ (gs[g.toNat]).2 = []
    · have z' := List.append_eq_nil_iff.mp z
      have m1 : ∀ s, mvs gs g.toNat s = [] := fun s => by unfold mvs; rw [e]; cases s <;> simp [z']
      have h' : mvl gs true r ++ mvl gs false r ≠ [] := fun w => h (by
        have w' := List.append_eq_nil_iff.mp w
        simp [mvl, m1, w'])
      obtain ⟨m, hm, em⟩ := dsum_ex o d Rr h'
      refine ⟨g :: m, ?_, by simp only [dsum, List.map_cons, List.sum_cons] at em ⊢; omega⟩
      rcases List.mem_append.mp hm with hm | hm
      · exact List.mem_append_left _ (mvl_cons.mpr (.inr ⟨m, hm, rfl⟩))
      · exact List.mem_append_right _ (mvl_cons.mpr (.inr ⟨m, hm, rfl⟩))
    · obtain ⟨u, hu, eu⟩ := p3 z
      obtain ⟨m, hm, em⟩ := List.mem_map.mp hu
      refine ⟨m :: r, ?_, ?_⟩
      · rcases List.mem_append.mp hm with hm | hm
        · exact List.mem_append_left _ (mvl_cons.mpr (.inl ⟨m, by unfold mvs; rw [e]; exact hm, rfl⟩))
        · exact List.mem_append_right _ (mvl_cons.mpr (.inl ⟨m, by unfold mvs; rw [e]; exact hm, rfl⟩))
      · simp only [dsum, List.map_cons, List.sum_cons, hd, Option.getD_some]
        rw [em]; omega
theorem dsum_zero {gs : List Gm} {ds : List Int} (o : GOk gs) (d : DOk gs ds) : ∀ {l : List Int}, Rg gs l → mvl gs true l ++ mvl gs false l = [] → dsum ds l = 0
  | [], _, _ => rfl
  | g :: r, R, h => by
    have hg := R g List.mem_cons_self
    have Rr : Rg gs r := fun z hz => R z (List.mem_cons_of_mem _ hz)
    have e := List.getElem?_eq_getElem (l := gs) (i := g.toNat) (by omega)
    obtain ⟨dg, hd⟩ : ∃ v, ds[g.toNat]? = some v := ⟨_, List.getElem?_eq_getElem (by have := d.len; omega)⟩
    obtain ⟨p1, _, _⟩ := d.at_ _ _ dg e hd
    obtain ⟨h1, h2⟩ := List.append_eq_nil_iff.mp h
    replace h1 : (mvs gs g.toNat true).map (· :: r) ++ (mvl gs true r).map (g :: ·) = [] := h1
    replace h2 : (mvs gs g.toNat false).map (· :: r) ++ (mvl gs false r).map (g :: ·) = [] := h2
    obtain ⟨h3, h4⟩ := List.append_eq_nil_iff.mp h1
    obtain ⟨h5, h6⟩ := List.append_eq_nil_iff.mp h2
    have k1 : mvs gs g.toNat true = [] := List.map_eq_nil_iff.mp h3
    have k2 : mvs gs g.toNat false = [] := List.map_eq_nil_iff.mp h5
    unfold mvs at k1 k2
    rw [e] at k1 k2
    have z : (gs[g.toNat]).1 ++ (gs[g.toNat]).2 = [] := by
      have a : (gs[g.toNat]).1 = [] := k1
      have b : (gs[g.toNat]).2 = [] := k2
      rw [a, b]; rfl
    have := dsum_zero o d Rr (by rw [List.map_eq_nil_iff.mp h4, List.map_eq_nil_iff.mp h6]; rfl)
    simp only [dsum, List.map_cons, List.sum_cons, hd, Option.getD_some] at this ⊢
    rw [p1 z]; omega
theorem sm_depth {gs : List Gm} {ds : List Int} (o : GOk gs) (d : DOk gs ds) : ∀ (n : Nat) (l : List Int) (x : Int), mea l < n → Rg gs l → sm gs l = some x → ds[x.toNat]? = some (dsum ds l)
  | 0, _, _, h, _, _ => by omega
  | n + 1, l, x, hn, R, h => by
    obtain ⟨a, b, h1, h2, x0, ex, _⟩ := sm_some o h
    have lx := (List.getElem?_eq_some_iff.mp ex).1
    obtain ⟨dx, hdx⟩ : ∃ v, ds[x.toNat]? = some v := ⟨_, List.getElem?_eq_getElem (by have := d.len; omega)⟩
    obtain ⟨q1, q2, q3⟩ := d.at_ _ _ dx ex hdx
    have ih : ∀ s m, m ∈ mvl gs s l → ∀ z, sm gs m = some z → ds[z.toNat]? = some (dsum ds m) := fun s m hm z hz => sm_depth o d n m z (by have := mvl_mea o hm; omega) (mvl_rg o R hm) hz
    have mem : ∀ z, z ∈ canon a ++ canon b → ∃ m ∈ mvl gs true l ++ mvl gs false l, sm gs m = some z := fun z hz => by
      rcases List.mem_append.mp hz with hz | hz
      · obtain ⟨m, hm, e⟩ := (mapO_mem h1 z).mp (canon_mem.mp hz)
        exact ⟨m, List.mem_append_left _ hm, e⟩
      · obtain ⟨m, hm, e⟩ := (mapO_mem h2 z).mp (canon_mem.mp hz)
        exact ⟨m, List.mem_append_right _ hm, e⟩
    have mem' : ∀ m ∈ mvl gs true l ++ mvl gs false l, ∃ z ∈ canon a ++ canon b, sm gs m = some z := fun m hm => by
      rcases List.mem_append.mp hm with hm | hm
      · obtain ⟨z, e⟩ := mapO_all h1 m hm
        exact ⟨z, List.mem_append_left _ (canon_mem.mpr ((mapO_mem h1 z).mpr ⟨m, hm, e⟩)), e⟩
      · obtain ⟨z, e⟩ := mapO_all h2 m hm
        exact ⟨z, List.mem_append_right _ (canon_mem.mpr ((mapO_mem h2 z).mpr ⟨m, hm, e⟩)), e⟩
    have ih' : ∀ m ∈ mvl gs true l ++ mvl gs false l, ∀ z, sm gs m = some z → ds[z.toNat]? = some (dsum ds m) := fun m hm z hz => by
      rcases List.mem_append.mp hm with hm | hm
      · exact ih _ m hm z hz
      · exact ih _ m hm z hz
    have le' : ∀ m ∈ mvl gs true l ++ mvl gs false l, dsum ds m + 1 ≤ dsum ds l := fun m hm => by
      rcases List.mem_append.mp hm with hm | hm
      · exact dsum_le o d hm
      · exact dsum_le o d hm
    rw [hdx]
    refine congrArg some ?_
    by_cases z : mvl gs true l ++ mvl gs false l = []
    · rw [dsum_zero o d R z]
      refine q1 (List.eq_nil_iff_forall_not_mem.mpr fun y hy => ?_)
      obtain ⟨m, hm, _⟩ := mem y hy
      rw [z] at hm; cases hm
    · obtain ⟨m, hm, em⟩ := dsum_ex o d R z
      obtain ⟨y, hy, ey⟩ := mem' m hm
      have dy := ih' m hm y ey
      have p1 := q2 _ (List.mem_map.mpr ⟨y, hy, rfl⟩)
      rw [dy] at p1
      simp only [Option.getD_some] at p1
      obtain ⟨u, hu, eu⟩ := q3 (List.ne_nil_of_mem hy)
      obtain ⟨w, hw, ew⟩ := List.mem_map.mp hu
      obtain ⟨m2, hm2, ew2⟩ := mem w hw
      have dw := ih' m2 hm2 w ew2
      rw [dw] at ew
      simp only [Option.getD_some] at ew
      have := le' m2 hm2
      omega

/-! sums in a Putting -/
def k2 (p q : Int) : NestedKey := .tup [.num p, .num q]
theorem k2_inj {p q p' q' : Int} (h : k2 p q = k2 p' q') : p = p' ∧ q = q' := by
  unfold k2 at h
  injection h with h
  injection h with h1 h2
  injection h1 with h1
  injection h2 with h2 _
  injection h2 with h2
  exact ⟨h1, h2⟩
theorem k2_depth (p q : Int) : (k2 p q).depth ≤ 8 := by
  unfold k2
  simp only [NestedKey.depth, NestedKey.depthAll]; omega
theorem k2_nk {H : Hp} {t : Addr} {p q : Int} (h : H t = some (.tup [.int p, .int q])) : NkV H (k2 p q) (.ref t) := by
  unfold k2
  simp only [NkV]
  refine ⟨t, _, rfl, h, ?_⟩
  simp only [NkVs, NkV]
  exact ⟨_, _, rfl, rfl, _, _, rfl, rfl, rfl⟩
def Cl (gs : List Gm) (A : List Int) : Prop := Rg gs A ∧ ∀ p ∈ A, ∀ s, ∀ m ∈ mvs gs p.toNat s, m ∈ A
theorem Cl.more {gs f : List Gm} {A : List Int} (h : Cl gs A) : Cl (gs ++ f) A := ⟨fun z hz => by have := h.1 z hz; rw [List.length_append]; omega, fun p hp s m hm => by
  have := h.1 p hp
  rw [mvs_more (by omega)] at hm
  exact h.2 p hp s m hm⟩
structure SOk (gs : List Gm) (A B : List Int) (xs : List NX) : Prop where
  nd : (xs.map (·.1)).Nodup
  at_ : ∀ x ∈ xs, ∃ p q y, p ∈ A ∧ q ∈ B ∧ x.1 = k2 p q ∧ x.2.2 = .int y ∧ sm gs [p, q] = some y
theorem SOk.nil {gs : List Gm} {A B : List Int} : SOk gs A B [] := ⟨List.nodup_nil, fun _ h => nomatch h⟩
theorem rg_two {gs : List Gm} {A B : List Int} (a : Rg gs A) (b : Rg gs B) {p q : Int} (hp : p ∈ A) (hq : q ∈ B) : Rg gs [p, q] := fun z hz => by
  rcases List.mem_cons.mp hz with rfl | hz
  · exact a _ hp
  · cases List.mem_singleton.mp hz; exact b _ hq
theorem SOk.more {gs f : List Gm} {A B : List Int} {xs : List NX} (o : GOk gs) (ra : Rg gs A) (rb : Rg gs B) (k : SOk gs A B xs) : SOk (gs ++ f) A B xs := ⟨k.nd, fun x hx => by
  obtain ⟨p, q, y, h1, h2, h3, h4, h5⟩ := k.at_ x hx
  exact ⟨p, q, y, h1, h2, h3, h4, sm_app o (rg_two ra rb h1 h2) h5⟩⟩
theorem SOk.len {gs : List Gm} {A B : List Int} {xs : List NX} (k : SOk gs A B xs) : xs.length ≤ A.length * B.length := by
  have := nodup_le (xs.map (·.1)) (A.flatMap fun p => B.map fun q => k2 p q) k.nd fun x hx => by
    obtain ⟨y, hy, rfl⟩ := List.mem_map.mp hx
    obtain ⟨p, q, _, h1, h2, e, _⟩ := k.at_ y hy
    rw [e]
    exact List.mem_flatMap.mpr ⟨p, h1, List.mem_map.mpr ⟨q, h2, rfl⟩⟩
  rw [List.length_map] at this
  have e : (A.flatMap fun p => B.map fun q => k2 p q).length = A.length * B.length := by
    clear this
    induction A with
    | nil => simp
    | cons a r ih =>
      have k' : (List.flatMap (fun p => B.map fun q => k2 p q) (a :: r)).length = B.length + (List.flatMap (fun p => B.map fun q => k2 p q) r).length := by simp [List.flatMap_cons]
      have ih' : (List.flatMap (fun p => B.map fun q => k2 p q) r).length = r.length * B.length := by
        have : ∀ l : List Int, (List.flatMap (fun p => B.map fun q => k2 p q) l).length = l.length * B.length := fun l => by
          induction l with
          | nil => simp
          | cons b t ih => simp [List.flatMap_cons, ih, Nat.succ_mul, Nat.add_comm]
        exact this r
      rw [k', ih', List.length_cons, Nat.succ_mul, Nat.add_comm]
  omega
theorem SOk.val {gs : List Gm} {A B : List Int} {xs : List NX} (k : SOk gs A B xs) {p q : Int} {v : V} (h : nval xs (k2 p q) = some v) : ∃ y, v = .int y ∧ sm gs [p, q] = some y := by
  obtain ⟨x, hx, e, rfl⟩ := nval_mem h
  obtain ⟨p', q', y, _, _, e', hv, hs⟩ := k.at_ x hx
  obtain ⟨rfl, rfl⟩ := k2_inj (e.symm.trans e')
  exact ⟨y, hv, hs⟩
theorem SOk.put {gs : List Gm} {A B : List Int} {xs : List NX} (k : SOk gs A B xs) {p q y : Int} {a : Addr} (hp : p ∈ A) (hq : q ∈ B) (hs : sm gs [p, q] = some y) : SOk gs A B (nput xs (k2 p q) a (.int y)) := by
  unfold nput
  split
  · refine ⟨?_, fun x hx => ?_⟩
    · rw [List.map_map]
      have : (xs.map ((fun x : NX => x.1) ∘ fun x => if x.1 = k2 p q then (x.1, x.2.1, V.int y) else x)) = xs.map (·.1) := by
        refine List.map_congr_left fun x _ => ?_
        simp only [Function.comp]
        split <;> rfl
      rw [this]; exact k.nd
    · obtain ⟨z, hz, rfl⟩ := List.mem_map.mp hx
      split
      · rename_i e
        exact ⟨p, q, y, hp, hq, e, rfl, hs⟩
      · exact k.at_ z hz
  · rename_i h
    have h0 : nval xs (k2 p q) = none := by
      cases e : nval xs (k2 p q) with
      | none => rfl
      | some v => rw [e] at h; simp at h
    refine ⟨?_, fun x hx => ?_⟩
    · rw [List.map_append, List.nodup_append]
      refine ⟨k.nd, by simp, fun x hx z hz => ?_⟩
      obtain ⟨w, hw, rfl⟩ := List.mem_map.mp hx
      simp at hz
      subst hz
      exact nval_none h0 w hw
    · rcases List.mem_append.mp hx with hx | hx
      · exact k.at_ x hx
      · cases List.mem_singleton.mp hx
        exact ⟨p, q, y, hp, hq, rfl, rfl, hs⟩
theorem nput_len' (xs : List NX) (k : NestedKey) (b : Addr) (v : V) : xs.length ≤ (nput xs k b v).length := by
  unfold nput; split <;> simp
structure SumAt (c : Cn) (H : Hp) (tk sk : Addr) (M : Addr → Prop) (gs : List Gm) (A B : List Int) (xs : List NX) : Prop where
  N : NdAt c.P c.w H sk xs
  ok : SOk gs A B xs
  nm : ¬ M sk
  nt : sk ≠ tk
theorem SumAt.keep {c : Cn} {H H' : Hp} {tk sk : Addr} {M W : Addr → Prop} {gs f : List Gm} {A B : List Int} {xs : List NX} (o : GOk gs) (ra : Rg gs A) (rb : Rg gs B) (t : SumAt c H tk sk M gs A B xs) (k : Keep W H H') (n : ∀ x, W x → ∀ l, H x ≠ some (.tup l)) (ns : ¬ W sk) : SumAt c H' tk sk M (gs ++ f) A B xs :=
  ⟨⟨k _ _ ns t.N.here, fun x hx => ⟨NkV.keeps (fun q ys e => k _ _ (fun z => n q z _ e) e) _ _ (t.N.keys x hx).1, (t.N.keys x hx).2⟩⟩, t.ok.more o ra rb, t.nm, t.nt⟩
theorem SumAt.same {c : Cn} {H H' : Hp} {tk sk : Addr} {M : Addr → Prop} {gs : List Gm} {A B : List Int} {xs : List NX} (t : SumAt c H tk sk M gs A B xs) (k : Keep Nil H H') : SumAt c H' tk sk M gs A B xs :=
  ⟨⟨k _ _ (fun z => z) t.N.here, fun x hx => ⟨NkV.keeps (fun q ys e => k _ _ (fun z => z) e) _ _ (t.N.keys x hx).1, (t.N.keys x hx).2⟩⟩, t.ok, t.nm, t.nt⟩
theorem SumAt.list {c : Cn} {H : Hp} {tk sk D : Addr} {M : Addr → Prop} {gs : List Gm} {A B : List Int} {xs : List NX} (t : SumAt c H tk sk M gs A B xs) {l : List V} (h : H D = some (.lst l)) {l' : List V} : SumAt c (upd H D (.lst l')) tk sk M gs A B xs := by
  have ne : sk ≠ D := fun z => by have := t.N.here; rw [z, h] at this; unfold NdO at this; cases this
  exact ⟨⟨get_set ne t.N.here, fun x hx => ⟨NkV.keeps (fun q ys e => get_set (lt_ne h e) e) _ _ (t.N.keys x hx).1, (t.N.keys x hx).2⟩⟩, t.ok, t.nm, t.nt⟩
theorem mvl_two {gs : List Gm} {s : Bool} {g h : Int} : mvl gs s [g, h] = (mvs gs g.toNat s).map (fun m => [m, h]) ++ (mvs gs h.toNat s).map fun m => [g, m] := by
  show (mvs gs g.toNat s).map _ ++ ((mvs gs h.toNat s).map _ ++ []).map _ = _
  rw [List.append_nil, List.map_map]; rfl
theorem mvs_len2 {gs : List Gm} (o : GOk gs) {A : List Int} (cl : Cl gs A) {g : Nat} (hg : (g : Int) ∈ A) (s : Bool) : (mvs gs g s).length ≤ A.length := by
  refine nodup_le _ _ ((mvs_up o).imp fun h e => by omega) fun m hm => cl.2 _ hg s m (by rw [Int.toNat_natCast]; exact hm)
def sp_Putting_put (n : Nat) (c : Cn) : Sp := fun vs H Q E => vs.length = 3 ∧ ∃ (pu b tk sk : Addr) (M : Addr → Prop) (gs : List Gm) (ds : List Int) (N : Nat) (kvs : List KX) (A B : List Int) (xs : List NX) (g h : Nat), vs = [.ref pu, .int g, .int h] ∧ PutAt c H pu b tk sk M gs N kvs ∧ SumAt c H tk sk M gs A B xs ∧ BookAt c H b M gs ds ∧
  g < gs.length ∧ h < gs.length ∧ (∃ dg dh, ds[g]? = some dg ∧ ds[h]? = some dh ∧ dg + dh < n) ∧ (g : Int) ∈ A ∧ (h : Int) ∈ B ∧ Cl gs A ∧ Cl gs B ∧ A.length + B.length ≤ 4000 ∧ A.length * B.length ≤ 30000 ∧ gs.length + A.length * B.length ≤ 89000 + xs.length ∧
  ∀ (H' : Hp) (f : List Gm) (e : List Int) (xs' : List NX) (x : Int), Keep (fun a => a = sk ∨ M a) H H' → PutAt c H' pu b tk sk M (gs ++ f) N kvs → SumAt c H' tk sk M (gs ++ f) A B xs' → BookAt c H' b M (gs ++ f) (ds ++ e) → f.length + xs.length ≤ xs'.length → sm (gs ++ f) [(g : Int), (h : Int)] = some x → ((∃ y, sm gs [(g : Int), (h : Int)] = some y) → f = []) → Q (.int x) H'
theorem z_Putting_put {c : Cn} {vs : List V} {H : Hp} {Q : VK} {E : XK} (h : sp_Putting_put 0 c vs H Q E) : False := by
  obtain ⟨_, _, _, _, _, _, _, ds, _, _, _, _, _, g, k, _, _, _, B, hg, hk, ⟨dg, dh, h1, h2, h3⟩, _⟩ := h
  have := DOk.pos B.ok B.dok (g + 1) g (by omega) dg h1
  have := DOk.pos B.ok B.dok (k + 1) k (by omega) dh h2
  omega
abbrev N_Putting_put : List Str := ["self", "g", "h", "lefts", "rights", "move"]
theorem sc_Putting_put : FnScope N_Putting_put ["self", "g", "h"] (defScope s_Putting_put) := ⟨rfl, rfl, rfl, by decide +kernel, rfl, by decide +kernel, by decide +kernel⟩
def t_Putting_put (n : Nat) (c : Cn) : TS :=
  (C8.tCut (tIfS (tTest (tOp (cNotIn c.P c.w c.K) (tTup (tCons (tVar 1) (tCons (tVar 2) tNil))) (tFld c.K (tVar 0) "sums")))
  (tSeq (tAsg (tLc (iAny c.K (tMeth c.cBook "lefts" (sp_Book_lefts c) [] E0 (tFld c.K (tVar 0) "book") (tCons (tVar 1) tNil))) (gName 5) tYes (tMeth c.cPutting "put" (sp_Putting_put n c) [] E0 (tVar 0) (tCons (tVar 5) (tCons (tVar 2) tNil))) [5]) (gName 3))
  (tSeq (tDrop (tBM c.K "list" rExtend (tVar 3) (tCons (tLc (iAny c.K (tMeth c.cBook "lefts" (sp_Book_lefts c) [] E0 (tFld c.K (tVar 0) "book") (tCons (tVar 2) tNil))) (gName 5) tYes (tMeth c.cPutting "put" (sp_Putting_put n c) [] E0 (tVar 0) (tCons (tVar 1) (tCons (tVar 5) tNil))) [5]) tNil)))
  (tSeq (tAsg (tLc (iAny c.K (tMeth c.cBook "rights" (sp_Book_rights c) [] E0 (tFld c.K (tVar 0) "book") (tCons (tVar 1) tNil))) (gName 5) tYes (tMeth c.cPutting "put" (sp_Putting_put n c) [] E0 (tVar 0) (tCons (tVar 5) (tCons (tVar 2) tNil))) [5]) (gName 4))
  (tSeq (tDrop (tBM c.K "list" rExtend (tVar 4) (tCons (tLc (iAny c.K (tMeth c.cBook "rights" (sp_Book_rights c) [] E0 (tFld c.K (tVar 0) "book") (tCons (tVar 2) tNil))) (gName 5) tYes (tMeth c.cPutting "put" (sp_Putting_put n c) [] E0 (tVar 0) (tCons (tVar 1) (tCons (tVar 5) tNil))) [5]) tNil)))
  (tAsg (tMeth c.cBook "game" (sp_Book_game c) [] E0 (tFld c.K (tVar 0) "book") (tCons (tVar 3) (tCons (tVar 4) tNil))) (gSub (tFld c.K (tVar 0) "sums") (tTup (tCons (tVar 1) (tCons (tVar 2) tNil))) (bSet c.P c.w)))))))
  tNext)
  (tRet (tOp (bIx c.P c.w c.K) (tFld c.K (tVar 0) "sums") (tTup (tCons (tVar 1) (tCons (tVar 2) tNil))))))
theorem p_Putting_put {n : Nat} {c : Cn} {mg : Str → Option Value} (T : Txt c mg) {vs : List V} {H : Hp} {Q : VK} {E : XK} (h : sp_Putting_put (n + 1) c vs H Q E) : t_Putting_put n c { nx := fun _ H' => Q .non H', rt := Q } (start N_Putting_put vs) H := by
  obtain ⟨_, pu, b, tk, sk, M, gs, ds, N, kvs, A, B', xs, g, h, rfl, t, S, B, hg, hh, ⟨dg, dh, hdg, hdh, hdn⟩, gA, hB, cA, cB, len, len2, few, k⟩ := h
  obtain ⟨dx, ht⟩ := t.here
  unfold t_Putting_put
  refine ⟨fun σ' H' => ∃ (x3 x4 : Option V) (f : List Gm) (e : List Int) (xs' : List NX) (x : Int), σ' = [some (.ref pu), some (.int g), some (.int h), x3, x4, none] ∧ Keep (fun a => a = sk ∨ M a) H H' ∧ PutAt c H' pu b tk sk M (gs ++ f) N kvs ∧ SumAt c H' tk sk M (gs ++ f) A B' xs' ∧ BookAt c H' b M (gs ++ f) (ds ++ e) ∧ f.length + xs.length ≤ xs'.length ∧ sm (gs ++ f) [(g : Int), (h : Int)] = some x ∧ ((∃ y, sm gs [(g : Int), (h : Int)] = some y) → f = []) ∧ nval xs' (k2 g h) = some (.int x), ?_, ?_⟩
  · repeat kaf_suf
    intro p hp
    have kp : Keep Nil H (upd H p (.tup [.int g, .int h])) := Keep.alloc hp
    have tp := t.same kp
    have Sp' := S.same kp
    have Bp := B.same kp
    repeat kaf_suf
    refine v_ninN Sp'.N (k2_nk upd_same) (k2_depth _ _) ?_
    generalize upd H p (.tup [.int g, .int h]) = H0 at kp tp Sp' Bp ⊢
    clear hp
    cases e : nval xs (k2 g h) with
    | some v =>
      refine r_kB (r_ite_nt ?_)
      obtain ⟨y, rfl, ey⟩ := S.ok.val e
      repeat kaf_suf
      exact ⟨_, _, [], [], xs, y, rfl, kp.weak, by rw [List.append_nil]; exact tp, by rw [List.append_nil]; exact Sp', by rw [List.append_nil, List.append_nil]; exact Bp, by simp, by rw [List.append_nil]; exact ey, fun _ => rfl, e⟩
    | none =>
      refine r_kB (r_ite_nf ?_)
      obtain ⟨dxp, htp⟩ := tp.here
      have hgm : gs[g]? = some gs[g] := List.getElem?_eq_getElem hg
      have hhm : gs[h]? = some gs[h] := List.getElem?_eq_getElem hh
      have hR1 : (gs[g]).1 = mvs gs g true := by unfold mvs; rw [hgm]; rfl
      have hR2 : (gs[h]).1 = mvs gs h true := by unfold mvs; rw [hhm]; rfl
      have hR3 : (gs[g]).2 = mvs gs g false := by unfold mvs; rw [hgm]; rfl
      have hR4 : (gs[h]).2 = mvs gs h false := by unfold mvs; rw [hhm]; rfl
      have gl : ∀ s, (mvs gs g s).length ≤ A.length := mvs_len2 B.ok cA gA
      have hl : ∀ s, (mvs gs h s).length ≤ B'.length := mvs_len2 B.ok cB hB
      have app : ∀ {f : List Gm} {i : Nat} {x : Gm}, gs[i]? = some x → (gs ++ f)[i]? = some x := fun h => by rw [List.getElem?_append_left (List.getElem?_eq_some_iff.mp h).1]; exact h
      have dap : ∀ {e : List Int} {i : Nat} {x : Int}, ds[i]? = some x → (ds ++ e)[i]? = some x := fun h => by rw [List.getElem?_append_left (List.getElem?_eq_some_iff.mp h).1]; exact h
      have sub : (∃ y, sm gs [(g : Int), (h : Int)] = some y) → ∀ s, ∀ m ∈ mvl gs s [(g : Int), (h : Int)], ∃ z, sm gs m = some z := fun ⟨y, hy⟩ s m hm => by
        obtain ⟨a, b, h1, h2, _⟩ := sm_some B.ok hy
        cases s
        · exact mapO_all h2 m hm
        · exact mapO_all h1 m hm
      have mono1 : ∀ {f f2 : List Gm} (s : Bool), GOk (gs ++ f) → ∀ m ∈ mvs gs g s, ∀ z, sm (gs ++ f) [m, (h : Int)] = some z → sm (gs ++ f ++ f2) [m, (h : Int)] = some z := fun s o m hm z hz => by
        have := mvs_low B.ok hm
        refine sm_app o (fun w hw => ?_) hz
        rw [List.length_append]
        rcases List.mem_cons.mp hw with rfl | hw
        · omega
        · cases List.mem_singleton.mp hw; omega
      have mono2 : ∀ {f f2 : List Gm} (s : Bool), GOk (gs ++ f) → ∀ m ∈ mvs gs h s, ∀ z, sm (gs ++ f) [(g : Int), m] = some z → sm (gs ++ f ++ f2) [(g : Int), m] = some z := fun s o m hm z hz => by
        have := mvs_low B.ok hm
        refine sm_app o (fun w hw => ?_) hz
        rw [List.length_append]
        rcases List.mem_cons.mp hw with rfl | hw
        · omega
        · cases List.mem_singleton.mp hw; omega
      have kn : ∀ {Hx Hy : Hp} {x : Addr}, Keep (fun a => a = sk ∨ M a) Hx Hy → Hy x = none → ¬ (x = sk ∨ M x) → Hx x = none := fun {Hx Hy x} k h n => by
        cases e : Hx x with
        | none => rfl
        | some o => rw [k _ _ n e] at h; cases h
      obtain ⟨bx1, bm1, bn1, bd1, hb1⟩ := Bp.ins_
      repeat kaf_suf
      refine ⟨rfl, b, M, _, _, g, _, rfl, Bp, hgm, fun r hr => ?_⟩
      rw [hR1]
      have kr : Keep Nil H0 (upd H0 r (.lst ((mvs gs g true).map V.int))) := Keep.alloc hr
      have er : (upd H0 r (.lst ((mvs gs g true).map V.int))) r = some (.lst ((mvs gs g true).map V.int)) := upd_same
      have wr : ¬ (r = sk ∨ M r) := fun z => z.elim (fun z => by rw [z, Sp'.N.here] at hr; cases hr) (Bp.new hr)
      have tr1 := tp.same kr
      have Sr1 := Sp'.same kr
      have Br1 := Bp.same kr
      have kR1 : Keep (fun a => a = sk ∨ M a) H (upd H0 r (.lst ((mvs gs g true).map V.int))) := kp.weak.trans kr.weak
      generalize upd H0 r (.lst ((mvs gs g true).map V.int)) = Hr at kr er tr1 Sr1 Br1 kR1 ⊢
      clear hr hb1
      repeat kaf_suf
      intro D1 hD
      have nD1t : D1 ≠ sk := fun z => by rw [z, Sr1.N.here] at hD; cases hD
      have nD1 : ¬ M D1 := Br1.new hD
      have wD1 : ¬ (D1 = sk ∨ M D1) := fun z => z.elim nD1t nD1
      have hD10 : H D1 = none := kn kR1 hD wD1
      refine lc_list (xs := (mvs gs g true).map V.int) (fun j H' => ∃ (f : List Gm) (e : List Int) (xs' : List NX) (acc : List Int), H' D1 = some (.lst (acc.map V.int)) ∧ Keep (fun a => a = sk ∨ M a) Hr H' ∧ PutAt c H' pu b tk sk M (gs ++ f) N kvs ∧ SumAt c H' tk sk M (gs ++ f) A B' xs' ∧ BookAt c H' b M (gs ++ f) (ds ++ e) ∧ f.length + xs.length ≤ xs'.length ∧ mapO (fun m => sm (gs ++ f) [m, (h : Int)]) ((mvs gs g true).take j) = some acc ∧ ((∃ y, sm gs [(g : Int), (h : Int)] = some y) → f = [])) ⟨[], [], xs, [], upd_same, Keep.alloc hD, ?_, ?_, ?_, by simp, rfl, fun _ => rfl⟩ ?_ ?_ ?_
      · rw [List.append_nil]; exact tr1.same (Keep.alloc hD)
      · rw [List.append_nil]; exact Sr1.same (Keep.alloc hD)
      · rw [List.append_nil, List.append_nil]; exact Br1.same (Keep.alloc hD)
      · rintro j H' _ ⟨_, _, _, _, _, k1, _⟩; exact SqL.of (k1 _ _ wr er)
      · rintro j z H1 hj ⟨f, e, xs1, acc, eD, k1, t1, S1, B1, fl, ea, hf⟩
        rw [List.getElem?_map] at hj
        obtain ⟨m, hm, rfl⟩ := Option.map_eq_some_iff.mp hj
        have mm := List.mem_of_getElem? hm
        obtain ⟨dm, hdm, ldm⟩ := mvs_dep B.ok B.dok mm hdg
        obtain ⟨m0, m1, _⟩ := mvs_low B.ok mm
        obtain ⟨mn, rfl⟩ := Int.eq_ofNat_of_zero_le m0
        rw [Int.toNat_natCast] at hdm
        have hjl := (List.getElem?_eq_some_iff.mp hm).1
        have gls := gl true
        have memX := cA.2 _ gA true _ (by rw [Int.toNat_natCast]; exact mm)
        obtain ⟨dx1, ht1⟩ := t1.here
        repeat kaf_suf
        refine ⟨rfl, ?_⟩
        repeat kaf_suf
        refine ⟨rfl, pu, b, tk, sk, M, gs ++ f, ds ++ e, N, kvs, A, B', xs1, mn, h, rfl, t1, S1, B1, by rw [List.length_append]; omega, by rw [List.length_append]; omega, ⟨dm, dh, dap hdm, dap hdh, by omega⟩, memX, hB, cA.more, cB.more, len, len2, by rw [List.length_append]; omega, fun H2 f2 e2 xs2 x2 k2' t2 S2 B2 fl2 ex2 hf2 => ?_⟩
        have eD2 := k2' _ _ wD1 eD
        have al := mapO_len ea
        rw [List.length_take] at al
        have q1 : gs ++ (f ++ f2) = gs ++ f ++ f2 := by simp
        have q2 : ds ++ (e ++ e2) = ds ++ e ++ e2 := by simp
        refine ⟨_, eD2, few1 (by rw [List.length_map]; omega), f ++ f2, e ++ e2, xs2, acc ++ [x2], by rw [List.map_append]; exact upd_same, (k1.trans k2').setN hD, ?_, ?_, ?_, by rw [List.length_append]; omega, ?_, ?_⟩
        · rw [q1]; exact t2.keepL (W := fun a => a = D1) (Keep.refl.set rfl) fun z e => ⟨_, e ▸ eD2⟩
        · rw [q1]; exact S2.list eD2
        · rw [q1, q2]; exact B2.keep (N := fun a => a = D1) (Keep.refl.set rfl) (fun z e => ⟨_, e ▸ eD2⟩) fun z hz e => nD1 (e ▸ hz)
        · have tk1 : (mvs gs g true).take (j + 1) = (mvs gs g true).take j ++ [(mn : Int)] := by rw [List.take_succ, hm]; rfl
          rw [tk1, q1]
          exact mapO_snoc (mapO_mono (fun m hm => mono1 true B1.ok m (List.mem_of_mem_take hm)) ea) ex2
        · intro hy
          have f0 := hf hy
          subst f0
          have : f2 = [] := hf2 (by
            rw [List.append_nil]
            exact sub hy true _ (by rw [mvl_two, Int.toNat_natCast, Int.toNat_natCast]; exact List.mem_append_left _ (List.mem_map.mpr ⟨_, mm, rfl⟩)))
          rw [this]; rfl
      rintro H1c ⟨f1, e1, xs1, a1, eD1, kc1, t1, S1, B1, fl1, F1, hf1⟩
      rw [List.length_map, List.take_length] at F1
      have kH1 := kR1.trans kc1
      obtain ⟨dx1, ht1⟩ := t1.here
      have la1 := mapO_len F1
      have lg1 := gl true
      clear kc1 hD er wr kr kR1 tr1 Sr1 Br1
      obtain ⟨bx2, bm2, bn2, bd2, hb2⟩ := B1.ins_
      repeat kaf_suf
      refine ⟨rfl, b, M, _, _, h, _, rfl, B1, app hhm, fun r hr => ?_⟩
      rw [hR2]
      have kr : Keep Nil H1c (upd H1c r (.lst ((mvs gs h true).map V.int))) := Keep.alloc hr
      have er : (upd H1c r (.lst ((mvs gs h true).map V.int))) r = some (.lst ((mvs gs h true).map V.int)) := upd_same
      have wr : ¬ (r = sk ∨ M r) := fun z => z.elim (fun z => by rw [z, S1.N.here] at hr; cases hr) (B1.new hr)
      have tr2 := t1.same kr
      have Sr2 := S1.same kr
      have Br2 := B1.same kr
      have kR2 : Keep (fun a => a = sk ∨ M a) H (upd H1c r (.lst ((mvs gs h true).map V.int))) := kH1.trans kr.weak
      have qD1 := kr.get (fun z => z) eD1
      generalize upd H1c r (.lst ((mvs gs h true).map V.int)) = Hr at kr er tr2 Sr2 Br2 kR2 qD1 ⊢
      clear hr hb2
      repeat kaf_suf
      intro D2 hD
      have nD2t : D2 ≠ sk := fun z => by rw [z, Sr2.N.here] at hD; cases hD
      have nD2 : ¬ M D2 := Br2.new hD
      have wD2 : ¬ (D2 = sk ∨ M D2) := fun z => z.elim nD2t nD2
      have hD20 : H D2 = none := kn kR2 hD wD2
      refine lc_list (xs := (mvs gs h true).map V.int) (fun j H' => ∃ (f : List Gm) (e : List Int) (xs' : List NX) (acc : List Int), H' D2 = some (.lst (acc.map V.int)) ∧ Keep (fun a => a = sk ∨ M a) Hr H' ∧ PutAt c H' pu b tk sk M (gs ++ f) N kvs ∧ SumAt c H' tk sk M (gs ++ f) A B' xs' ∧ BookAt c H' b M (gs ++ f) (ds ++ e) ∧ f.length + xs.length ≤ xs'.length ∧ mapO (fun m => sm (gs ++ f) [(g : Int), m]) ((mvs gs h true).take j) = some acc ∧ ((∃ y, sm gs [(g : Int), (h : Int)] = some y) → f = []) ∧ mapO (fun m => sm (gs ++ f) [m, (h : Int)]) (mvs gs g true) = some a1) ⟨f1, e1, xs1, [], upd_same, Keep.alloc hD, ?_, ?_, ?_, fl1, rfl, hf1, F1⟩ ?_ ?_ ?_
      · exact tr2.same (Keep.alloc hD)
      · exact Sr2.same (Keep.alloc hD)
      · exact Br2.same (Keep.alloc hD)
      · rintro j H' _ ⟨_, _, _, _, _, k1, _⟩; exact SqL.of (k1 _ _ wr er)
      · rintro j z H1 hj ⟨f, e, xs1, acc, eD, k1, t1, S1, B1, fl, ea, hf, G1⟩
        rw [List.getElem?_map] at hj
        obtain ⟨m, hm, rfl⟩ := Option.map_eq_some_iff.mp hj
        have mm := List.mem_of_getElem? hm
        obtain ⟨dm, hdm, ldm⟩ := mvs_dep B.ok B.dok mm hdh
        obtain ⟨m0, m1, _⟩ := mvs_low B.ok mm
        obtain ⟨mn, rfl⟩ := Int.eq_ofNat_of_zero_le m0
        rw [Int.toNat_natCast] at hdm
        have hjl := (List.getElem?_eq_some_iff.mp hm).1
        have gls := hl true
        have memX := cB.2 _ hB true _ (by rw [Int.toNat_natCast]; exact mm)
        obtain ⟨dx1, ht1⟩ := t1.here
        repeat kaf_suf
        refine ⟨rfl, ?_⟩
        repeat kaf_suf
        refine ⟨rfl, pu, b, tk, sk, M, gs ++ f, ds ++ e, N, kvs, A, B', xs1, g, mn, rfl, t1, S1, B1, by rw [List.length_append]; omega, by rw [List.length_append]; omega, ⟨dg, dm, dap hdg, dap hdm, by omega⟩, gA, memX, cA.more, cB.more, len, len2, by rw [List.length_append]; omega, fun H2 f2 e2 xs2 x2 k2' t2 S2 B2 fl2 ex2 hf2 => ?_⟩
        have eD2 := k2' _ _ wD2 eD
        have al := mapO_len ea
        rw [List.length_take] at al
        have q1 : gs ++ (f ++ f2) = gs ++ f ++ f2 := by simp
        have q2 : ds ++ (e ++ e2) = ds ++ e ++ e2 := by simp
        refine ⟨_, eD2, few1 (by rw [List.length_map]; omega), f ++ f2, e ++ e2, xs2, acc ++ [x2], by rw [List.map_append]; exact upd_same, (k1.trans k2').setN hD, ?_, ?_, ?_, by rw [List.length_append]; omega, ?_, ?_, ?_⟩
        · rw [q1]; exact t2.keepL (W := fun a => a = D2) (Keep.refl.set rfl) fun z e => ⟨_, e ▸ eD2⟩
        · rw [q1]; exact S2.list eD2
        · rw [q1, q2]; exact B2.keep (N := fun a => a = D2) (Keep.refl.set rfl) (fun z e => ⟨_, e ▸ eD2⟩) fun z hz e => nD2 (e ▸ hz)
        · have tk1 : (mvs gs h true).take (j + 1) = (mvs gs h true).take j ++ [(mn : Int)] := by rw [List.take_succ, hm]; rfl
          rw [tk1, q1]
          exact mapO_snoc (mapO_mono (fun m hm => mono2 true B1.ok m (List.mem_of_mem_take hm)) ea) ex2
        · intro hy
          have f0 := hf hy
          subst f0
          have : f2 = [] := hf2 (by
            rw [List.append_nil]
            exact sub hy true _ (by rw [mvl_two, Int.toNat_natCast, Int.toNat_natCast]; exact List.mem_append_right _ (List.mem_map.mpr ⟨_, mm, rfl⟩)))
          rw [this]; rfl
        · rw [q1]; exact mapO_mono (mono1 true B1.ok) G1
      rintro H2c ⟨f2, e2, xs2, a2, eD2, kc2, t2, S2, B2, fl2, F2, hf2, F1⟩
      rw [List.length_map, List.take_length] at F2
      have kH2 := kR2.trans kc2
      have eD1 := kc2 _ _ wD1 qD1
      obtain ⟨dx2, ht2⟩ := t2.here
      have la2 := mapO_len F2
      have lg2 := hl true
      clear kc2 hD er wr kr kR2 tr2 Sr2 Br2 qD1
      repeat kaf_suf
      refine ⟨D1, D2, _, _, rfl, rfl, eD1, eD2, few2 (by rw [List.length_map, List.length_map]; omega), ?_⟩
      have ext2 : (a1.map V.int ++ a2.map V.int) = (a1 ++ a2).map V.int := by rw [List.map_append]
      rw [ext2]
      have eN : (upd H2c D1 (.lst ((a1 ++ a2).map V.int))) D1 = some (.lst ((a1 ++ a2).map V.int)) := upd_same
      have tN := t2.keepL (W := fun a => a = D1) (H' := upd H2c D1 (.lst ((a1 ++ a2).map V.int))) (Keep.refl.set rfl) fun z e => ⟨_, e ▸ eD1⟩
      have SN := S2.list (l' := (a1 ++ a2).map V.int) eD1
      have BN := B2.keep (N := fun a => a = D1) (H' := upd H2c D1 (.lst ((a1 ++ a2).map V.int))) (Keep.refl.set rfl) (fun z e => ⟨_, e ▸ eD1⟩) fun z hz e => nD1 (e ▸ hz)
      have kN := kH2.setN (o := .lst ((a1 ++ a2).map V.int)) hD10
      generalize upd H2c D1 (.lst ((a1 ++ a2).map V.int)) = H2e at eN tN SN BN kN ⊢
      clear eD1 eD2 kH2 t2 S2 B2 ht2
      have eD1 := eN
      have kH2 := kN
      have t2 := tN
      have S2 := SN
      have B2 := BN
      obtain ⟨dxe2, ht2⟩ := t2.here
      clear eN kN tN SN BN

      obtain ⟨bx3, bm3, bn3, bd3, hb3⟩ := B2.ins_
      repeat kaf_suf
      refine ⟨rfl, b, M, _, _, g, _, rfl, B2, app hgm, fun r hr => ?_⟩
      rw [hR3]
      have kr : Keep Nil H2e (upd H2e r (.lst ((mvs gs g false).map V.int))) := Keep.alloc hr
      have er : (upd H2e r (.lst ((mvs gs g false).map V.int))) r = some (.lst ((mvs gs g false).map V.int)) := upd_same
      have wr : ¬ (r = sk ∨ M r) := fun z => z.elim (fun z => by rw [z, S2.N.here] at hr; cases hr) (B2.new hr)
      have tr3 := t2.same kr
      have Sr3 := S2.same kr
      have Br3 := B2.same kr
      have kR3 : Keep (fun a => a = sk ∨ M a) H (upd H2e r (.lst ((mvs gs g false).map V.int))) := kH2.trans kr.weak
      have qD1 := kr.get (fun z => z) eD1
      generalize upd H2e r (.lst ((mvs gs g false).map V.int)) = Hr at kr er tr3 Sr3 Br3 kR3 qD1 ⊢
      clear hr hb3
      repeat kaf_suf
      intro D3 hD
      have nD3t : D3 ≠ sk := fun z => by rw [z, Sr3.N.here] at hD; cases hD
      have nD3 : ¬ M D3 := Br3.new hD
      have wD3 : ¬ (D3 = sk ∨ M D3) := fun z => z.elim nD3t nD3
      have d13 : D1 ≠ D3 := ne_old hD qD1
      have hD30 : H D3 = none := kn kR3 hD wD3
      refine lc_list (xs := (mvs gs g false).map V.int) (fun j H' => ∃ (f : List Gm) (e : List Int) (xs' : List NX) (acc : List Int), H' D3 = some (.lst (acc.map V.int)) ∧ Keep (fun a => a = sk ∨ M a) Hr H' ∧ PutAt c H' pu b tk sk M (gs ++ f) N kvs ∧ SumAt c H' tk sk M (gs ++ f) A B' xs' ∧ BookAt c H' b M (gs ++ f) (ds ++ e) ∧ f.length + xs.length ≤ xs'.length ∧ mapO (fun m => sm (gs ++ f) [m, (h : Int)]) ((mvs gs g false).take j) = some acc ∧ ((∃ y, sm gs [(g : Int), (h : Int)] = some y) → f = []) ∧ mapO (fun m => sm (gs ++ f) [m, (h : Int)]) (mvs gs g true) = some a1 ∧ mapO (fun m => sm (gs ++ f) [(g : Int), m]) (mvs gs h true) = some a2) ⟨f2, e2, xs2, [], upd_same, Keep.alloc hD, ?_, ?_, ?_, fl2, rfl, hf2, F1, F2⟩ ?_ ?_ ?_
      · exact tr3.same (Keep.alloc hD)
      · exact Sr3.same (Keep.alloc hD)
      · exact Br3.same (Keep.alloc hD)
      · rintro j H' _ ⟨_, _, _, _, _, k1, _⟩; exact SqL.of (k1 _ _ wr er)
      · rintro j z H1 hj ⟨f, e, xs1, acc, eD, k1, t1, S1, B1, fl, ea, hf, G1, G2⟩
        rw [List.getElem?_map] at hj
        obtain ⟨m, hm, rfl⟩ := Option.map_eq_some_iff.mp hj
        have mm := List.mem_of_getElem? hm
        obtain ⟨dm, hdm, ldm⟩ := mvs_dep B.ok B.dok mm hdg
        obtain ⟨m0, m1, _⟩ := mvs_low B.ok mm
        obtain ⟨mn, rfl⟩ := Int.eq_ofNat_of_zero_le m0
        rw [Int.toNat_natCast] at hdm
        have hjl := (List.getElem?_eq_some_iff.mp hm).1
        have gls := gl false
        have memX := cA.2 _ gA false _ (by rw [Int.toNat_natCast]; exact mm)
        obtain ⟨dx1, ht1⟩ := t1.here
        repeat kaf_suf
        refine ⟨rfl, ?_⟩
        repeat kaf_suf
        refine ⟨rfl, pu, b, tk, sk, M, gs ++ f, ds ++ e, N, kvs, A, B', xs1, mn, h, rfl, t1, S1, B1, by rw [List.length_append]; omega, by rw [List.length_append]; omega, ⟨dm, dh, dap hdm, dap hdh, by omega⟩, memX, hB, cA.more, cB.more, len, len2, by rw [List.length_append]; omega, fun H2 f2 e2 xs2 x2 k2' t2 S2 B2 fl2 ex2 hf2 => ?_⟩
        have eD2 := k2' _ _ wD3 eD
        have al := mapO_len ea
        rw [List.length_take] at al
        have q1 : gs ++ (f ++ f2) = gs ++ f ++ f2 := by simp
        have q2 : ds ++ (e ++ e2) = ds ++ e ++ e2 := by simp
        refine ⟨_, eD2, few1 (by rw [List.length_map]; omega), f ++ f2, e ++ e2, xs2, acc ++ [x2], by rw [List.map_append]; exact upd_same, (k1.trans k2').setN hD, ?_, ?_, ?_, by rw [List.length_append]; omega, ?_, ?_, ?_, ?_⟩
        · rw [q1]; exact t2.keepL (W := fun a => a = D3) (Keep.refl.set rfl) fun z e => ⟨_, e ▸ eD2⟩
        · rw [q1]; exact S2.list eD2
        · rw [q1, q2]; exact B2.keep (N := fun a => a = D3) (Keep.refl.set rfl) (fun z e => ⟨_, e ▸ eD2⟩) fun z hz e => nD3 (e ▸ hz)
        · have tk1 : (mvs gs g false).take (j + 1) = (mvs gs g false).take j ++ [(mn : Int)] := by rw [List.take_succ, hm]; rfl
          rw [tk1, q1]
          exact mapO_snoc (mapO_mono (fun m hm => mono1 false B1.ok m (List.mem_of_mem_take hm)) ea) ex2
        · intro hy
          have f0 := hf hy
          subst f0
          have : f2 = [] := hf2 (by
            rw [List.append_nil]
            exact sub hy false _ (by rw [mvl_two, Int.toNat_natCast, Int.toNat_natCast]; exact List.mem_append_left _ (List.mem_map.mpr ⟨_, mm, rfl⟩)))
          rw [this]; rfl
        · rw [q1]; exact mapO_mono (mono1 true B1.ok) G1
        · rw [q1]; exact mapO_mono (mono2 true B1.ok) G2
      rintro H3c ⟨f3, e3, xs3, a3, eD3, kc3, t3, S3, B3, fl3, F3, hf3, F1, F2⟩
      rw [List.length_map, List.take_length] at F3
      have kH3 := kR3.trans kc3
      have eD1 := kc3 _ _ wD1 qD1
      obtain ⟨dx3, ht3⟩ := t3.here
      have la3 := mapO_len F3
      have lg3 := gl false
      clear kc3 hD er wr kr kR3 tr3 Sr3 Br3 qD1
      obtain ⟨bx4, bm4, bn4, bd4, hb4⟩ := B3.ins_
      repeat kaf_suf
      refine ⟨rfl, b, M, _, _, h, _, rfl, B3, app hhm, fun r hr => ?_⟩
      rw [hR4]
      have kr : Keep Nil H3c (upd H3c r (.lst ((mvs gs h false).map V.int))) := Keep.alloc hr
      have er : (upd H3c r (.lst ((mvs gs h false).map V.int))) r = some (.lst ((mvs gs h false).map V.int)) := upd_same
      have wr : ¬ (r = sk ∨ M r) := fun z => z.elim (fun z => by rw [z, S3.N.here] at hr; cases hr) (B3.new hr)
      have tr4 := t3.same kr
      have Sr4 := S3.same kr
      have Br4 := B3.same kr
      have kR4 : Keep (fun a => a = sk ∨ M a) H (upd H3c r (.lst ((mvs gs h false).map V.int))) := kH3.trans kr.weak
      have qD1 := kr.get (fun z => z) eD1
      have qD3 := kr.get (fun z => z) eD3
      generalize upd H3c r (.lst ((mvs gs h false).map V.int)) = Hr at kr er tr4 Sr4 Br4 kR4 qD1 qD3 ⊢
      clear hr hb4
      repeat kaf_suf
      intro D4 hD
      have nD4t : D4 ≠ sk := fun z => by rw [z, Sr4.N.here] at hD; cases hD
      have nD4 : ¬ M D4 := Br4.new hD
      have wD4 : ¬ (D4 = sk ∨ M D4) := fun z => z.elim nD4t nD4
      have hD40 : H D4 = none := kn kR4 hD wD4
      refine lc_list (xs := (mvs gs h false).map V.int) (fun j H' => ∃ (f : List Gm) (e : List Int) (xs' : List NX) (acc : List Int), H' D4 = some (.lst (acc.map V.int)) ∧ Keep (fun a => a = sk ∨ M a) Hr H' ∧ PutAt c H' pu b tk sk M (gs ++ f) N kvs ∧ SumAt c H' tk sk M (gs ++ f) A B' xs' ∧ BookAt c H' b M (gs ++ f) (ds ++ e) ∧ f.length + xs.length ≤ xs'.length ∧ mapO (fun m => sm (gs ++ f) [(g : Int), m]) ((mvs gs h false).take j) = some acc ∧ ((∃ y, sm gs [(g : Int), (h : Int)] = some y) → f = []) ∧ mapO (fun m => sm (gs ++ f) [m, (h : Int)]) (mvs gs g true) = some a1 ∧ mapO (fun m => sm (gs ++ f) [(g : Int), m]) (mvs gs h true) = some a2 ∧ mapO (fun m => sm (gs ++ f) [m, (h : Int)]) (mvs gs g false) = some a3) ⟨f3, e3, xs3, [], upd_same, Keep.alloc hD, ?_, ?_, ?_, fl3, rfl, hf3, F1, F2, F3⟩ ?_ ?_ ?_
      · exact tr4.same (Keep.alloc hD)
      · exact Sr4.same (Keep.alloc hD)
      · exact Br4.same (Keep.alloc hD)
      · rintro j H' _ ⟨_, _, _, _, _, k1, _⟩; exact SqL.of (k1 _ _ wr er)
      · rintro j z H1 hj ⟨f, e, xs1, acc, eD, k1, t1, S1, B1, fl, ea, hf, G1, G2, G3⟩
        rw [List.getElem?_map] at hj
        obtain ⟨m, hm, rfl⟩ := Option.map_eq_some_iff.mp hj
        have mm := List.mem_of_getElem? hm
        obtain ⟨dm, hdm, ldm⟩ := mvs_dep B.ok B.dok mm hdh
        obtain ⟨m0, m1, _⟩ := mvs_low B.ok mm
        obtain ⟨mn, rfl⟩ := Int.eq_ofNat_of_zero_le m0
        rw [Int.toNat_natCast] at hdm
        have hjl := (List.getElem?_eq_some_iff.mp hm).1
        have gls := hl false
        have memX := cB.2 _ hB false _ (by rw [Int.toNat_natCast]; exact mm)
        obtain ⟨dx1, ht1⟩ := t1.here
        repeat kaf_suf
        refine ⟨rfl, ?_⟩
        repeat kaf_suf
        refine ⟨rfl, pu, b, tk, sk, M, gs ++ f, ds ++ e, N, kvs, A, B', xs1, g, mn, rfl, t1, S1, B1, by rw [List.length_append]; omega, by rw [List.length_append]; omega, ⟨dg, dm, dap hdg, dap hdm, by omega⟩, gA, memX, cA.more, cB.more, len, len2, by rw [List.length_append]; omega, fun H2 f2 e2 xs2 x2 k2' t2 S2 B2 fl2 ex2 hf2 => ?_⟩
        have eD2 := k2' _ _ wD4 eD
        have al := mapO_len ea
        rw [List.length_take] at al
        have q1 : gs ++ (f ++ f2) = gs ++ f ++ f2 := by simp
        have q2 : ds ++ (e ++ e2) = ds ++ e ++ e2 := by simp
        refine ⟨_, eD2, few1 (by rw [List.length_map]; omega), f ++ f2, e ++ e2, xs2, acc ++ [x2], by rw [List.map_append]; exact upd_same, (k1.trans k2').setN hD, ?_, ?_, ?_, by rw [List.length_append]; omega, ?_, ?_, ?_, ?_, ?_⟩
        · rw [q1]; exact t2.keepL (W := fun a => a = D4) (Keep.refl.set rfl) fun z e => ⟨_, e ▸ eD2⟩
        · rw [q1]; exact S2.list eD2
        · rw [q1, q2]; exact B2.keep (N := fun a => a = D4) (Keep.refl.set rfl) (fun z e => ⟨_, e ▸ eD2⟩) fun z hz e => nD4 (e ▸ hz)
        · have tk1 : (mvs gs h false).take (j + 1) = (mvs gs h false).take j ++ [(mn : Int)] := by rw [List.take_succ, hm]; rfl
          rw [tk1, q1]
          exact mapO_snoc (mapO_mono (fun m hm => mono2 false B1.ok m (List.mem_of_mem_take hm)) ea) ex2
        · intro hy
          have f0 := hf hy
          subst f0
          have : f2 = [] := hf2 (by
            rw [List.append_nil]
            exact sub hy false _ (by rw [mvl_two, Int.toNat_natCast, Int.toNat_natCast]; exact List.mem_append_right _ (List.mem_map.mpr ⟨_, mm, rfl⟩)))
          rw [this]; rfl
        · rw [q1]; exact mapO_mono (mono1 true B1.ok) G1
        · rw [q1]; exact mapO_mono (mono2 true B1.ok) G2
        · rw [q1]; exact mapO_mono (mono1 false B1.ok) G3
      rintro H4c ⟨f4, e4, xs4, a4, eD4, kc4, t4, S4, B4, fl4, F4, hf4, F1, F2, F3⟩
      rw [List.length_map, List.take_length] at F4
      have kH4 := kR4.trans kc4
      have eD1 := kc4 _ _ wD1 qD1
      have eD3 := kc4 _ _ wD3 qD3
      obtain ⟨dx4, ht4⟩ := t4.here
      have la4 := mapO_len F4
      have lg4 := hl false
      clear kc4 hD er wr kr kR4 tr4 Sr4 Br4 qD1 qD3
      repeat kaf_suf
      refine ⟨D3, D4, _, _, rfl, rfl, eD3, eD4, few2 (by rw [List.length_map, List.length_map]; omega), ?_⟩
      have ext4 : (a3.map V.int ++ a4.map V.int) = (a3 ++ a4).map V.int := by rw [List.map_append]
      rw [ext4]
      have eN : (upd H4c D3 (.lst ((a3 ++ a4).map V.int))) D3 = some (.lst ((a3 ++ a4).map V.int)) := upd_same
      have tN := t4.keepL (W := fun a => a = D3) (H' := upd H4c D3 (.lst ((a3 ++ a4).map V.int))) (Keep.refl.set rfl) fun z e => ⟨_, e ▸ eD3⟩
      have SN := S4.list (l' := (a3 ++ a4).map V.int) eD3
      have BN := B4.keep (N := fun a => a = D3) (H' := upd H4c D3 (.lst ((a3 ++ a4).map V.int))) (Keep.refl.set rfl) (fun z e => ⟨_, e ▸ eD3⟩) fun z hz e => nD3 (e ▸ hz)
      have kN := kH4.setN (o := .lst ((a3 ++ a4).map V.int)) hD30
      have eM := get_set (u := .lst ((a3 ++ a4).map V.int)) d13 eD1
      generalize upd H4c D3 (.lst ((a3 ++ a4).map V.int)) = H4e at eN tN SN BN kN eM ⊢
      clear eD3 eD4 kH4 t4 S4 B4 ht4 eD1
      have eD3 := eN
      have kH4 := kN
      have t4 := tN
      have S4 := SN
      have B4 := BN
      obtain ⟨dxe4, ht4⟩ := t4.here
      clear eN kN tN SN BN
      have eD1 := eM
      obtain ⟨bx5, bm5, bn5, bd5, hb5⟩ := B4.ins_
      have tl4 := S4.ok.len
      have lowm : ∀ {α : Type} {φ : α → List Int} {l : List α} {a : List Int}, mapO (fun m => sm (gs ++ f4) (φ m)) l = some a → ∀ m ∈ a, 0 ≤ m ∧ m < (gs ++ f4).length := fun h m hm => by
        obtain ⟨y, _, ey⟩ := (mapO_mem h m).mp hm
        exact sm_lt B4.ok ey
      repeat kaf_suf
      refine ⟨rfl, b, D1, D3, M, gs ++ f4, ds ++ e4, a1 ++ a2, a3 ++ a4, rfl, B4, eD1, eD3, nD1, nD3, by rw [List.length_append]; omega, by rw [List.length_append]; omega, by rw [List.length_append]; omega, fun m hm => ?_, fun H6 e6 k6 B6 => ?_⟩
      · rcases List.mem_append.mp hm with h | h
        · rcases List.mem_append.mp h with h | h
          · exact lowm F1 m h
          · exact lowm F2 m h
        · rcases List.mem_append.mp h with h | h
          · exact lowm F3 m h
          · exact lowm F4 m h
      obtain ⟨f6, hf6, fl6, fin6⟩ := addG_grow (gs := gs ++ f4) (k := (canon (a1 ++ a2), canon (a3 ++ a4)))
      have mem6 := addG_mem (gs ++ f4) (canon (a1 ++ a2), canon (a3 ++ a4))
      rw [hf6] at B6 mem6 ⊢
      have mm4 : ∀ (i : Nat) (s : Bool), i < gs.length → mvs (gs ++ f4) i s = mvs gs i s := fun i s hi => mvs_more hi
      have mm6 : ∀ (i : Nat) (s : Bool), i < gs.length → mvs (gs ++ f4 ++ f6) i s = mvs gs i s := fun i s hi => by rw [List.append_assoc]; exact mvs_more hi
      have e4a : mapO (sm (gs ++ f4)) (mvl (gs ++ f4) true [(g : Int), (h : Int)]) = some (a1 ++ a2) := by
        rw [mvl_two, Int.toNat_natCast, Int.toNat_natCast, mm4 g _ hg, mm4 h _ hh]
        exact mapO_append (by rw [mapO_map]; exact F1) (by rw [mapO_map]; exact F2)
      have e4b : mapO (sm (gs ++ f4)) (mvl (gs ++ f4) false [(g : Int), (h : Int)]) = some (a3 ++ a4) := by
        rw [mvl_two, Int.toNat_natCast, Int.toNat_natCast, mm4 g _ hg, mm4 h _ hh]
        exact mapO_append (by rw [mapO_map]; exact F3) (by rw [mapO_map]; exact F4)
      have sm6 : sm (gs ++ f4 ++ f6) [(g : Int), (h : Int)] = some (ixG (gs ++ f4 ++ f6) (canon (a1 ++ a2), canon (a3 ++ a4)) : Int) := by
        rw [sm_eq B6.ok]
        refine bind3.mpr ⟨a1 ++ a2, a3 ++ a4, ?_, ?_, ?_⟩
        · rw [mvl_two, Int.toNat_natCast, Int.toNat_natCast, mm6 g _ hg, mm6 h _ hh]
          exact mapO_append (by rw [mapO_map]; exact mapO_mono (mono1 true B4.ok) F1) (by rw [mapO_map]; exact mapO_mono (mono2 true B4.ok) F2)
        · rw [mvl_two, Int.toNat_natCast, Int.toNat_natCast, mm6 g _ hg, mm6 h _ hh]
          exact mapO_append (by rw [mapO_map]; exact mapO_mono (mono1 false B4.ok) F3) (by rw [mapO_map]; exact mapO_mono (mono2 false B4.ok) F4)
        · unfold look; rw [if_pos mem6]
      have same6 : (∃ y, sm (gs ++ f4) [(g : Int), (h : Int)] = some y) → f6 = [] := fun ⟨y, hy⟩ => by
        obtain ⟨a', b', z2, z3, _, _, z4⟩ := sm_some B4.ok hy
        rw [e4a] at z2; cases z2
        rw [e4b] at z3; cases z3
        unfold look at z4
        split at z4
        · rename_i h; exact fin6 h
        · cases z4
      have t6 : PutAt c H6 pu b tk sk M (gs ++ f4 ++ f6) N kvs := t4.keep k6 fun x h => B4.cell h
      have S6 : SumAt c H6 tk sk M (gs ++ f4 ++ f6) A B' xs4 := S4.keep B4.ok cA.more.1 cB.more.1 k6 (fun x h l e => by rcases B4.cell h with ⟨_, z⟩ | ⟨_, z⟩ <;> rw [e] at z <;> cases z) S4.nm
      obtain ⟨dx6, ht6⟩ := t6.here
      generalize (ixG (gs ++ f4 ++ f6) (canon (a1 ++ a2), canon (a3 ++ a4)) : Int) = x6 at sm6 ⊢
      have q1 : gs ++ (f4 ++ f6) = gs ++ f4 ++ f6 := by simp
      have q2 : ds ++ (e4 ++ e6) = ds ++ e4 ++ e6 := by simp
      have kH6 : Keep (fun a => a = sk ∨ M a) H H6 := kH4.trans (k6.mono fun _ h => .inr h)
      clear eD1 eD3 k6 kH4 eM hb5 ht4
      repeat kaf_suf
      intro p6 hp6
      have kp6 : Keep Nil H6 (upd H6 p6 (.tup [.int g, .int h])) := Keep.alloc hp6
      have t7 := t6.same kp6
      have S7 := S6.same kp6
      have B7 := B6.same kp6
      repeat kaf_suf
      refine v_setN' S7.N (k2_nk upd_same) (k2_depth _ _) (few1 (by omega)) ?_
      repeat kaf_suf
      obtain ⟨dx7, ht7⟩ := t7.here
      have ep7 : (upd H6 p6 (.tup [.int g, .int h])) p6 = some (.tup [.int g, .int h]) := upd_same
      refine ⟨_, _, f4 ++ f6, e4 ++ e6, nput xs4 (k2 g h) p6 (.int x6), x6, rfl, (kH6.trans kp6.weak).set (.inl rfl), ?_, ?_, ?_, ?_, by rw [q1]; exact sm6, fun hy => ?_, nval_nput⟩
      · rw [q1]
        exact ⟨⟨dx7, get_set (nd_neI S7.N ht7) ht7⟩, get_set (fun z => S7.nt z.symm) t7.K, t7.ok, t7.nm⟩
      · rw [q1]
        refine ⟨⟨upd_same, nput_keys ?_ ?_ (k2_depth _ _)⟩, S7.ok.put gA hB sm6, S7.nm, S7.nt⟩
        · exact fun x hx => ⟨NkV.keeps (fun b ys h => get_set (nd_neT S7.N h) h) _ _ (S7.N.keys x hx).1, (S7.N.keys x hx).2⟩
        · exact NkV.keeps (fun b ys h => get_set (nd_neT S7.N h) h) _ _ (k2_nk ep7)
      · rw [q1, q2]
        exact B7.keepX (N := fun a => a = sk) (Keep.refl.set rfl) (fun z e => by subst e; exact ⟨_, S7.N.here⟩) fun z hz e => S7.nm (e ▸ hz)
      · cases ev : nval xs4 (k2 g h) with
        | none => rw [nput_new ev]; simp only [List.length_append, List.length_cons, List.length_nil]; omega
        | some v =>
          obtain ⟨y, _, hy⟩ := S4.ok.val ev
          rw [same6 ⟨y, hy⟩, List.append_nil]
          have := nput_len' xs4 (k2 g h) p6 (.int x6)
          omega
      · have f40 := hf4 hy
        have : ∃ y, sm (gs ++ f4) [(g : Int), (h : Int)] = some y := by rw [f40, List.append_nil]; exact hy
        rw [f40, same6 this]; rfl
  · rintro σ' H' ⟨x3, x4, f, e, xs', x, rfl, k', t', S', B1, fl, ex, hf, ev⟩
    obtain ⟨dx', ht'⟩ := t'.here
    repeat kaf_suf
    intro p hp
    have kp : Keep Nil H' (upd H' p (.tup [.int g, .int h])) := Keep.alloc hp
    repeat kaf_suf
    refine v_ixN (S'.same kp).N (k2_nk upd_same) (k2_depth _ _) ev ?_
    exact k _ f e xs' x (k'.trans kp.weak) (t'.same kp) (S'.same kp) (B1.same kp) fl ex hf
theorem met_Putting_put {c : Cn} {mg : Str → Option Value} {base : Heap} (T : Txt c mg) : ∀ n : Nat, Met c.P c.w c.K mg base CX0 (3 + n) c.cPutting "put" (sp_Putting_put n c)
  | 0 => by
    obtain ⟨f, fd, F, g, b⟩ := T.F_Putting_put
    exact ⟨f, fd, ["self", "g", "h"], T.cl_Putting, g, F.ok (k := 2) (N := N_Putting_put) sc_Putting_put (fun vs H Q E h => (z_Putting_put h).elim) (fun cdv A outer s H vs Q E hr h => (z_Putting_put h).elim), b⟩
  | n + 1 => by
    obtain ⟨f, fd, F, g, b⟩ := T.F_Putting_put
    exact ⟨f, fd, ["self", "g", "h"], T.cl_Putting, g, F.ok (k := 3 + n) (N := N_Putting_put) sc_Putting_put (fun vs H Q E h => h.1) (fun cdv A outer s H vs Q E hr h => ⟨t_Putting_put n c, by
  exact (C8.pss_cut (ps_if (pt_cmpR (o_notin (hu65 hr)) (pe_tup (pa_cons (pv 1) (pa_cons (pv 2) pa_nil))) (pe_fld (pv 0) rfl) (by rfl)) (pss_cons (ps_setLc (i := 3) (own := [("move", 5)]) rfl sc_Putting_put.nd rfl rfl (sw_true rfl rfl rfl (by decide +kernel)) (pi_any (e_meth (met_Book_lefts T) hr (by omega) passL (pe_fld (pv 0) rfl) (pa_cons (pv 1) pa_nil))) (blkOk_by (own := [("move", 5)]) (N := N_Putting_put) (sc := defScope s_Putting_put) (by decide +kernel)) (fun _ _ _ _ _ => (pg_name (i := 5) sc_Putting_put.nd rfl (Or.inl rfl))) (fun _ _ _ _ _ => pts_nil) (fun _ _ _ _ _ => (e_meth (met_Putting_put T n) hr (by omega) pass0 (pv 0) (pa_cons (pv 5) (pa_cons (pv 2) pa_nil)))))
  (pss_cons (ps_expr (pe_bm PySem.F.plainAttrs_list PySem.F.slot_list_extend PySem.F.type_list_extend mt_extend (pv 3) (pa_cons (pe_lc (own := [("move", 5)]) rfl sc_Putting_put.nd (pi_any (e_meth (met_Book_lefts T) hr (by omega) passL (pe_fld (pv 0) rfl) (pa_cons (pv 2) pa_nil))) (blkOk_by (own := [("move", 5)]) (N := N_Putting_put) (sc := defScope s_Putting_put) (by decide +kernel)) (fun _ _ _ _ _ => (pg_name (i := 5) sc_Putting_put.nd rfl (Or.inl rfl))) (fun _ _ _ _ _ => pts_nil) (fun _ _ _ _ _ => (e_meth (met_Putting_put T n) hr (by omega) pass0 (pv 0) (pa_cons (pv 1) (pa_cons (pv 5) pa_nil))))) pa_nil)))
  (pss_cons (ps_setLc (i := 4) (own := [("move", 5)]) rfl sc_Putting_put.nd rfl rfl (sw_true rfl rfl rfl (by decide +kernel)) (pi_any (e_meth (met_Book_rights T) hr (by omega) passL (pe_fld (pv 0) rfl) (pa_cons (pv 1) pa_nil))) (blkOk_by (own := [("move", 5)]) (N := N_Putting_put) (sc := defScope s_Putting_put) (by decide +kernel)) (fun _ _ _ _ _ => (pg_name (i := 5) sc_Putting_put.nd rfl (Or.inl rfl))) (fun _ _ _ _ _ => pts_nil) (fun _ _ _ _ _ => (e_meth (met_Putting_put T n) hr (by omega) pass0 (pv 0) (pa_cons (pv 5) (pa_cons (pv 2) pa_nil)))))
  (pss_cons (ps_expr (pe_bm PySem.F.plainAttrs_list PySem.F.slot_list_extend PySem.F.type_list_extend mt_extend (pv 4) (pa_cons (pe_lc (own := [("move", 5)]) rfl sc_Putting_put.nd (pi_any (e_meth (met_Book_rights T) hr (by omega) passL (pe_fld (pv 0) rfl) (pa_cons (pv 2) pa_nil))) (blkOk_by (own := [("move", 5)]) (N := N_Putting_put) (sc := defScope s_Putting_put) (by decide +kernel)) (fun _ _ _ _ _ => (pg_name (i := 5) sc_Putting_put.nd rfl (Or.inl rfl))) (fun _ _ _ _ _ => pts_nil) (fun _ _ _ _ _ => (e_meth (met_Putting_put T n) hr (by omega) pass0 (pv 0) (pa_cons (pv 1) (pa_cons (pv 5) pa_nil))))) pa_nil)))
  (pss_one (ps_asg (e_meth (met_Book_game T) hr (by omega) passL (pe_fld (pv 0) rfl) (pa_cons (pv 3) (pa_cons (pv 4) pa_nil))) (pg_sub (pe_fld (pv 0) rfl) (pe_tup (pa_cons (pv 1) (pa_cons (pv 2) pa_nil))) (s_set (hu64 hr))))))))) pss_nil)
  (pss_one (ps_ret (pe_ix (x_ix (hu64 hr)) (pe_fld (pv 0) rfl) (pe_tup (pa_cons (pv 1) (pa_cons (pv 2) pa_nil))) (fun _ _ => rfl))))), p_Putting_put T h⟩), b⟩

/-! put together -/
def down (g : Nat) : List Int := (List.range (g + 1)).map fun (k : Nat) => (k : Int)
theorem down_mem {g : Nat} {z : Int} : z ∈ down g ↔ 0 ≤ z ∧ z ≤ g := by
  unfold down
  rw [List.mem_map]
  constructor
  · rintro ⟨k, hk, rfl⟩
    have := List.mem_range.mp hk
    omega
  · rintro ⟨h1, h2⟩
    exact ⟨z.toNat, List.mem_range.mpr (by omega), by omega⟩
theorem down_len {g : Nat} : (down g).length = g + 1 := by simp [down]
theorem down_cl {gs : List Gm} (o : GOk gs) {g : Nat} (hg : g < gs.length) : Cl gs (down g) := ⟨fun z hz => by have := down_mem.mp hz; omega, fun p hp s m hm => by
  have := down_mem.mp hp
  have := mvs_low o hm
  exact down_mem.mpr (by omega)⟩
abbrev N_put_together : List Str := ["book", "g", "h"]
theorem sc_put_together : FnScope N_put_together ["book", "g", "h"] (defScope s_put_together) := ⟨rfl, rfl, rfl, by decide +kernel, rfl, by decide +kernel, by decide +kernel⟩
def t_put_together (c : Cn) (E : XK) : TS :=
  (tSeq (tDrop (tMeth c.cBook "depth" (sx_Book_depth c) [] E (tVar 0) (tCons (tVar 1) tNil)))
  (tSeq (tDrop (tMeth c.cBook "depth" (sx_Book_depth c) [] E (tVar 0) (tCons (tVar 2) tNil)))
  (tRet (tMeth c.cPutting "put" (sp_Putting_put 70 c) [] E0 (tMake c.cPutting (sp_Putting_init c) [] E0 (tCons (tVar 0) tNil)) (tCons (tVar 1) (tCons (tVar 2) tNil))))))
def sp_put_together (c : Cn) : Sp := fun vs H Q E => vs.length = 3 ∧ ∃ (b : Addr) (M : Addr → Prop) (gs : List Gm) (ds : List Int) (A B' : List Int) (g h : Nat), vs = [.ref b, .int g, .int h] ∧ BookAt c H b M gs ds ∧ g < gs.length ∧ h < gs.length ∧ (∃ dg dh, ds[g]? = some dg ∧ ds[h]? = some dh ∧ dg + dh < 70) ∧ (g : Int) ∈ A ∧ (h : Int) ∈ B' ∧ Cl gs A ∧ Cl gs B' ∧ A.length + B'.length ≤ 4000 ∧ A.length * B'.length ≤ 30000 ∧ gs.length + A.length * B'.length ≤ 89000 ∧
  ∀ (H' : Hp) (f : List Gm) (e : List Int) (x : Int), Keep M H H' → BookAt c H' b M (gs ++ f) (ds ++ e) → f.length ≤ A.length * B'.length → sm (gs ++ f) [(g : Int), (h : Int)] = some x → ((∃ y, sm gs [(g : Int), (h : Int)] = some y) → f = []) → Q (.int x) H'
theorem p_put_together {c : Cn} {mg : Str → Option Value} (T : Txt c mg) {vs : List V} {H : Hp} {Q : VK} {E : XK} (h : sp_put_together c vs H Q E) : t_put_together c E { nx := fun _ H' => Q .non H', rt := Q } (start N_put_together vs) H := by
  obtain ⟨_, b, M, gs, ds, A, B', g, h, rfl, B, hg, hh, ⟨dg, dh, hdg, hdh, hdn⟩, gA, hB, cA, cB, len, len2, few, k⟩ := h
  obtain ⟨bx, bm, bn, bd, hb⟩ := B.ins_
  unfold t_put_together
  repeat kaf_suf
  refine ⟨rfl, .inl ⟨rfl, b, M, gs, ds, g, dg, rfl, B, hdg, ?_⟩⟩
  repeat kaf_suf
  refine ⟨rfl, .inl ⟨rfl, b, M, gs, ds, h, dh, rfl, B, hdh, ?_⟩⟩
  repeat kaf_suf
  intro pu dx hpu hdx ndx
  repeat kaf_suf
  have kI : Keep Nil H (upd (upd H dx (.own pu)) pu (.ins c.cPutting dx [])) := (Keep.alloc hdx).setN hpu
  refine ⟨rfl, pu, b, dx, M, gs, ds, rfl, upd_same, B.same kI, fun H1 tk sk htk hsk nst k1 es t1 => ⟨rfl, ?_⟩⟩
  have htk0 : H tk = none := keep_none kI htk
  have hsk0 : H sk = none := keep_none kI hsk
  have k01 : Keep Nil H H1 := fun a o n h => k1 a o (fun z => by rw [z, hpu] at h; cases h) (kI a o n h)
  have B1 := B.same k01
  have S1 : SumAt c H1 tk sk M gs A B' [] := ⟨⟨es, fun _ h => nomatch h⟩, SOk.nil, B.new hsk0, nst⟩
  obtain ⟨dx1, ht1⟩ := (t1 0).here
  clear k1 kI
  repeat kaf_suf
  refine ⟨rfl, pu, b, tk, sk, M, gs, ds, 0, [], A, B', [], g, h, rfl, t1 0, S1, B1, hg, hh, ⟨dg, dh, hdg, hdh, hdn⟩, gA, hB, cA, cB, len, len2, by simp only [List.length_nil]; omega, fun H2 f e xs' x k2' t2 S2 B2 fl ex hf => ?_⟩
  have tl := S2.ok.len
  simp only [List.length_nil] at fl
  exact k H2 f e x (fun a o n h => k2' a o (fun z => z.elim (fun z => by rw [z, hsk0] at h; cases h) n) (k01 a o (fun z => z) h)) B2 (by omega) ex hf
def sy_put_together (c : Cn) : Sp := fun vs H Q E => vs.length = 3 ∧ ∃ (b : Addr) (M : Addr → Prop) (gs : List Gm) (ds : List Int) (v w : V), vs = [.ref b, v, w] ∧ BookAt c H b M gs ds ∧ (BadV H gs.length v ∨ GoodV gs.length v ∧ BadV H gs.length w) ∧ E (.ref c.cNoGame) none H
theorem q_put_together {c : Cn} {mg : Str → Option Value} (T : Txt c mg) {vs : List V} {H : Hp} {Q : VK} {E : XK} (h : sy_put_together c vs H Q E) : t_put_together c E { nx := fun _ H' => Q .non H', rt := Q } (start N_put_together vs) H := by
  obtain ⟨_, b, M, gs, ds, v, w, rfl, B, bd, k⟩ := h
  obtain ⟨bx, bm, bn, bdx, hb⟩ := B.ins_
  unfold t_put_together
  repeat kaf_suf
  rcases bd with bd | ⟨⟨i, rfl, i0, i1⟩, bd⟩
  · exact ⟨rfl, .inr ⟨rfl, b, M, gs, ds, v, rfl, B, bd, k⟩⟩
  · have dl := B.dok.len
    obtain ⟨g, rfl⟩ := Int.eq_ofNat_of_zero_le i0
    obtain ⟨dg, hdg⟩ : ∃ v, ds[g]? = some v := ⟨_, List.getElem?_eq_getElem (by omega)⟩
    refine ⟨rfl, .inl ⟨rfl, b, M, gs, ds, g, dg, rfl, B, hdg, ?_⟩⟩
    repeat kaf_suf
    exact ⟨rfl, .inr ⟨rfl, b, M, gs, ds, w, rfl, B, bd, k⟩⟩
def sx_put_together (c : Cn) : Sp := fun vs H Q E => vs.length = 3 ∧ (sp_put_together c vs H Q E ∨ sy_put_together c vs H Q E)
theorem calx_put_together {c : Cn} {mg : Str → Option Value} {base : Heap} (T : Txt c mg) : Cal c.P c.w c.K mg base (L2.CX c.P c.w) 74 "put_together" (sx_put_together c) := by
  obtain ⟨f, fd, F, g, b⟩ := T.F_put_together
  exact ⟨f, fd, ["book", "g", "h"], F.okX (k := 73) (N := N_put_together) sc_put_together (fun vs H Q E h => h.1) (fun cdv A outer s H vs Q E hr h => ⟨t_put_together c E, by
  exact (pss_cons (ps_expr (e_meth (metx_Book_depth T) hr (by decide) (passes_call (takes_of rfl rfl rfl rfl) fun _ _ _ _ z => z) (pv 0) (pa_cons (pv 1) pa_nil)))
  (pss_cons (ps_expr (e_meth (metx_Book_depth T) hr (by decide) (passes_call (takes_of rfl rfl rfl rfl) fun _ _ _ _ z => z) (pv 0) (pa_cons (pv 2) pa_nil)))
  (pss_one (ps_ret (e_meth (met_Putting_put T 70) hr (by decide) pass0 (e_make (mak_Putting T) hr (by decide) pass0 rfl (pa_cons (pv 0) pa_nil)) (pa_cons (pv 1) (pa_cons (pv 2) pa_nil))))))), h.2.elim (p_put_together T) (q_put_together T)⟩), g, F.kp, b⟩
theorem cal_put_together {c : Cn} {mg : Str → Option Value} {base : Heap} (T : Txt c mg) : Cal c.P c.w c.K mg base (L2.CX c.P c.w) 74 "put_together" (sp_put_together c) := by
  obtain ⟨f, fd, ps, F, g, kp, b⟩ := (calx_put_together T).ex
  exact ⟨⟨f, fd, ps, F.imp fun vs H Q E h => ⟨h.1, .inl h⟩, g, kp, b⟩⟩
theorem trB_cl {gs : List Gm} (o : GOk gs) {h : Nat} : Cl gs ((down h).map fun k => (tr gs k).getD 0) := by
  have pos : 0 < gs.length := (List.getElem?_eq_some_iff.mp o.zero).1
  refine ⟨fun z hz => ?_, fun p hp s m hm => ?_⟩
  · obtain ⟨k, _, rfl⟩ := List.mem_map.mp hz
    cases e : tr gs k with
    | none => simp; omega
    | some x =>
      obtain ⟨_, _, _, _, _, _, z0, z1, _⟩ := tr_some o e
      have := (List.getElem?_eq_some_iff.mp z1).1
      simp; omega
  · obtain ⟨k, hk, rfl⟩ := List.mem_map.mp hp
    cases e : tr gs k with
    | none =>
      rw [e] at hm
      unfold mvs at hm
      rw [show ((none : Option Int).getD 0).toNat = 0 from rfl, o.zero] at hm
      cases s <;> simp at hm
    | some x =>
      rw [e] at hm
      obtain ⟨gm, a, b, e1, e2, e3, z0, z1, _⟩ := tr_some o e
      have low := o.low _ gm e1
      have kd := down_mem.mp hk
      rw [show ((some x : Option Int).getD 0) = x from rfl, mvs_canon z1 s, canon_mem] at hm
      have : ∃ y ∈ gm.1 ++ gm.2, tr gs y = some m := by
        cases s
        · obtain ⟨y, hy, ey⟩ := (mapO_mem e3 m).mp hm
          exact ⟨y, List.mem_append_left _ hy, ey⟩
        · obtain ⟨y, hy, ey⟩ := (mapO_mem e2 m).mp hm
          exact ⟨y, List.mem_append_right _ hy, ey⟩
      obtain ⟨y, hy, ey⟩ := this
      have := low y hy
      exact List.mem_map.mpr ⟨y, down_mem.mpr (by omega), by rw [ey]; rfl⟩
abbrev N_difference : List Str := ["book", "g", "h", "putting"]
theorem sc_difference : FnScope N_difference ["book", "g", "h"] (defScope s_difference) := ⟨rfl, rfl, rfl, by decide +kernel, rfl, by decide +kernel, by decide +kernel⟩
def t_difference (c : Cn) (E : XK) : TS :=
  (tSeq (tDrop (tMeth c.cBook "depth" (sx_Book_depth c) [] E (tVar 0) (tCons (tVar 1) tNil)))
  (tSeq (tDrop (tMeth c.cBook "depth" (sx_Book_depth c) [] E (tVar 0) (tCons (tVar 2) tNil)))
  (tSeq (tAsg (tMake c.cPutting (sp_Putting_init c) [] E0 (tCons (tVar 0) tNil)) (gName 3))
  (tRet (tMeth c.cPutting "put" (sp_Putting_put 70 c) [] E0 (tVar 3) (tCons (tVar 1) (tCons (tMeth c.cPutting "turn" (sp_Putting_turn 70 c) [] E0 (tVar 3) (tCons (tVar 2) tNil)) tNil)))))))
def sp_difference (c : Cn) : Sp := fun vs H Q E => vs.length = 3 ∧ ∃ (b : Addr) (M : Addr → Prop) (gs : List Gm) (ds : List Int) (g h : Nat), vs = [.ref b, .int g, .int h] ∧ BookAt c H b M gs ds ∧ g < gs.length ∧ h < gs.length ∧ (∃ dg dh, ds[g]? = some dg ∧ ds[h]? = some dh ∧ dg + dh < 70) ∧ g < 150 ∧ h < 150 ∧ gs.length ≤ 60000 ∧
  ∀ (H' : Hp) (f : List Gm) (e : List Int) (t x : Int), Keep M H H' → BookAt c H' b M (gs ++ f) (ds ++ e) → f.length ≤ (g + 2) * (h + 1) → tr (gs ++ f) h = some t → sm (gs ++ f) [(g : Int), t] = some x → Q (.int x) H'
theorem p_difference {c : Cn} {mg : Str → Option Value} (T : Txt c mg) {vs : List V} {H : Hp} {Q : VK} {E : XK} (h : sp_difference c vs H Q E) : t_difference c E { nx := fun _ H' => Q .non H', rt := Q } (start N_difference vs) H := by
  obtain ⟨_, b, M, gs, ds, g, h, rfl, B, hg, hh, ⟨dg, dh, hdg, hdh, hdn⟩, g150, h150, few, k⟩ := h
  obtain ⟨bx, bm, bn, bd, hb⟩ := B.ins_
  have dg0 := DOk.pos B.ok B.dok (g + 1) g (by omega) dg hdg
  unfold t_difference
  repeat kaf_suf
  refine ⟨rfl, .inl ⟨rfl, b, M, gs, ds, g, dg, rfl, B, hdg, ?_⟩⟩
  repeat kaf_suf
  refine ⟨rfl, .inl ⟨rfl, b, M, gs, ds, h, dh, rfl, B, hdh, ?_⟩⟩
  repeat kaf_suf
  intro pu dx hpu hdx ndx
  repeat kaf_suf
  have kI : Keep Nil H (upd (upd H dx (.own pu)) pu (.ins c.cPutting dx [])) := (Keep.alloc hdx).setN hpu
  refine ⟨rfl, pu, b, dx, M, gs, ds, rfl, upd_same, B.same kI, fun H1 tk sk htk hsk nst k1 es t1 => ⟨rfl, ?_⟩⟩
  have htk0 : H tk = none := keep_none kI htk
  have hsk0 : H sk = none := keep_none kI hsk
  have k01 : Keep Nil H H1 := fun a o n h => k1 a o (fun z => by rw [z, hpu] at h; cases h) (kI a o n h)
  have B1 := B.same k01
  have nMs : ¬ M sk := B.new hsk0
  obtain ⟨dx1, ht1⟩ := (t1 (h + 1)).here
  clear k1 kI
  repeat kaf_suf
  refine ⟨rfl, pu, b, tk, sk, M, gs, ds, h + 1, [], h, rfl, t1 (h + 1), B1, hh, ⟨dh, hdh, by omega⟩, by omega, by omega, by simp only [List.length_nil]; omega, fun H2 f e kvs' t k2' t2 B2 fl ex hf => ?_⟩
  have tl := t2.ok.len
  simp only [List.length_nil] at fl
  have k02 : Keep M H H2 := fun a o n h => k2' a o (fun z => z.elim (fun z => by rw [z, htk0] at h; cases h) n) (k01 a o (fun z => z) h)
  obtain ⟨gm, a, b', z1, _, _, t0, z2, _⟩ := tr_some B2.ok ex
  have tlt := (List.getElem?_eq_some_iff.mp z2).1
  have td := tr_depth B2.ok B2.dok _ _ _ (Nat.lt_succ_self _) (by omega) ex
  have hdh2 : (ds ++ e)[h]? = some dh := by rw [List.getElem?_append_left (List.getElem?_eq_some_iff.mp hdh).1]; exact hdh
  have hdg2 : (ds ++ e)[g]? = some dg := by rw [List.getElem?_append_left (List.getElem?_eq_some_iff.mp hdg).1]; exact hdg
  rw [Int.toNat_natCast, hdh2] at td
  obtain ⟨tn, rfl⟩ := Int.eq_ofNat_of_zero_le t0
  rw [Int.toNat_natCast] at td tlt
  have es2 : H2 sk = some (NdO c.P c.w sk []) := k2' _ _ (fun z => z.elim nst nMs) es
  have S2 : SumAt c H2 tk sk M (gs ++ f) (down g) ((down h).map fun k => (tr (gs ++ f) k).getD 0) [] := ⟨⟨es2, fun _ h => nomatch h⟩, SOk.nil, nMs, nst⟩
  have lB : ((down h).map fun k => (tr (gs ++ f) k).getD 0).length = h + 1 := by rw [List.length_map, down_len]
  have ll : (gs ++ f).length = gs.length + f.length := List.length_append
  have mul : (g + 1) * (h + 1) ≤ 150 * 150 := Nat.mul_le_mul (by omega) (by omega)
  have mul2 : (g + 2) * (h + 1) = (g + 1) * (h + 1) + (h + 1) := by rw [Nat.succ_mul]
  obtain ⟨dx2, ht2⟩ := t2.here
  repeat kaf_suf
  refine ⟨rfl, pu, b, tk, sk, M, gs ++ f, ds ++ e, h + 1, kvs', down g, _, [], g, tn, rfl, t2, S2, B2, by omega, tlt, ⟨dg, dh, hdg2, td, by omega⟩, down_mem.mpr (by omega), List.mem_map.mpr ⟨h, down_mem.mpr (by omega), by rw [ex]; rfl⟩, down_cl B2.ok (by omega), trB_cl B2.ok, by rw [down_len, lB]; omega, by rw [down_len, lB]; omega, by rw [down_len, lB, ll]; simp only [List.length_nil]; omega, fun H3 f3 e3 xs3 x k3 t3 S3 B3 fl3 ex3 hf3 => ?_⟩
  have sl := S3.ok.len
  rw [down_len, lB] at sl
  simp only [List.length_nil] at fl3
  have q1 : gs ++ (f ++ f3) = gs ++ f ++ f3 := by simp
  have q2 : ds ++ (e ++ e3) = ds ++ e ++ e3 := by simp
  refine k H3 (f ++ f3) (e ++ e3) tn x ?_ (by rw [q1, q2]; exact B3) (by rw [List.length_append]; omega) (by rw [q1]; exact tr_app ex) (by rw [q1]; exact ex3)
  exact fun a o n h => k3 a o (fun z => z.elim (fun z => by rw [z, hsk0] at h; cases h) n) (k02 a o n h)
def sy_difference (c : Cn) : Sp := fun vs H Q E => vs.length = 3 ∧ ∃ (b : Addr) (M : Addr → Prop) (gs : List Gm) (ds : List Int) (v w : V), vs = [.ref b, v, w] ∧ BookAt c H b M gs ds ∧ (BadV H gs.length v ∨ GoodV gs.length v ∧ BadV H gs.length w) ∧ E (.ref c.cNoGame) none H
theorem q_difference {c : Cn} {mg : Str → Option Value} (T : Txt c mg) {vs : List V} {H : Hp} {Q : VK} {E : XK} (h : sy_difference c vs H Q E) : t_difference c E { nx := fun _ H' => Q .non H', rt := Q } (start N_difference vs) H := by
  obtain ⟨_, b, M, gs, ds, v, w, rfl, B, bd, k⟩ := h
  obtain ⟨bx, bm, bn, bdx, hb⟩ := B.ins_
  unfold t_difference
  repeat kaf_suf
  rcases bd with bd | ⟨⟨i, rfl, i0, i1⟩, bd⟩
  · exact ⟨rfl, .inr ⟨rfl, b, M, gs, ds, v, rfl, B, bd, k⟩⟩
  · have dl := B.dok.len
    obtain ⟨g, rfl⟩ := Int.eq_ofNat_of_zero_le i0
    obtain ⟨dg, hdg⟩ : ∃ v, ds[g]? = some v := ⟨_, List.getElem?_eq_getElem (by omega)⟩
    refine ⟨rfl, .inl ⟨rfl, b, M, gs, ds, g, dg, rfl, B, hdg, ?_⟩⟩
    repeat kaf_suf
    exact ⟨rfl, .inr ⟨rfl, b, M, gs, ds, w, rfl, B, bd, k⟩⟩
def sx_difference (c : Cn) : Sp := fun vs H Q E => vs.length = 3 ∧ (sp_difference c vs H Q E ∨ sy_difference c vs H Q E)
theorem calx_difference {c : Cn} {mg : Str → Option Value} {base : Heap} (T : Txt c mg) : Cal c.P c.w c.K mg base (L2.CX c.P c.w) 74 "difference" (sx_difference c) := by
  obtain ⟨f, fd, F, g, b⟩ := T.F_difference
  exact ⟨f, fd, ["book", "g", "h"], F.okX (k := 73) (N := N_difference) sc_difference (fun vs H Q E h => h.1) (fun cdv A outer s H vs Q E hr h => ⟨t_difference c E, by
  exact (pss_cons (ps_expr (e_meth (metx_Book_depth T) hr (by decide) (passes_call (takes_of rfl rfl rfl rfl) fun _ _ _ _ z => z) (pv 0) (pa_cons (pv 1) pa_nil)))
  (pss_cons (ps_expr (e_meth (metx_Book_depth T) hr (by decide) (passes_call (takes_of rfl rfl rfl rfl) fun _ _ _ _ z => z) (pv 0) (pa_cons (pv 2) pa_nil)))
  (pss_cons (ps_set (i := 3) sc_difference.nd rfl (Or.inl rfl) (e_make (mak_Putting T) hr (by decide) pass0 rfl (pa_cons (pv 0) pa_nil)))
  (pss_one (ps_ret (e_meth (met_Putting_put T 70) hr (by decide) pass0 (pv 3) (pa_cons (pv 1) (pa_cons (e_meth (met_Putting_turn T 70) hr (by decide) pass0 (pv 3) (pa_cons (pv 2) pa_nil)) pa_nil)))))))), h.2.elim (p_difference T) (q_difference T)⟩), g, F.kp, b⟩
theorem cal_difference {c : Cn} {mg : Str → Option Value} {base : Heap} (T : Txt c mg) : Cal c.P c.w c.K mg base (L2.CX c.P c.w) 74 "difference" (sp_difference c) := by
  obtain ⟨f, fd, ps, F, g, kp, b⟩ := (calx_difference T).ex
  exact ⟨⟨f, fd, ps, F.imp fun vs H Q E h => ⟨h.1, .inl h⟩, g, kp, b⟩⟩

/-! all of a list put together -/
def bx (l : List Int) : Nat := (l.map fun z => z.toNat + 1).foldr (· * ·) 1
theorem bx_cons {z : Int} {l : List Int} : bx (z :: l) = (z.toNat + 1) * bx l := rfl
theorem bx_snoc {z : Int} : ∀ {l : List Int}, bx (l ++ [z]) = bx l * (z.toNat + 1)
  | [] => by simp [bx]
  | y :: r => by rw [List.cons_append, bx_cons, bx_cons, bx_snoc, Nat.mul_assoc]
theorem bx_pos : ∀ {l : List Int}, 1 ≤ bx l
  | [] => by simp [bx]
  | y :: r => by rw [bx_cons]; exact Nat.mul_pos (by omega) bx_pos
def totp (ns : List Int) : Nat → Nat
  | 0 => 0
  | i + 1 => totp ns i + bx (ns.take (i + 1))
/-- the lists of no more, place by place -/
def boxl : List Int → List (List Int)
  | [] => [[]]
  | g :: r => (down g.toNat).flatMap fun k => (boxl r).map (k :: ·)
theorem flen {α β : Type} {f : α → List β} {n : Nat} : ∀ {l : List α}, (∀ x ∈ l, (f x).length = n) → (l.flatMap f).length = l.length * n
  | [], _ => by simp
  | x :: r, h => by
    rw [List.flatMap_cons, List.length_append, h x List.mem_cons_self, flen fun y hy => h y (List.mem_cons_of_mem _ hy), List.length_cons, Nat.succ_mul, Nat.add_comm]
theorem boxl_len : ∀ {l : List Int}, (boxl l).length = bx l
  | [] => rfl
  | g :: r => by
    show ((down g.toNat).flatMap fun k => (boxl r).map (k :: ·)).length = _
    rw [flen (n := bx r) fun x _ => by rw [List.length_map, boxl_len], down_len, bx_cons]
theorem boxl_mem {g : Int} {r m : List Int} : m ∈ boxl (g :: r) ↔ ∃ (k : Int) (m' : List Int), 0 ≤ k ∧ k ≤ g.toNat ∧ m' ∈ boxl r ∧ m = k :: m' := by
  show m ∈ (down g.toNat).flatMap (fun k => (boxl r).map (k :: ·)) ↔ _
  rw [List.mem_flatMap]
  constructor
  · rintro ⟨k, hk, hm⟩
    obtain ⟨m', h1, rfl⟩ := List.mem_map.mp hm
    have := down_mem.mp hk
    exact ⟨k, m', this.1, this.2, h1, rfl⟩
  · rintro ⟨k, m', h1, h2, h3, rfl⟩
    exact ⟨k, down_mem.mpr ⟨h1, h2⟩, List.mem_map.mpr ⟨m', h3, rfl⟩⟩
theorem boxl_self : ∀ {l : List Int}, (∀ z ∈ l, 0 ≤ z) → l ∈ boxl l
  | [], _ => List.mem_singleton.mpr rfl
  | g :: r, h => by
    have := h g List.mem_cons_self
    exact boxl_mem.mpr ⟨g, r, this, by omega, boxl_self fun z hz => h z (List.mem_cons_of_mem _ hz), rfl⟩
theorem boxl_down {gs : List Gm} (o : GOk gs) {s : Bool} : ∀ {l m p : List Int}, m ∈ boxl l → p ∈ mvl gs s m → p ∈ boxl l
  | [], m, p, h, hp => by cases List.mem_singleton.mp h; exact nomatch hp
  | g :: r, m, p, h, hp => by
    obtain ⟨k, m', h1, h2, h3, rfl⟩ := boxl_mem.mp h
    rcases mvl_cons.mp hp with ⟨k', hk, rfl⟩ | ⟨r', hr, rfl⟩
    · have := mvs_low o hk
      exact boxl_mem.mpr ⟨k', m', by omega, by omega, h3, rfl⟩
    · exact boxl_mem.mpr ⟨k, r', h1, h2, boxl_down o h3 hr, rfl⟩
theorem box_cl {gs : List Gm} (o : GOk gs) {l : List Int} : Cl gs ((boxl l).map fun m => (sm gs m).getD 0) := by
  have pos : 0 < gs.length := (List.getElem?_eq_some_iff.mp o.zero).1
  refine ⟨fun z hz => ?_, fun p hp s m hm => ?_⟩
  · obtain ⟨k, _, rfl⟩ := List.mem_map.mp hz
    cases e : sm gs k with
    | none => simp; omega
    | some x => exact sm_lt o e
  · obtain ⟨k, hk, rfl⟩ := List.mem_map.mp hp
    cases e : sm gs k with
    | none =>
      rw [e] at hm
      unfold mvs at hm
      rw [show ((none : Option Int).getD 0).toNat = 0 from rfl, o.zero] at hm
      cases s <;> simp at hm
    | some x =>
      rw [e] at hm
      obtain ⟨a, b, e2, e3, z0, z1, _⟩ := sm_some o e
      rw [show ((some x : Option Int).getD 0) = x from rfl, mvs_canon z1 s, canon_mem] at hm
      have : ∃ s, ∃ y ∈ mvl gs s k, sm gs y = some m := by
        cases s
        · obtain ⟨y, hy, ey⟩ := (mapO_mem e3 m).mp hm
          exact ⟨_, y, hy, ey⟩
        · obtain ⟨y, hy, ey⟩ := (mapO_mem e2 m).mp hm
          exact ⟨_, y, hy, ey⟩
      obtain ⟨s', y, hy, ey⟩ := this
      exact List.mem_map.mpr ⟨y, boxl_down o hk hy, by rw [ey]; rfl⟩
theorem dsum_take {ds : List Int} (p : ∀ (i : Nat) (e : Int), ds[i]? = some e → 0 ≤ e) : ∀ (l : List Int) (i : Nat), dsum ds (l.take i) ≤ dsum ds l ∧ 0 ≤ dsum ds l
  | [], i => by simp [dsum]
  | z :: r, i => by
    have h0 : 0 ≤ ds[z.toNat]?.getD 0 := by
      cases e : ds[z.toNat]? with
      | none => simp
      | some v => exact p _ v e
    cases i with
    | zero => 
      have := (dsum_take p r 0).2
      simp only [dsum, List.take_zero, List.map_nil, List.sum_nil, List.map_cons, List.sum_cons] at this ⊢; omega
    | succ i =>
      have := dsum_take p r i
      simp only [dsum, List.take_succ_cons, List.map_cons, List.sum_cons] at this ⊢; omega
theorem dsum_snoc {ds l : List Int} {z : Int} : dsum ds (l ++ [z]) = dsum ds l + ds[z.toNat]?.getD 0 := by
  unfold dsum; simp
theorem dsum_app {gs : List Gm} {ds e l : List Int} (d : ds.length = gs.length) (R : Rg gs l) : dsum (ds ++ e) l = dsum ds l := by
  unfold dsum
  refine congrArg List.sum (List.map_congr_left fun z hz => ?_)
  have := R z hz
  rw [List.getElem?_append_left (by omega)]
abbrev N_all_together : List Str := ["book", "games", "g", "found"]
theorem sc_all_together : FnScope N_all_together ["book", "games"] (defScope s_all_together) := ⟨rfl, rfl, rfl, by decide +kernel, rfl, by decide +kernel, by decide +kernel⟩
def t_all_together (c : Cn) (E : XK) : TS :=
  (tSeq (tFor (iAny c.K (tVar 1)) (gName 2)
  (tDrop (tMeth c.cBook "depth" (sx_Book_depth c) [] E (tVar 0) (tCons (tVar 2) tNil))))
  (tSeq (tAsg (tC (.int 0)) (gName 3))
  (tSeq (tFor (iAny c.K (tVar 1)) (gName 2)
  (tAsg (tMeth c.cPutting "put" (sp_Putting_put 70 c) [] E0 (tMake c.cPutting (sp_Putting_init c) [] E0 (tCons (tVar 0) tNil)) (tCons (tVar 3) (tCons (tVar 2) tNil))) (gName 3)))
  (tRet (tVar 3)))))
def sp_all_together (c : Cn) : Sp := fun vs H Q E => vs.length = 2 ∧ ∃ (b l : Addr) (M : Addr → Prop) (gs : List Gm) (ds ns : List Int), vs = [.ref b, .ref l] ∧ BookAt c H b M gs ds ∧ H l = some (.lst (ns.map V.int)) ∧ ¬ M l ∧ Rg gs ns ∧ dsum ds ns < 70 ∧ (∀ i, bx (ns.take i) ≤ 2500) ∧ gs.length + totp ns ns.length ≤ 80000 ∧ ns.length ≤ 100 ∧
  ∀ (H' : Hp) (f : List Gm) (e : List Int) (x : Int), Keep M H H' → BookAt c H' b M (gs ++ f) (ds ++ e) → f.length ≤ totp ns ns.length → sm (gs ++ f) ns = some x → Q (.int x) H'
theorem totp_mono {ns : List Int} : ∀ {i j : Nat}, i ≤ j → totp ns i ≤ totp ns j
  | i, 0, h => by cases Nat.le_zero.mp h; exact Nat.le_refl _
  | i, j + 1, h => by
    by_cases e : i = j + 1
    · rw [e]; exact Nat.le_refl _
    · have := totp_mono (ns := ns) (i := i) (j := j) (by omega)
      show _ ≤ totp ns j + _
      omega
theorem p_all_together {c : Cn} {mg : Str → Option Value} (T : Txt c mg) {vs : List V} {H : Hp} {Q : VK} {E : XK} (h : sp_all_together c vs H Q E) : t_all_together c E { nx := fun _ H' => Q .non H', rt := Q } (start N_all_together vs) H := by
  obtain ⟨_, b, l, M, gs, ds, ns, rfl, B, hl, nl, R, dn, bxn, few, nn, k⟩ := h
  have dl := B.dok.len
  unfold t_all_together
  repeat kaf_suf
  refine for_list (xs := ns.map V.int) (fun i σ H' => ∃ x2 x3 : Option V, σ = [some (.ref b), some (.ref l), x2, x3] ∧ H' = H) ⟨_, _, rfl, rfl⟩ ?_ ?_ ?_
  · rintro i σ H' _ ⟨_, _, _, rfl⟩; exact SqL.of hl
  · rintro i x σ H1 hj ⟨x2, x3, rfl, rfl⟩
    rw [List.getElem?_map] at hj
    obtain ⟨m, hm, rfl⟩ := Option.map_eq_some_iff.mp hj
    have rm := R m (List.mem_of_getElem? hm)
    obtain ⟨mn, rfl⟩ := Int.eq_ofNat_of_zero_le rm.1
    obtain ⟨dm, hdm⟩ : ∃ v, ds[mn]? = some v := ⟨_, List.getElem?_eq_getElem (by omega)⟩
    obtain ⟨bx0, bm, bn, bd, hb⟩ := B.ins_
    repeat kaf_suf
    refine ⟨rfl, .inl ⟨rfl, b, M, gs, ds, mn, dm, rfl, B, hdm, ?_⟩⟩
    repeat kaf_suf
    exact ⟨_, _, rfl, rfl⟩
  rintro σ H1 ⟨x2, x3, rfl, rfl⟩
  repeat kaf_suf
  refine for_list (xs := ns.map V.int) (fun i σ H' => ∃ (x2 : Option V) (f : List Gm) (e : List Int) (x : Int), σ = [some (.ref b), some (.ref l), x2, some (.int x)] ∧ Keep M H1 H' ∧ BookAt c H' b M (gs ++ f) (ds ++ e) ∧ f.length ≤ totp ns i ∧ sm (gs ++ f) (ns.take i) = some x) ⟨_, [], [], 0, rfl, Keep.refl, by rw [List.append_nil, List.append_nil]; exact B, Nat.zero_le _, by rw [List.append_nil]; exact sm_nil B.ok⟩ ?_ ?_ ?_
  · rintro i σ H' _ ⟨_, _, _, _, _, kk, _⟩; exact SqL.of (kk _ _ nl hl)
  · rintro i x σ H2 hj ⟨x2, f, e, x, rfl, kk, B2, fl, ex⟩
    rw [List.getElem?_map] at hj
    obtain ⟨m, hm, rfl⟩ := Option.map_eq_some_iff.mp hj
    have hil := (List.getElem?_eq_some_iff.mp hm).1
    have rm := R m (List.mem_of_getElem? hm)
    obtain ⟨mn, rfl⟩ := Int.eq_ofNat_of_zero_le rm.1
    have xl := sm_lt B2.ok ex
    obtain ⟨xn, rfl⟩ := Int.eq_ofNat_of_zero_le xl.1
    have tk1 : ns.take (i + 1) = ns.take i ++ [(mn : Int)] := by rw [List.take_succ, hm]; rfl
    have ll : (gs ++ f).length = gs.length + f.length := List.length_append
    have b1 := bxn (i + 1)
    have b0 := bxn i
    have bp := bx_pos (l := ns.take i)
    rw [tk1, bx_snoc, Int.toNat_natCast] at b1
    have tm := totp_mono (ns := ns) (i := i + 1) (j := ns.length) (by omega)
    have tp1 : totp ns (i + 1) = totp ns i + bx (ns.take i) * (mn + 1) := by
      show totp ns i + bx (ns.take (i + 1)) = _
      rw [tk1, bx_snoc, Int.toNat_natCast]
    have lA : ((boxl (ns.take i)).map fun m => (sm (gs ++ f) m).getD 0).length = bx (ns.take i) := by rw [List.length_map, boxl_len]
    have s1 : mn + 1 ≤ bx (ns.take i) * (mn + 1) := Nat.le_mul_of_pos_left _ bp
    have s2 : bx (ns.take i) + (mn + 1) ≤ bx (ns.take i) * (mn + 1) + 1 := by
      obtain ⟨u, hu⟩ : ∃ u, bx (ns.take i) = u + 1 := ⟨bx (ns.take i) - 1, by omega⟩
      rw [hu, Nat.succ_mul]
      have := Nat.le_mul_of_pos_right u (show 0 < mn + 1 by omega)
      omega
    have Rt : Rg gs (ns.take i) := fun z hz => R z (List.mem_of_mem_take hz)
    have Rt' : Rg (gs ++ f) (ns.take i) := fun z hz => by have := Rt z hz; omega
    have dx := sm_depth B2.ok B2.dok _ _ _ (Nat.lt_succ_self _) Rt' ex
    rw [Int.toNat_natCast, dsum_app dl Rt] at dx
    obtain ⟨dm, hdm⟩ : ∃ v, ds[mn]? = some v := ⟨_, List.getElem?_eq_getElem (by omega)⟩
    have hdm2 : (ds ++ e)[mn]? = some dm := by rw [List.getElem?_append_left (by omega)]; exact hdm
    have pos : ∀ (i : Nat) (e : Int), ds[i]? = some e → 0 ≤ e := fun i e h => DOk.pos B.ok B.dok (i + 1) i (by omega) e h
    have dt := (dsum_take pos ns (i + 1)).1
    rw [tk1, dsum_snoc, Int.toNat_natCast, hdm, Option.getD_some] at dt
    repeat kaf_suf
    intro pu dx' hpu hdx ndx
    repeat kaf_suf
    have kI : Keep Nil H2 (upd (upd H2 dx' (.own pu)) pu (.ins c.cPutting dx' [])) := (Keep.alloc hdx).setN hpu
    refine ⟨rfl, pu, b, dx', M, _, _, rfl, upd_same, B2.same kI, fun H3 tk sk htk hsk nst k1 es t1 => ⟨rfl, ?_⟩⟩
    have hsk0 : H2 sk = none := keep_none kI hsk
    have k23 : Keep Nil H2 H3 := fun a o n h => k1 a o (fun z => by rw [z, hpu] at h; cases h) (kI a o n h)
    have B3 := B2.same k23
    have S3 : SumAt c H3 tk sk M (gs ++ f) ((boxl (ns.take i)).map fun m => (sm (gs ++ f) m).getD 0) (down mn) [] := ⟨⟨es, fun _ h => nomatch h⟩, SOk.nil, B2.new hsk0, nst⟩
    obtain ⟨dx3, ht3⟩ := (t1 0).here
    clear k1 kI
    repeat kaf_suf
    refine ⟨rfl, pu, b, tk, sk, M, _, _, 0, [], _, _, [], xn, mn, rfl, t1 0, S3, B3, by omega, by omega, ⟨_, dm, dx, hdm2, by omega⟩, List.mem_map.mpr ⟨ns.take i, boxl_self fun z hz => (Rt z hz).1, by rw [ex]; rfl⟩, down_mem.mpr (by omega), box_cl B2.ok, down_cl B2.ok (by omega), by rw [lA, down_len]; omega, by rw [lA, down_len]; omega, by rw [lA, down_len, ll]; simp only [List.length_nil]; omega, fun H4 f4 e4 xs4 x4 k4 t4 S4 B4 fl4 ex4 hf4 => ?_⟩
    have sl := S4.ok.len
    rw [lA, down_len] at sl
    simp only [List.length_nil] at fl4
    repeat kaf_suf
    have q1 : gs ++ (f ++ f4) = gs ++ f ++ f4 := by simp
    have q2 : ds ++ (e ++ e4) = ds ++ e ++ e4 := by simp
    refine ⟨_, f ++ f4, e ++ e4, x4, rfl, kk.trans fun a o n h => k4 a o (fun z => z.elim (fun z => by rw [z, hsk0] at h; cases h) n) (k23 a o (fun z => z) h), by rw [q1, q2]; exact B4, by rw [List.length_append]; omega, ?_⟩
    rw [q1, tk1]
    exact sm_snoc B4.ok _ _ _ _ _ (Nat.lt_succ_self _) (sm_app B2.ok Rt' ex) ex4
  · rintro σ H2 ⟨x2, f, e, x, rfl, kk, B2, fl, ex⟩
    rw [List.length_map] at fl ex
    rw [List.take_length] at ex
    repeat kaf_suf
    exact k H2 f e x kk B2 fl ex
def sy_all_together (c : Cn) : Sp := fun vs H Q E => vs.length = 2 ∧ ∃ (b : Addr) (M : Addr → Prop) (gs : List Gm) (ds : List Int) (l : Addr) (xs : List V), vs = [.ref b, .ref l] ∧ BookAt c H b M gs ds ∧ H l = some (.lst xs) ∧ (∀ x ∈ xs, GoodV gs.length x ∨ BadV H gs.length x) ∧ (∃ x ∈ xs, BadV H gs.length x) ∧ E (.ref c.cNoGame) none H
theorem q_all_together {c : Cn} {mg : Str → Option Value} (T : Txt c mg) {vs : List V} {H : Hp} {Q : VK} {E : XK} (h : sy_all_together c vs H Q E) : t_all_together c E { nx := fun _ H' => Q .non H', rt := Q } (start N_all_together vs) H := by
  obtain ⟨_, b, M, gs, ds, l, xs, rfl, B, hl, all, some_, k⟩ := h
  obtain ⟨bx, bm, bn, bdx, hb⟩ := B.ins_
  have dl := B.dok.len
  unfold t_all_together
  repeat kaf_suf
  refine for_list (xs := xs) (fun i σ H' => H' = H ∧ (∀ j v, j < i → xs[j]? = some v → GoodV gs.length v) ∧ ∃ x2 x3 : Option V, σ = [some (.ref b), some (.ref l), x2, x3]) ⟨rfl, fun j v h => absurd h (Nat.not_lt_zero _), _, _, rfl⟩ ?_ ?_ ?_
  · rintro i σ H' _ ⟨rfl, _⟩; exact SqL.of hl
  · rintro i x σ H1 hi ⟨rfl, gd, x2, x3, rfl⟩
    repeat kaf_suf
    rcases all x (List.mem_of_getElem? hi) with gx | bd
    · obtain ⟨m, rfl, m0, m1⟩ := id gx
      obtain ⟨g, rfl⟩ := Int.eq_ofNat_of_zero_le m0
      obtain ⟨dg, hdg⟩ : ∃ v, ds[g]? = some v := ⟨_, List.getElem?_eq_getElem (by omega)⟩
      refine ⟨rfl, .inl ⟨rfl, b, M, gs, ds, g, dg, rfl, B, hdg, ?_⟩⟩
      repeat kaf_suf
      refine ⟨rfl, fun j v hj hv => ?_, _, _, rfl⟩
      by_cases e : j = i
      · subst e; rw [hi] at hv; cases hv; exact gx
      · exact gd j v (by omega) hv
    · exact ⟨rfl, .inr ⟨rfl, b, M, gs, ds, x, rfl, B, bd, k⟩⟩
  · rintro σ H' ⟨rfl, gd, _⟩
    obtain ⟨v, hv, bd⟩ := some_
    obtain ⟨j, hj, rfl⟩ := List.getElem_of_mem hv
    exact ((gd j _ hj (List.getElem?_eq_getElem hj)).not bd).elim
def sx_all_together (c : Cn) : Sp := fun vs H Q E => vs.length = 2 ∧ (sp_all_together c vs H Q E ∨ sy_all_together c vs H Q E)
theorem calx_all_together {c : Cn} {mg : Str → Option Value} {base : Heap} (T : Txt c mg) : Cal c.P c.w c.K mg base (L2.CX c.P c.w) 74 "all_together" (sx_all_together c) := by
  obtain ⟨f, fd, F, g, b⟩ := T.F_all_together
  exact ⟨f, fd, ["book", "games"], F.okX (k := 73) (N := N_all_together) sc_all_together (fun vs H Q E h => h.1) (fun cdv A outer s H vs Q E hr h => ⟨t_all_together c E, by
  exact (pss_cons (ps_for (passes_of rfl) rfl (pi_any (pv 1)) (pg_name (i := 2) sc_all_together.nd rfl (Or.inl rfl))
  (pss_one (ps_expr (e_meth (metx_Book_depth T) hr (by decide) (passes_call (takes_of rfl rfl rfl rfl) fun _ _ _ _ z => z) (pv 0) (pa_cons (pv 2) pa_nil)))))
  (pss_cons (ps_set (i := 3) sc_all_together.nd rfl (Or.inl rfl) pe_int)
  (pss_cons (ps_for (passes_of rfl) rfl (pi_any (pv 1)) (pg_name (i := 2) sc_all_together.nd rfl (Or.inl rfl))
  (pss_one (ps_set (i := 3) sc_all_together.nd rfl (Or.inl rfl) (e_meth (met_Putting_put T 70) hr (by decide) pass0 (e_make (mak_Putting T) hr (by decide) pass0 rfl (pa_cons (pv 0) pa_nil)) (pa_cons (pv 3) (pa_cons (pv 2) pa_nil))))))
  (pss_one (ps_ret (pv 3)))))), h.2.elim (p_all_together T) (q_all_together T)⟩), g, F.kp, b⟩
theorem cal_all_together {c : Cn} {mg : Str → Option Value} {base : Heap} (T : Txt c mg) : Cal c.P c.w c.K mg base (L2.CX c.P c.w) 74 "all_together" (sp_all_together c) := by
  obtain ⟨f, fd, ps, F, g, kp, b⟩ := (calx_all_together T).ex
  exact ⟨⟨f, fd, ps, F.imp fun vs H Q E h => ⟨h.1, .inl h⟩, g, kp, b⟩⟩

/-! the sums due -/
theorem sm_zero {gs : List Gm} (o : GOk gs) : ∀ (n : Nat) (g : Nat), g < n → g < gs.length → sm gs [(g : Int), 0] = some (g : Int)
  | 0, _, h, _ => by omega
  | n + 1, g, hn, hg => by
    have z : ∀ s, mvs gs 0 s = [] := fun s => by unfold mvs; rw [o.zero]; cases s <;> rfl
    have e1 : ∀ s, mapO (sm gs) (mvl gs s [(g : Int), 0]) = some (mvs gs g s) := fun s => by
      rw [mvl_two, Int.toNat_natCast, show (0 : Int).toNat = 0 from rfl, z, List.map_nil, List.append_nil, mapO_map]
      refine mapO_id fun m hm => ?_
      obtain ⟨m0, m1, _⟩ := mvs_low o hm
      obtain ⟨k, rfl⟩ := Int.eq_ofNat_of_zero_le m0
      exact sm_zero o n k (by omega) (by omega)
    rw [sm_eq o]
    refine bind3.mpr ⟨_, _, e1 true, e1 false, ?_⟩
    rw [canon_self (mvs_up o), canon_self (mvs_up o)]
    refine look_of o.nd ?_
    have e := List.getElem?_eq_getElem hg
    unfold mvs
    rw [e]; rfl
theorem RowsAt.weak {W W' : Addr → Prop} {H : Hp} {R : Addr} {gs : List Gm} (r : RowsAt W H R gs) (s : ∀ x, W' x → W x) : RowsAt W' H R gs := by
  obtain ⟨ks, h, p⟩ := r
  exact ⟨ks, h, paired_keep p fun t g ⟨a, b, h1, h2, h3, n1, n2, n3⟩ => ⟨a, b, h1, h2, h3, fun z => n1 (s _ z), fun z => n2 (s _ z), fun z => n3 (s _ z)⟩⟩

theorem tr_zero {gs : List Gm} (o : GOk gs) : tr gs 0 = some 0 := by
  rw [tr_eq o (g := 0) o.zero]
  exact bind3.mpr ⟨[], [], rfl, rfl, look_of o.nd o.zero⟩

/-! slices -/
theorem v_slA {K : PySem.W.Frag} {H : Hp} {Q : VK} {l : Addr} {xs : List V} {lo hi : Option Int} (h : H l = some (.tup xs)) (k : ∀ p H', H' p = some (.tup (cutV xs lo hi)) → Keep Nil H H' → Q (.ref p) H') : bSl K (.ref l) lo hi H Q :=
  .inr ⟨l, xs, rfl, SqT.of h, fun e => k l H (by
    have : cutV xs lo hi = xs := by unfold cutV; rw [e.1, e.2]; simp
    rw [this]; exact h) Keep.refl, fun _ p hp => k p _ upd_same (Keep.alloc hp)⟩
theorem cutV_take (xs : List V) (k : Nat) : cutV xs none (some (k : Int)) = xs.take k := by
  unfold cutV
  rw [HT.sIx_nat, HT.sIx_none]
  simp only [List.drop_zero, Nat.sub_zero]
  by_cases h : k ≤ xs.length
  · rw [Nat.min_eq_left h]
  · rw [Nat.min_eq_right (by omega), List.take_of_length_le (Nat.le_refl _), List.take_of_length_le (by omega)]
theorem cutV_drop (xs : List V) (k : Nat) : cutV xs (some (k : Int)) none = xs.drop k := by
  unfold cutV
  rw [HT.sIx_nat, HT.sIx_none]
  by_cases h : k ≤ xs.length
  · rw [Nat.min_eq_left h, List.take_of_length_le (by rw [List.length_drop]; omega)]
  · rw [Nat.min_eq_right (by omega), List.drop_of_length_le (Nat.le_refl _), List.drop_of_length_le (by omega), List.take_nil]

/-! lists of truths -/
theorem dp_bls {K : PySem.W.Frag} {H : Hp} : ∀ (l : List Bool), DpAll K H (l.map V.bl) (l.map PyData.bool)
  | [] => .nil
  | x :: r => .cons (.bl x) (dp_bls r)
theorem eqv_bls1 : ∀ ns ms : List Bool, PyData.eqvAll (ns.map PyData.bool) (ms.map PyData.bool) = decide (ns = ms)
  | [], [] => by simp [PyData.eqvAll]
  | [], _ :: _ => by simp [PyData.eqvAll]
  | _ :: _, [] => by simp [PyData.eqvAll]
  | a :: r, b :: t => by
    simp only [List.map_cons, PyData.eqvAll, PyData.eqv, eqv_bls1 r t]
    cases a <;> cases b <;> by_cases h' : r = t <;> simp [h']
theorem eqv_bls (a b : List Bool) : PyData.eqv (.list (a.map PyData.bool)) (.list (b.map PyData.bool)) = decide (a = b) := by
  simp only [PyData.eqv]; exact eqv_bls1 a b
theorem lay_bls : ∀ ns : List Bool, PyData.canLayAll0 (ns.map PyData.bool) = true
  | [] => by simp [PyData.canLayAll0]
  | _ :: r => by simp [PyData.canLayAll0, PyData.canLay0, lay_bls r]
theorem dpt_bls : ∀ ns : List Bool, PyData.depthAll (ns.map PyData.bool) = 0
  | [] => by simp [PyData.depthAll]
  | _ :: r => by simp [PyData.depthAll, PyData.depth, dpt_bls r]
theorem bls_sh (l : List Bool) : SeqAt.shaped (.list (l.map PyData.bool)) = true := shaped_of (by simp only [PyData.canLay0]; exact lay_bls l) (by simp only [PyData.depth, dpt_bls]; omega)

/-! the kinds of what was caught: a refusal of a number -/
abbrev N_law_kinds : List Str := ["caught", "due", "kinds", "k"]
theorem sc_law_kinds : FnScope N_law_kinds ["caught", "due"] (defScope s_law_kinds) := ⟨rfl, rfl, rfl, by decide +kernel, rfl, by decide +kernel, by decide +kernel⟩
def t_law_kinds (c : Cn) : TS :=
  (tSeq (tAsg (tLst (tCons (tCB (uIsV c.K) (tCons (tVar 0) (tCons (tC (.ref c.cNoGame)) tNil))) (tCons (tCB (uIsV c.K) (tCons (tVar 0) (tCons (tC (.ref c.cNoBoard)) tNil))) (tCons (tCB (uIsV c.K) (tCons (tVar 0) (tCons (tC (.ref c.cNoName)) tNil))) tNil)))) (gName 2))
  (tSeq (tAsg (tOp (bAdd c.K) (tVar 2) (tLst (tCons (tCB (uIsV c.K) (tCons (tVar 0) (tCons (tC (.ref c.cNoNumber)) tNil))) (tCons (tCB (uIsV c.K) (tCons (tVar 0) (tCons (tC (.ref c.cNoRoad)) tNil))) (tCons (tCB (uIsV c.K) (tCons (tVar 0) (tCons (tC (.ref c.cNoRow)) tNil))) tNil))))) (gName 2))
  (tSeq (tAsg (tOp (bAdd c.K) (tVar 2) (tLst (tCons (tCB (uIsV c.K) (tCons (tVar 0) (tCons (tC (.ref c.cNoText)) tNil))) (tCons (tNotV (tCB (uIsV c.K) (tCons (tVar 0) (tCons (tC (.ty "ValueError")) tNil)))) tNil)))) (gName 2))
  (tRet (tAndV (tOp cIsNot (tVar 0) (tC .non)) (tOp (cEq c.K) (tVar 2) (tLc (iRng1 (tCons (tC (.int 8)) tNil)) (gName 3) tYes (tOp (cEq c.K) (tVar 3) (tVar 1)) [3])))))))
def sp_law_kinds (c : Cn) : Sp := fun vs H Q E => vs.length = 2 ∧ ∃ (a : Addr), vs = [.ref a, .int 0] ∧ H a = some (ExV (.ref c.cNoGame) a) ∧ ∀ H', Keep Nil H H' → Q (.bl true) H'
theorem p_law_kinds {c : Cn} {mg : Str → Option Value} (T : Txt c mg) {vs : List V} {H : Hp} {Q : VK} {E : XK} (h : sp_law_kinds c vs H Q E) : t_law_kinds c { nx := fun _ H' => Q .non H', rt := Q } (start N_law_kinds vs) H := by
  obtain ⟨_, a, rfl, ha, k⟩ := h
  unfold t_law_kinds
  have ex := Txt.e_NoGame T
  (repeat kaf_suf)
  refine v_isV ha ex (.own _) (Txt.i_NoGame_NoGame T) ?_
  (repeat kaf_suf)
  refine v_isV ha ex (.own _) (Txt.i_NoGame_NoBoard T) ?_
  (repeat kaf_suf)
  refine v_isV ha ex (.own _) (Txt.i_NoGame_NoName T) ?_
  (repeat kaf_suf)
  intro p1 hp1
  have ha1 := get_new (u := .lst [V.bl true, V.bl false, V.bl false]) hp1 ha
  (repeat kaf_suf)
  refine v_isV ha1 ex (.own _) (Txt.i_NoGame_NoNumber T) ?_
  (repeat kaf_suf)
  refine v_isV ha1 ex (.own _) (Txt.i_NoGame_NoRoad T) ?_
  (repeat kaf_suf)
  refine v_isV ha1 ex (.own _) (Txt.i_NoGame_NoRow T) ?_
  (repeat kaf_suf)
  intro p2 hp2
  (repeat kaf_suf)
  refine v_addL (by kaf_pre) (by kaf_pre) (few2 (by simp)) ?_
  intro p3 hp3
  have ha3 := get_new (u := .lst ([V.bl true, V.bl false, V.bl false] ++ [V.bl false, V.bl false, V.bl false])) hp3 (get_new (u := .lst [V.bl false, V.bl false, V.bl false]) hp2 ha1)
  (repeat kaf_suf)
  refine v_isV ha3 ex (.own _) (Txt.i_NoGame_NoText T) ?_
  (repeat kaf_suf)
  refine v_isV ha3 ex (.ty _) (Txt.iv_NoGame T) ?_
  (repeat kaf_suf)
  intro p4 hp4
  (repeat kaf_suf)
  refine v_addL (by kaf_pre) (by kaf_pre) (few2 (by simp)) ?_
  intro p5 hp5
  refine r_nx (absS (S := fun HT => Keep Nil H HT ∧ HT p5 = some (.lst (([true, false, false, false, false, false, false, false] : List Bool).map V.bl))) ⟨((((Keep.alloc hp1).new hp2).new hp3).new hp4).new hp5, upd_same⟩ fun H6 ⟨k6, e6⟩ => ?_)
  clear hp5 hp4 ha3 hp3 hp2 ha1 hp1
  (repeat kaf_suf)
  have nn : (!decide (V.ref a = V.non)) = true := by
    rw [decide_eq_false (fun z => by cases z)]; rfl
  rw [nn]
  (repeat kaf_suf)
  intro D hD
  refine lc_range (lo := 0) (n := (8 : Int).toNat) (fun i H' => H' D = some (.lst (((List.range i).map fun j => decide (j = 0)).map V.bl)) ∧ Keep Nil H6 H') ⟨upd_same, Keep.alloc hD⟩ ?_ ?_
  · rintro i H4 hi ⟨e4, k4⟩
    (repeat kaf_suf)
    refine ⟨rfl, ?_⟩
    (repeat kaf_suf)
    refine ⟨_, e4, few1 (by simp; omega), ?_, k4.setN hD⟩
    rw [upd_same, List.range_succ, List.map_append, List.map_append]
    have e : decide ((0 : Int) + (i : Int) = 0) = decide (i = 0) := by by_cases h : i = 0 <;> simp [h]
    rw [e]; rfl
  · rintro H4 ⟨e4, k4⟩
    have e0 : ((List.range (8 : Int).toNat).map fun j => decide (j = 0)) = [true, false, false, false, false, false, false, false] := by decide +kernel
    rw [e0] at e4
    refine v_eqD (d := .list (([true, false, false, false, false, false, false, false] : List Bool).map PyData.bool)) (e := .list (([true, false, false, false, false, false, false, false] : List Bool).map PyData.bool)) (.lst (SqL.of (k4.get (fun z => z) e6)) (dp_bls _)) (.lst (SqL.of e4) (dp_bls _)) (bls_sh _) (bls_sh _) ?_
    rw [eqv_bls, decide_eq_true rfl]
    (repeat kaf_suf)
    exact k _ (k6.trans k4)
theorem cal_law_kinds {c : Cn} {mg : Str → Option Value} {base : Heap} (T : Txt c mg) : Cal c.P c.w c.K mg base CX0 1 "_law_kinds" (sp_law_kinds c) := by
  obtain ⟨f, fd, F, g, b⟩ := T.F_law_kinds
  exact ⟨f, fd, ["caught", "due"], F.ok (k := 0) (N := N_law_kinds) sc_law_kinds (fun vs H Q E h => h.1) (fun cdv A outer s H vs Q E hr h => ⟨t_law_kinds c, by
  exact (pss_cons (ps_set (i := 2) sc_law_kinds.nd rfl (Or.inl rfl) (pe_lst (pa_cons (pe_callB k_isV (by rfl) T.n_isinstance (by decide +kernel) (pa_cons (pv 0) (pa_cons (pe_glob rfl T.g_NoGame rfl) pa_nil))) (pa_cons (pe_callB k_isV (by rfl) T.n_isinstance (by decide +kernel) (pa_cons (pv 0) (pa_cons (pe_glob rfl T.g_NoBoard rfl) pa_nil))) (pa_cons (pe_callB k_isV (by rfl) T.n_isinstance (by decide +kernel) (pa_cons (pv 0) (pa_cons (pe_glob rfl T.g_NoName rfl) pa_nil))) pa_nil)))))
  (pss_cons (ps_set (i := 2) sc_law_kinds.nd rfl (Or.inl rfl) (pe_op o_add (pv 2) (pe_lst (pa_cons (pe_callB k_isV (by rfl) T.n_isinstance (by decide +kernel) (pa_cons (pv 0) (pa_cons (pe_glob rfl T.g_NoNumber rfl) pa_nil))) (pa_cons (pe_callB k_isV (by rfl) T.n_isinstance (by decide +kernel) (pa_cons (pv 0) (pa_cons (pe_glob rfl T.g_NoRoad rfl) pa_nil))) (pa_cons (pe_callB k_isV (by rfl) T.n_isinstance (by decide +kernel) (pa_cons (pv 0) (pa_cons (pe_glob rfl T.g_NoRow rfl) pa_nil))) pa_nil))))))
  (pss_cons (ps_set (i := 2) sc_law_kinds.nd rfl (Or.inl rfl) (pe_op o_add (pv 2) (pe_lst (pa_cons (pe_callB k_isV (by rfl) T.n_isinstance (by decide +kernel) (pa_cons (pv 0) (pa_cons (pe_glob rfl T.g_NoText rfl) pa_nil))) (pa_cons (pe_not (pe_callB k_isV (by rfl) T.n_isinstance (by decide +kernel) (pa_cons (pv 0) (pa_cons (pe_bltn rfl T.n_ValueError (by decide +kernel) rfl) pa_nil)))) pa_nil)))))
  (pss_one (ps_ret (pe_and (pe_cmpR o_isnot (pv 0) pe_non (nomark _)) (pe_one (pe_cmpR (o_eq (hu64 hr)) (pv 2) (pe_lc (own := [("k", 3)]) rfl sc_law_kinds.nd (pi_range1 rfl T.n_range (pa_cons pe_int pa_nil)) (blkOk_by (own := [("k", 3)]) (N := N_law_kinds) (sc := defScope s_law_kinds) (by decide +kernel)) (fun _ _ _ _ _ => (pg_name (i := 3) sc_law_kinds.nd rfl (Or.inl rfl))) (fun _ _ _ _ _ => pts_nil) (fun _ _ _ _ _ => (pe_cmpR (o_eq (hu64 hr)) (pv 3) (pv 1) (nomark _)))) (nomark _))))))))), p_law_kinds T h⟩), g, F.kp, b⟩

abbrev N_law_asked : List Str := ["book", "way", "thing", "good", "at", "some"]
theorem sc_law_asked : FnScope N_law_asked ["book", "way", "thing", "good", "at"] (defScope s_law_asked) := ⟨rfl, rfl, rfl, by decide +kernel, rfl, by decide +kernel, by decide +kernel⟩
def t_law_asked (c : Cn) (E : XK) : TS :=
  (tIfS (tTest (tOp (cEq c.K) (tVar 1) (tC (.int 0))))
  (tDrop (tCall (sx_who_wins c) [] E (tCons (tVar 0) (tCons (tVar 2) tNil))))
  (tIfS (tTest (tOp (cLt c.K) (tVar 1) (tC (.int 3))))
  (tDrop (tCall (sx_winning_moves c) [] E (tCons (tVar 0) (tCons (tVar 2) (tCons (tOp (bIx c.P c.w c.K) (tLst (tCons (tC (.str "left")) (tCons (tC (.str "right")) tNil))) (tOp bSub (tVar 1) (tC (.int 1)))) tNil)))))
  (tIfS (tTest (tOp (cEq c.K) (tVar 1) (tC (.int 3))))
  (tDrop (tCall (sx_turned c) [] E (tCons (tVar 0) (tCons (tVar 2) tNil))))
  (tIfS (tTest (tOp (cLt c.K) (tVar 1) (tC (.int 6))))
  (tDrop (tCall (sx_put_together c) [] E (tCons (tVar 0) (tCons (tOp (bIx c.P c.w c.K) (tLst (tCons (tVar 2) (tCons (tVar 3) (tCons (tVar 2) tNil)))) (tOp bSub (tVar 1) (tC (.int 4)))) (tCons (tOp (bIx c.P c.w c.K) (tLst (tCons (tVar 3) (tCons (tVar 2) (tCons (tVar 2) tNil)))) (tOp bSub (tVar 1) (tC (.int 4)))) tNil)))))
  (tIfS (tTest (tOp (cLt c.K) (tVar 1) (tC (.int 9))))
  (tDrop (tCall (sx_difference c) [] E (tCons (tVar 0) (tCons (tOp (bIx c.P c.w c.K) (tLst (tCons (tVar 2) (tCons (tVar 3) (tCons (tVar 2) tNil)))) (tOp bSub (tVar 1) (tC (.int 6)))) (tCons (tOp (bIx c.P c.w c.K) (tLst (tCons (tVar 3) (tCons (tVar 2) (tCons (tVar 2) tNil)))) (tOp bSub (tVar 1) (tC (.int 6)))) tNil)))))
  (tSeq (tAsg (tLst (tCons (tVar 3) (tCons (tC (.int 0)) (tCons (tVar 3) tNil)))) (gName 5))
  (tDrop (tCall (sx_all_together c) [] E (tCons (tVar 0) (tCons (tOp (bAdd c.K) (tOp (bAdd c.K) (tSl (bSl c.K) (tVar 5) tNoPart (tPart (tVar 4))) (tLst (tCons (tVar 2) tNil))) (tSl (bSl c.K) (tVar 5) (tPart (tVar 4)) tNoPart)) tNil))))))))))
def sp_law_asked (c : Cn) : Sp := fun vs H Q E => vs.length = 5 ∧ False
theorem p_law_asked {c : Cn} {mg : Str → Option Value} (T : Txt c mg) {vs : List V} {H : Hp} {Q : VK} {E : XK} (h : sp_law_asked c vs H Q E) : t_law_asked c E { nx := fun _ H' => Q .non H', rt := Q } (start N_law_asked vs) H := h.2.elim
def sy_law_asked (c : Cn) : Sp := fun vs H Q E => vs.length = 5 ∧ ∃ (b : Addr) (M : Addr → Prop) (gs : List Gm) (ds : List Int) (v : V) (way at_ : Nat) (good : Int), vs = [.ref b, .int way, v, .int good, .int at_] ∧ BookAt c H b M gs ds ∧ BadV H gs.length v ∧ 0 ≤ good ∧ good < gs.length ∧ way ≤ 9 ∧ at_ ≤ 3 ∧ ∀ H', Keep Nil H H' → E (.ref c.cNoGame) none H'
theorem q_law_asked {c : Cn} {mg : Str → Option Value} (T : Txt c mg) {vs : List V} {H : Hp} {Q : VK} {E : XK} (h : sy_law_asked c vs H Q E) : t_law_asked c E { nx := fun _ H' => Q .non H', rt := Q } (start N_law_asked vs) H := by
  obtain ⟨_, b, M, gs, ds, v, way, at_, good, rfl, B, bd, g0, g1, hw, ha, k⟩ := h
  have gd : GoodV gs.length (.int good) := ⟨good, rfl, g0, g1⟩
  have pos := B.pos
  unfold t_law_asked
  have : way = 0 ∨ way = 1 ∨ way = 2 ∨ way = 3 ∨ way = 4 ∨ way = 5 ∨ way = 6 ∨ way = 7 ∨ way = 8 ∨ way = 9 := by omega
  rcases this with rfl | rfl | rfl | rfl | rfl | rfl | rfl | rfl | rfl | rfl
  · (repeat kaf_suf)
    exact ⟨rfl, .inr ⟨rfl, b, M, gs, ds, v, rfl, B, bd, k H Keep.refl⟩⟩
  · (repeat kaf_suf)
    intro p1 hp1
    have kk := Keep.alloc (M := Nil) (o := .lst [.str "left", .str "right"]) hp1
    (repeat kaf_suf)
    exact ⟨rfl, .inr ⟨rfl, b, M, gs, ds, v, true, rfl, B.same kk, bd.keep kk, fun H2 k2 => k H2 (kk.trans k2)⟩⟩
  · (repeat kaf_suf)
    intro p1 hp1
    have kk := Keep.alloc (M := Nil) (o := .lst [.str "left", .str "right"]) hp1
    (repeat kaf_suf)
    exact ⟨rfl, .inr ⟨rfl, b, M, gs, ds, v, false, rfl, B.same kk, bd.keep kk, fun H2 k2 => k H2 (kk.trans k2)⟩⟩
  · (repeat kaf_suf)
    exact ⟨rfl, .inr ⟨rfl, b, M, gs, ds, v, rfl, B, bd, k H Keep.refl⟩⟩
  · (repeat kaf_suf)
    intro p1 hp1
    (repeat kaf_suf)
    intro p2 hp2
    have kk := (Keep.alloc (M := Nil) (o := .lst [v, .int good, v]) hp1).new (o := .lst [.int good, v, v]) hp2
    (repeat kaf_suf)
    exact ⟨rfl, .inr ⟨rfl, b, M, gs, ds, v, .int good, rfl, B.same kk, .inl (bd.keep kk), k _ kk⟩⟩
  · (repeat kaf_suf)
    intro p1 hp1
    (repeat kaf_suf)
    intro p2 hp2
    have kk := (Keep.alloc (M := Nil) (o := .lst [v, .int good, v]) hp1).new (o := .lst [.int good, v, v]) hp2
    (repeat kaf_suf)
    exact ⟨rfl, .inr ⟨rfl, b, M, gs, ds, .int good, v, rfl, B.same kk, .inr ⟨gd, bd.keep kk⟩, k _ kk⟩⟩
  · (repeat kaf_suf)
    intro p1 hp1
    (repeat kaf_suf)
    intro p2 hp2
    have kk := (Keep.alloc (M := Nil) (o := .lst [v, .int good, v]) hp1).new (o := .lst [.int good, v, v]) hp2
    (repeat kaf_suf)
    exact ⟨rfl, .inr ⟨rfl, b, M, gs, ds, v, .int good, rfl, B.same kk, .inl (bd.keep kk), k _ kk⟩⟩
  · (repeat kaf_suf)
    intro p1 hp1
    (repeat kaf_suf)
    intro p2 hp2
    have kk := (Keep.alloc (M := Nil) (o := .lst [v, .int good, v]) hp1).new (o := .lst [.int good, v, v]) hp2
    (repeat kaf_suf)
    exact ⟨rfl, .inr ⟨rfl, b, M, gs, ds, .int good, v, rfl, B.same kk, .inr ⟨gd, bd.keep kk⟩, k _ kk⟩⟩
  · (repeat kaf_suf)
    intro p1 hp1
    (repeat kaf_suf)
    intro p2 hp2
    have kk := (Keep.alloc (M := Nil) (o := .lst [v, .int good, v]) hp1).new (o := .lst [.int good, v, v]) hp2
    (repeat kaf_suf)
    exact ⟨rfl, .inr ⟨rfl, b, M, gs, ds, v, v, rfl, B.same kk, .inl (bd.keep kk), k _ kk⟩⟩
  · (repeat kaf_suf)
    intro p1 hp1
    (repeat kaf_suf)
    refine v_slL (by kaf_pre) fun q1 hq1 => ?_
    rw [cutV_take]
    have l1 : (([V.int good, .int 0, .int good] : List V).take at_).length ≤ 3 := by rw [List.length_take]; exact Nat.min_le_right _ _
    have l2 : (([V.int good, .int 0, .int good] : List V).drop at_).length ≤ 3 := by rw [List.length_drop]; show 3 - at_ ≤ 3; omega
    have tg : ∀ x ∈ ([V.int good, .int 0, .int good] : List V).take at_ ++ [v] ++ ([V.int good, .int 0, .int good] : List V).drop at_, GoodV gs.length x ∨ x = v := fun x hx => by
      have g3 : x ∈ ([V.int good, .int 0, .int good] : List V) → GoodV gs.length x := fun h => by
        rcases List.mem_cons.mp h with rfl | h
        · exact gd
        rcases List.mem_cons.mp h with rfl | h
        · exact ⟨0, rfl, by omega, by omega⟩
        cases List.mem_singleton.mp h
        exact gd
      rcases List.mem_append.mp hx with hx | hx
      · rcases List.mem_append.mp hx with hx | hx
        · exact .inl (g3 (List.mem_of_mem_take hx))
        · exact .inr (List.mem_singleton.mp hx)
      · exact .inl (g3 (List.mem_of_mem_drop hx))
    have tv : v ∈ ([V.int good, .int 0, .int good] : List V).take at_ ++ [v] ++ ([V.int good, .int 0, .int good] : List V).drop at_ := List.mem_append_left _ (List.mem_append_right _ (List.mem_singleton.mpr rfl))
    (repeat kaf_suf)
    intro q2 hq2
    (repeat kaf_suf)
    first | (intro q3 hq3) | (refine v_addL (by kaf_pre) (by kaf_pre) ?len fun q3 hq3 => ?_; (case len => exact few2 (show (([V.int good, .int 0, .int good] : List V).take at_).length + 1 ≤ 100000 by omega)))
    (repeat kaf_suf)
    refine v_slL (by kaf_pre) fun q4 hq4 => ?_
    rw [cutV_drop]
    (repeat kaf_suf)
    first | (intro q5 hq5) | (refine v_addL (by kaf_pre) (by kaf_pre) ?len fun q5 hq5 => ?_; (case len => exact few2 (by rw [List.length_append]; show (([V.int good, .int 0, .int good] : List V).take at_).length + 1 + (([V.int good, .int 0, .int good] : List V).drop at_).length ≤ 100000; omega)))
    (repeat kaf_suf)
    have kk := (((((Keep.alloc (M := Nil) (o := .lst [V.int good, .int 0, .int good]) hp1).new (o := .lst (([V.int good, .int 0, .int good] : List V).take at_)) hq1).new (o := .lst [v]) hq2).new (o := .lst (([V.int good, .int 0, .int good] : List V).take at_ ++ [v])) hq3).new (o := .lst (([V.int good, .int 0, .int good] : List V).drop at_)) hq4).new (o := .lst (([V.int good, .int 0, .int good] : List V).take at_ ++ [v] ++ ([V.int good, .int 0, .int good] : List V).drop at_)) hq5
    exact ⟨rfl, .inr ⟨rfl, b, M, gs, ds, q5, _, rfl, B.same kk, upd_same, fun x hx => (tg x hx).elim .inl fun (e : x = v) => .inr (by rw [e]; exact bd.keep kk), ⟨v, tv, bd.keep kk⟩, k _ kk⟩⟩
def sx_law_asked (c : Cn) : Sp := fun vs H Q E => vs.length = 5 ∧ (sp_law_asked c vs H Q E ∨ sy_law_asked c vs H Q E)
theorem calx_law_asked {c : Cn} {mg : Str → Option Value} {base : Heap} (T : Txt c mg) : Cal c.P c.w c.K mg base (L2.CX c.P c.w) 78 "_law_asked" (sx_law_asked c) := by
  obtain ⟨f, fd, F, g, b⟩ := T.F_law_asked
  exact ⟨f, fd, ["book", "way", "thing", "good", "at"], F.okX (k := 77) (N := N_law_asked) sc_law_asked (fun vs H Q E h => h.1) (fun cdv A outer s H vs Q E hr h => ⟨t_law_asked c E, by
  exact (pss_one (ps_if (pt_cmpR (o_eq (hu64 hr)) (pv 1) pe_int (nomark _)) (pss_one (ps_expr (e_call (calx_who_wins T) hr (by decide) (passes_call (takes_of rfl rfl rfl rfl) fun _ _ _ _ z => z) rfl (pa_cons (pv 0) (pa_cons (pv 2) pa_nil))))) (pss_one (ps_if (pt_cmpR (o_lt (hu64 hr)) (pv 1) pe_int (nomark _)) (pss_one (ps_expr (e_call (calx_winning_moves T) hr (by decide) (passes_call (takes_of rfl rfl rfl rfl) fun _ _ _ _ z => z) rfl (pa_cons (pv 0) (pa_cons (pv 2) (pa_cons (pe_ix (x_ix (hu64 hr)) (pe_lst (pa_cons pe_str (pa_cons pe_str pa_nil))) (pe_op o_sub (pv 1) pe_int) (fun _ _ => rfl)) pa_nil)))))) (pss_one (ps_if (pt_cmpR (o_eq (hu64 hr)) (pv 1) pe_int (nomark _)) (pss_one (ps_expr (e_call (calx_turned T) hr (by decide) (passes_call (takes_of rfl rfl rfl rfl) fun _ _ _ _ z => z) rfl (pa_cons (pv 0) (pa_cons (pv 2) pa_nil))))) (pss_one (ps_if (pt_cmpR (o_lt (hu64 hr)) (pv 1) pe_int (nomark _)) (pss_one (ps_expr (e_call (calx_put_together T) hr (by decide) (passes_call (takes_of rfl rfl rfl rfl) fun _ _ _ _ z => z) rfl (pa_cons (pv 0) (pa_cons (pe_ix (x_ix (hu64 hr)) (pe_lst (pa_cons (pv 2) (pa_cons (pv 3) (pa_cons (pv 2) pa_nil)))) (pe_op o_sub (pv 1) pe_int) (fun _ _ => rfl)) (pa_cons (pe_ix (x_ix (hu64 hr)) (pe_lst (pa_cons (pv 3) (pa_cons (pv 2) (pa_cons (pv 2) pa_nil)))) (pe_op o_sub (pv 1) pe_int) (fun _ _ => rfl)) pa_nil)))))) (pss_one (ps_if (pt_cmpR (o_lt (hu64 hr)) (pv 1) pe_int (nomark _)) (pss_one (ps_expr (e_call (calx_difference T) hr (by decide) (passes_call (takes_of rfl rfl rfl rfl) fun _ _ _ _ z => z) rfl (pa_cons (pv 0) (pa_cons (pe_ix (x_ix (hu64 hr)) (pe_lst (pa_cons (pv 2) (pa_cons (pv 3) (pa_cons (pv 2) pa_nil)))) (pe_op o_sub (pv 1) pe_int) (fun _ _ => rfl)) (pa_cons (pe_ix (x_ix (hu64 hr)) (pe_lst (pa_cons (pv 3) (pa_cons (pv 2) (pa_cons (pv 2) pa_nil)))) (pe_op o_sub (pv 1) pe_int) (fun _ _ => rfl)) pa_nil)))))) (pss_cons (ps_set (i := 5) sc_law_asked.nd rfl (Or.inl rfl) (pe_lst (pa_cons (pv 3) (pa_cons pe_int (pa_cons (pv 3) pa_nil)))))
  (pss_one (ps_expr (e_call (calx_all_together T) hr (by decide) (passes_call (takes_of rfl rfl rfl rfl) fun _ _ _ _ z => z) rfl (pa_cons (pv 0) (pa_cons (pe_op o_add (pe_op o_add (pe_slice s_sl (pv 5) po_none (po_some (pv 4))) (pe_lst (pa_cons (pv 2) pa_nil))) (pe_slice s_sl (pv 5) (po_some (pv 4)) po_none)) pa_nil)))))))))))))))), h.2.elim (p_law_asked T) (q_law_asked T)⟩), g, F.kp, b⟩
theorem cal_law_asked {c : Cn} {mg : Str → Option Value} {base : Heap} (T : Txt c mg) : Cal c.P c.w c.K mg base (L2.CX c.P c.w) 78 "_law_asked" (sp_law_asked c) := by
  obtain ⟨f, fd, ps, F, g, kp, b⟩ := (calx_law_asked T).ex
  exact ⟨⟨f, fd, ps, F.imp fun vs H Q E h => ⟨h.1, .inl h⟩, g, kp, b⟩⟩
abbrev N_law_refused : List Str := ["book", "way", "thing", "good", "at", "caught", "e"]
theorem sc_law_refused : FnScope N_law_refused ["book", "way", "thing", "good", "at"] (defScope s_law_refused) := ⟨rfl, rfl, rfl, by decide +kernel, rfl, by decide +kernel, by decide +kernel⟩
def t_law_refused (c : Cn) : TS :=
  (tSeq (tAsg (tC .non) (gName 5))
  (tSeq (tTryV c.K (.ref c.cGameError) 6
    (tAsg (tVar 6) (gName 5))
    (fun W => (tDrop (tCallW (sx_law_asked c) W (tCons (tVar 0) (tCons (tVar 1) (tCons (tVar 2) (tCons (tVar 3) (tCons (tVar 4) tNil)))))))))
  (tRet (tCall (sp_law_kinds c) [] E0 (tCons (tVar 5) (tCons (tC (.int 0)) tNil))))))
def sp_law_refused (c : Cn) : Sp := fun vs H Q E => vs.length = 5 ∧ ∃ (b : Addr) (M : Addr → Prop) (gs : List Gm) (ds : List Int) (v : V) (way at_ : Nat) (good : Int), vs = [.ref b, .int way, v, .int good, .int at_] ∧ BookAt c H b M gs ds ∧ BadV H gs.length v ∧ 0 ≤ good ∧ good < gs.length ∧ way ≤ 9 ∧ at_ ≤ 3 ∧ ∀ H', Keep Nil H H' → Q (.bl true) H'
theorem p_law_refused {c : Cn} {mg : Str → Option Value} (T : Txt c mg) {vs : List V} {H : Hp} {Q : VK} {E : XK} (h : sp_law_refused c vs H Q E) : t_law_refused c { nx := fun _ H' => Q .non H', rt := Q } (start N_law_refused vs) H := by
  obtain ⟨_, b, M, gs, ds, v, way, at_, good, rfl, B, bd, g0, g1, hw, ha, k⟩ := h
  unfold t_law_refused
  (repeat kaf_suf)
  refine ⟨rfl, .inr ⟨rfl, b, M, gs, ds, v, way, at_, good, rfl, B, bd, g0, g1, hw, ha, fun H1 k1 => w_val (Txt.m_NoGame T) fun a ha => ?_⟩⟩
  (repeat kaf_suf)
  exact ⟨rfl, a, rfl, upd_same, fun H2 k2 => k H2 ((k1.new ha).trans k2)⟩
theorem cal_law_refused {c : Cn} {mg : Str → Option Value} {base : Heap} (T : Txt c mg) : Cal c.P c.w c.K mg base CX0 79 "_law_refused" (sp_law_refused c) := by
  obtain ⟨f, fd, F, g, b⟩ := T.F_law_refused
  exact ⟨f, fd, ["book", "way", "thing", "good", "at"], F.ok (k := 78) (N := N_law_refused) sc_law_refused (fun vs H Q E h => h.1) (fun cdv A outer s H vs Q E hr h => ⟨t_law_refused c, by
  exact (pss_cons (ps_set (i := 5) sc_law_refused.nd rfl (Or.inl rfl) pe_non)
  (pss_cons (ps_tryV (i := 6) rfl rfl sc_law_refused.nd rfl rfl ⟨rfl, by decide, .inl T.g_GameError⟩ rfl
    (fun W pn xe tk po => (pss_one (ps_expr (e_callS (calx_law_asked T) hr (by decide) tk rfl (pa_cons (pv 0) (pa_cons (pv 1) (pa_cons (pv 2) (pa_cons (pv 3) (pa_cons (pv 4) pa_nil)))))))))
    (fun a oe pn => (pss_one (ps_set (i := 5) sc_law_refused.nd rfl (Or.inl rfl) (pv 6)))))
  (pss_one (ps_ret (e_call (cal_law_kinds T) hr (by decide) pass0 rfl (pa_cons (pv 5) (pa_cons pe_int pa_nil))))))), p_law_refused T h⟩), g, F.kp, b⟩
theorem last_new {gs : List Gm} (o : GOk gs) {k : Gm} {i : Nat} (hi : gs.length = i + 1) (hk : (i : Int) ∈ k.1 ++ k.2) : k ∉ gs := fun hm => by
  have h := o.low (gs.idxOf k) k (ixG_get hm) _ hk
  have l := List.idxOf_lt_length_of_mem hm
  omega
theorem addG_new {gs : List Gm} {k : Gm} (h : k ∉ gs) : addG gs k = gs ++ [k] ∧ ixG (gs ++ [k]) k = gs.length := by
  refine ⟨by rw [addG, if_neg h], ?_⟩
  rw [ixG, List.idxOf_append, if_neg h]
  simp
theorem v_ninW {P : Program} {w : World} {K : PySem.W.Frag} {H : Hp} {Q : VK} {l r : Bool} {p : Addr} (h : H p = some (.lst [.str "first", .str "second", .str "left", .str "right"])) (k : Q (.bl false) H) : cNotIn P w K (.str (wd l r)) (.ref p) H Q := by
  refine .inr (.inl ⟨.str (wd l r), [.str "first", .str "second", .str "left", .str "right"], .str _, .lst (SqL.of h) (.cons (.str _) (.cons (.str _) (.cons (.str _) (.cons (.str _) .nil)))), by cases l <;> cases r <;> decide +kernel, by decide +kernel, ?_⟩)
  have e : (([.str "first", .str "second", .str "left", .str "right"] : List PyData).any fun z => PyData.eqv z (.str (wd l r))) = true := by cases l <;> cases r <;> decide +kernel
  rw [e]; exact k
theorem v_ninL {P : Program} {w : World} {K : PySem.W.Frag} {H : Hp} {Q : VK} {x p a b : Addr} {l m n : List Int} (hx : H x = some (.lst (l.map V.int))) (hp : H p = some (.lst [.ref a, .ref b])) (ha : H a = some (.lst (m.map V.int))) (hb : H b = some (.lst (n.map V.int))) (e : m = l ∨ n = l) (k : Q (.bl false) H) : cNotIn P w K (.ref x) (.ref p) H Q := by
  refine .inr (.inl ⟨dInts l, [dInts m, dInts n], dp_ints hx, dp_two hp ha hb, dInts_sh _, dTwo_sh _ _, ?_⟩)
  have e1 : (([dInts m, dInts n] : List PyData).any fun z => PyData.eqv z (dInts l)) = true := by
    simp only [List.any_cons, List.any_nil, eqv_dInts, Bool.or_false]
    rcases e with e | e <;> simp [e]
  rw [e1]; exact k
theorem getElem_app {α : Type} {d l : List α} {i : Nat} {v : α} (h : d[i]? = some v) : (d ++ l)[i]? = some v := by
  rw [List.getElem?_append_left (List.getElem?_eq_some_iff.mp h).1]; exact h
theorem sm_zero' {gs : List Gm} (o : GOk gs) {g : Nat} (h : g < gs.length) : sm gs [0, (g : Int)] = some (g : Int) :=
  sm_perm o _ _ _ _ (Nat.lt_succ_self _) (List.Perm.swap _ _ _) (sm_zero o (g + 1) g (by omega) h)
abbrev N_law_answered : List Str := ["book", "number"]
theorem sc_law_answered : FnScope N_law_answered ["book", "number"] (defScope s_law_answered) := ⟨rfl, rfl, rfl, by decide +kernel, rfl, by decide +kernel, by decide +kernel⟩
def t_law_answered (c : Cn) : TS :=
  (tSeq (tIfS (tTest (tOp (cNe c.K) (tMeth c.cBook "game" (sp_Book_game c) [] E0 (tVar 0) (tCons (tLst (tCons (tOp bSub (tVar 1) (tC (.int 1))) tNil)) (tCons (tLst (tCons (tOp bSub (tVar 1) (tC (.int 1))) tNil)) tNil))) (tVar 1)))
  (tRet (tC (.bl true)))
  tNext)
  (tSeq (tIfS (tOr (tTest (tOp (cNotIn c.P c.w c.K) (tCall (sp_who_wins c) [] E0 (tCons (tVar 0) (tCons (tVar 1) tNil))) (tLst (tCons (tC (.str "first")) (tCons (tC (.str "second")) (tCons (tC (.str "left")) (tCons (tC (.str "right")) tNil))))))) (tTest (tOp (cNe c.K) (tCall (sp_put_together c) [] E0 (tCons (tVar 0) (tCons (tVar 1) (tCons (tC (.int 0)) tNil)))) (tVar 1))))
  (tRet (tC (.bl false)))
  tNext)
  (tSeq (tIfS (tOr (tTest (tOp (cNe c.K) (tCall (sp_all_together c) [] E0 (tCons (tVar 0) (tCons (tLst (tCons (tC (.int 0)) (tCons (tVar 1) tNil))) tNil))) (tVar 1))) (tTest (tOp (cNe c.K) (tCall (sp_difference c) [] E0 (tCons (tVar 0) (tCons (tVar 1) (tCons (tC (.int 0)) tNil)))) (tVar 1))))
  (tRet (tC (.bl false)))
  tNext)
  (tSeq (tIfS (tTest (tOp (cNotIn c.P c.w c.K) (tCall (sp_winning_moves c) [] E0 (tCons (tVar 0) (tCons (tVar 1) (tCons (tC (.str "left")) tNil)))) (tLst (tCons (tLst tNil) (tCons (tLst (tCons (tOp bSub (tVar 1) (tC (.int 1))) tNil)) tNil)))))
  (tRet (tC (.bl false)))
  tNext)
  (tRet (tAndV (tOp (cEq c.K) (tCall (sp_put_together c) [] E0 (tCons (tVar 0) (tCons (tC (.int 0)) (tCons (tVar 1) tNil)))) (tVar 1)) (tOp (cEq c.K) (tCall (sp_turned c) [] E0 (tCons (tVar 0) (tCons (tCall (sp_turned c) [] E0 (tCons (tVar 0) (tCons (tVar 1) tNil))) tNil))) (tVar 1))))))))
def sp_law_answered (c : Cn) : Sp := fun vs H Q E => vs.length = 2 ∧ ∃ (b : Addr) (M : Addr → Prop) (gs : List Gm) (ds : List Int), vs = [.ref b, .int gs.length] ∧ BookAt c H b M gs ds ∧ gs.length ≤ 12 ∧
  ∀ (H' : Hp) (f : List Gm) (e : List Int), Keep M H H' → BookAt c H' b M (gs ++ f) (ds ++ e) → (gs ++ f).length ≤ 1000 → Q (.bl true) H'
theorem p_law_answered {c : Cn} {mg : Str → Option Value} (T : Txt c mg) {vs : List V} {H : Hp} {Q : VK} {E : XK} (h : sp_law_answered c vs H Q E) : t_law_answered c { nx := fun _ H' => Q .non H', rt := Q } (start N_law_answered vs) H := by
  obtain ⟨_, b, M, gs, ds, rfl, B, few, k⟩ := h
  have pos := B.pos
  have dl := B.dok.len
  obtain ⟨bx0, bm0, bn0, bd0, hb0⟩ := B.ins_
  unfold t_law_answered
  generalize hn : (gs.length : Int) = n at *
  (repeat kaf_suf)
  intro p1 hp1
  (repeat kaf_suf)
  intro p2 hp2
  have kk := (Keep.alloc (M := Nil) (o := .lst [.int (n - 1)]) hp1).new (o := .lst [.int (n - 1)]) hp2
  (repeat kaf_suf)
  refine ⟨rfl, b, p1, p2, M, gs, ds, [n - 1], [n - 1], rfl, B.same kk, by kaf_pre, by kaf_pre, B.new hp1, B.new (none_of_upd hp2), by omega, by simp, by simp, fun x hx => ?_, fun H1 e1 k1 B1 => ?_⟩
  · have : x = n - 1 := by simpa using hx
    omega
  obtain ⟨n1, n2⟩ := addG_new (last_new B.ok (i := gs.length - 1) (by omega) (k := (canon [n - 1], canon [n - 1])) (by rw [show ((gs.length - 1 : Nat) : Int) = n - 1 by omega]; simp [canon, ins]))
  have k01 : Keep M H H1 := kk.weak.trans k1
  rw [n1] at B1 ⊢
  rw [n2]
  have hk : (canon [n - 1], canon [n - 1]) = (([n - 1], [n - 1]) : Gm) := rfl
  rw [hk] at B1
  have g1len : (gs ++ [(([n - 1], [n - 1]) : Gm)]).length = gs.length + 1 := by simp
  have hgn : (gs ++ [(([n - 1], [n - 1]) : Gm)])[gs.length]? = some ([n - 1], [n - 1]) := by simp
  clear kk k1 hp1 hp2 hb0 n1 n2 hk
  have q0 : ∀ x : List Gm, gs ++ ([(([n - 1], [n - 1]) : Gm)] ++ x) = gs ++ [(([n - 1], [n - 1]) : Gm)] ++ x := fun x => by simp
  generalize hg1 : gs ++ [(([n - 1], [n - 1]) : Gm)] = g1 at B1 g1len hgn q0
  generalize hds1 : ds ++ e1 = d1 at B1
  have dl1 := B1.dok.len
  obtain ⟨dn, hdn⟩ : ∃ v, d1[gs.length]? = some v := ⟨_, List.getElem?_eq_getElem (by omega)⟩
  obtain ⟨dz, hdz⟩ : ∃ v, d1[0]? = some v := ⟨_, List.getElem?_eq_getElem (by omega)⟩
  have dnl := DOk.le B1.ok B1.dok _ _ (Nat.lt_succ_self _) _ hdn
  have dzl := DOk.le B1.ok B1.dok _ _ (Nat.lt_succ_self _) _ hdz
  have dz0 := DOk.pos B1.ok B1.dok _ _ (Nat.lt_succ_self _) _ hdz
  have up : ∀ {l : List Int} {i : Nat} {v : Int}, d1[i]? = some v → (d1 ++ l)[i]? = some v := fun h => by rw [List.getElem?_append_left (List.getElem?_eq_some_iff.mp h).1]; exact h
  (repeat kaf_suf)
  have hnn : n = ((gs.length : Nat) : Int) := hn.symm
  refine ⟨rfl, b, M, g1, d1, gs.length, by rw [hn], B1, by omega, ⟨dn, hdn, by omega⟩, by omega, fun H2 k2 => ?_⟩
  have B2 := B1.same k2
  (repeat kaf_suf)
  intro p3 hp3
  refine v_ninW upd_same ?_
  have B3 := B2.same (Keep.alloc (o := .lst [.str "first", .str "second", .str "left", .str "right"]) hp3)
  have k03 : Keep M H (upd H2 p3 (.lst [.str "first", .str "second", .str "left", .str "right"])) := (k01.trans k2.weak).new hp3
  generalize upd H2 p3 (.lst [.str "first", .str "second", .str "left", .str "right"]) = H3 at B3 k03 ⊢
  clear hp3 B2 k2 B1 k01
  (repeat kaf_suf)
  have mul1 : (down gs.length).length * (down 0).length ≤ 20 := by rw [down_len, down_len]; omega
  have mul2 : (down 0).length * (down gs.length).length ≤ 20 := by rw [down_len, down_len]; omega
  have len1 : (down gs.length).length + (down 0).length ≤ 20 := by rw [down_len, down_len]; omega
  refine ⟨rfl, b, M, g1, d1, down gs.length, down 0, gs.length, 0, by rw [hn]; rfl, B3, by omega, by omega, ⟨dn, dz, hdn, hdz, by omega⟩, down_mem.mpr (by omega), down_mem.mpr (by omega), down_cl B3.ok (by omega), down_cl B3.ok (by omega), by omega, by omega, by omega, fun H4 f4 e4 x4 k4 B4 fl4 ex4 hf4 => ?_⟩
  have l4 : (g1 ++ f4).length = g1.length + f4.length := List.length_append
  cases (sm_zero B4.ok (gs.length + 1) gs.length (by omega) (by omega)).symm.trans ex4
  rw [hn]
  have k04 := k03.trans k4
  clear k03 k4 B3 hf4 ex4
  (repeat kaf_suf)
  intro p5 hp5
  (repeat kaf_suf)
  have kk := Keep.alloc (M := Nil) (o := .lst [.int 0, .int n]) hp5
  have rg : Rg (g1 ++ f4) [0, (gs.length : Int)] := fun z hz => by
    rcases List.mem_cons.mp hz with rfl | hz
    · omega
    · cases List.mem_singleton.mp hz; omega
  have hdz4 := up (l := e4) hdz
  have hdn4 := up (l := e4) hdn
  have bx2 : bx [0, (gs.length : Int)] = gs.length + 1 := by simp [bx]
  have bx1 : bx [(0 : Int)] = 1 := by simp [bx]
  have tp : totp [0, (gs.length : Int)] 2 ≤ 20 := by
    show 0 + bx [(0 : Int)] + bx [0, (gs.length : Int)] ≤ 20
    rw [bx1, bx2]; omega
  refine ⟨rfl, b, p5, M, g1 ++ f4, d1 ++ e4, [0, (gs.length : Int)], rfl, B4.same kk, by rw [hn]; exact upd_same, B4.new hp5, rg, ?_, fun i => ?_, ?_, by simp, fun H6 f6 e6 x6 k6 B6 fl6 ex6 => ?_⟩
  · simp only [dsum, List.map_cons, List.map_nil, List.sum_cons, List.sum_nil, Int.toNat_natCast, Int.toNat_zero]
    rw [hdz4, hdn4]; simp only [Option.getD_some]; omega
  · match i with
    | 0 => show (1 : Nat) ≤ 2500; omega
    | 1 => show bx [(0 : Int)] ≤ 2500; omega
    | i + 2 => rw [List.take_of_length_le (by simp)]; omega
  · show (g1 ++ f4).length + totp [0, (gs.length : Int)] 2 ≤ 80000; omega
  have fl6' : f6.length ≤ totp [0, (gs.length : Int)] 2 := fl6
  have l6 : (g1 ++ f4 ++ f6).length = (g1 ++ f4).length + f6.length := List.length_append
  cases (sm_zero' B6.ok (g := gs.length) (by omega)).symm.trans ex6
  rw [hn]
  have k06 := k04.trans (kk.weak.trans k6)
  have hdz6 := getElem_app (l := e6) hdz4
  have hdn6 := getElem_app (l := e6) hdn4
  clear k04 k6 kk hp5 B4 ex6 rg bx1 bx2 fl6
  (repeat kaf_suf)
  refine ⟨rfl, b, M, g1 ++ f4 ++ f6, d1 ++ e4 ++ e6, gs.length, 0, by rw [hn]; rfl, B6, by omega, by omega, ⟨dn, dz, hdn6, hdz6, by omega⟩, by omega, by omega, by omega, fun H7 f7 e7 t7 x7 k7 B7 fl7 et7 ex7 => ?_⟩
  have l7 : (g1 ++ f4 ++ f6 ++ f7).length = (g1 ++ f4 ++ f6).length + f7.length := List.length_append
  have fl7' : f7.length ≤ 20 := by have : (gs.length + 2) * (0 + 1) = gs.length + 2 := by omega
                                   omega
  cases (tr_zero B7.ok).symm.trans et7
  cases (sm_zero B7.ok (gs.length + 1) gs.length (by omega) (by omega)).symm.trans ex7
  rw [hn]
  have k07 := k06.trans k7
  have hdz7 := getElem_app (l := e7) hdz6
  have hdn7 := getElem_app (l := e7) hdn6
  clear k06 k7 B6 et7 ex7 fl7
  have hg7 : (g1 ++ f4 ++ f6 ++ f7)[gs.length]? = some ([n - 1], [n - 1]) := getElem_app (getElem_app (getElem_app hgn))
  have as7 : gs ++ ([(([n - 1], [n - 1]) : Gm)] ++ f4 ++ f6 ++ f7) = g1 ++ f4 ++ f6 ++ f7 := by rw [← hg1]; simp
  have ad7 : ds ++ (e1 ++ e4 ++ e6 ++ e7) = d1 ++ e4 ++ e6 ++ e7 := by rw [← hds1]; simp
  have len7 : (g1 ++ f4 ++ f6 ++ f7).length ≤ 100 := by omega
  have gt7 : gs.length < (g1 ++ f4 ++ f6 ++ f7).length := by omega
  generalize g1 ++ f4 ++ f6 ++ f7 = g7 at B7 hg7 as7 len7 gt7
  generalize d1 ++ e4 ++ e6 ++ e7 = d7 at B7 hdz7 hdn7 ad7
  generalize [(([n - 1], [n - 1]) : Gm)] ++ f4 ++ f6 ++ f7 = f at as7
  generalize e1 ++ e4 ++ e6 ++ e7 = e at ad7
  clear hdz6 hdn6 hdz4 hdn4 l4 l6 l7 up fl4
  (repeat kaf_suf)
  refine ⟨rfl, b, M, g7, d7, gs.length, true, by rw [hn]; rfl, B7, gt7, ⟨dn, hdn7, by omega⟩, by omega, fun H8 w8 k8 hw8 ew8 => ?_⟩
  (repeat kaf_suf)
  intro pa hpa
  (repeat kaf_suf)
  intro pb hpb
  (repeat kaf_suf)
  intro pc hpc
  have wc : [] = wmv g7 gs.length true ∨ [n - 1] = wmv g7 gs.length true := by
    have e : mvs g7 gs.length true = [n - 1] := by unfold mvs; rw [hg7]; rfl
    unfold wmv
    rw [e]
    generalize n - 1 = z
    cases hw : wins g7 z.toNat false with
    | true => left; simp [hw]
    | false => right; simp [hw]
  refine v_ninL (l := wmv g7 gs.length true) (m := []) (n := [n - 1]) (get_new hpc (get_new hpb (get_new hpa ew8))) upd_same (get_new hpc (get_new hpb upd_same)) (get_new hpc upd_same) wc ?_
  have kk := ((Keep.alloc (M := Nil) (o := .lst []) hpa).new (o := .lst [.int (n - 1)]) hpb).new (o := .lst [.ref pa, .ref pb]) hpc
  have B9 := (B7.same k8).same kk
  have k09 := k07.trans (k8.trans kk).weak
  clear k07 B7 ew8 hw8 k8 wc
  generalize upd (upd (upd H8 pa (.lst [])) pb (.lst [.int (n - 1)])) pc (.lst [.ref pa, .ref pb]) = H9 at B9 k09 kk ⊢
  clear kk hpa hpb hpc
  (repeat kaf_suf)
  refine ⟨rfl, b, M, g7, d7, down 0, down gs.length, 0, gs.length, by rw [hn]; rfl, B9, by omega, by omega, ⟨dz, dn, hdz7, hdn7, by omega⟩, down_mem.mpr (by omega), down_mem.mpr (by omega), down_cl B9.ok (by omega), down_cl B9.ok (by omega), by omega, by omega, by omega, fun H10 f10 e10 x10 k10 B10 fl10 ex10 hf10 => ?_⟩
  have l10 : (g7 ++ f10).length = g7.length + f10.length := List.length_append
  cases (sm_zero' B10.ok (g := gs.length) (by omega)).symm.trans ex10
  rw [hn]
  have k010 := k09.trans k10
  have hdn10 := getElem_app (l := e10) hdn7
  clear k10 k09 B9 ex10 hf10
  (repeat kaf_suf)
  refine ⟨rfl, b, M, g7 ++ f10, d7 ++ e10, gs.length, by rw [hn], B10, by omega, ⟨dn, hdn10, by omega⟩, by omega, by omega, fun H11 f11 e11 x11 k11 B11 fl11 ex11 hf11 => ?_⟩
  have l11 : (g7 ++ f10 ++ f11).length = (g7 ++ f10).length + f11.length := List.length_append
  have hdn11 := getElem_app (l := e11) hdn10
  obtain ⟨gm, a', b', z1, _, _, t0, z2, _⟩ := tr_some B11.ok ex11
  have tlt := (List.getElem?_eq_some_iff.mp z2).1
  have td := tr_depth B11.ok B11.dok _ _ _ (Nat.lt_succ_self _) (by omega) ex11
  rw [Int.toNat_natCast, hdn11] at td
  obtain ⟨xn, rfl⟩ := Int.eq_ofNat_of_zero_le t0
  rw [Int.toNat_natCast] at td tlt
  refine ⟨rfl, b, M, g7 ++ f10 ++ f11, d7 ++ e10 ++ e11, xn, rfl, B11, tlt, ⟨dn, td, by omega⟩, by omega, by omega, fun H12 f12 e12 x12 k12 B12 fl12 ex12 hf12 => ?_⟩
  have l12 : (g7 ++ f10 ++ f11 ++ f12).length = (g7 ++ f10 ++ f11).length + f12.length := List.length_append
  cases (tr_back B12.ok _ _ _ (Nat.lt_succ_self _) (by omega) (tr_app ex11)).symm.trans ex12
  rw [hn]
  (repeat kaf_suf)
  rw [decide_eq_true rfl]
  refine k H12 (f ++ f10 ++ f11 ++ f12) (e ++ e10 ++ e11 ++ e12) ((k010.trans k11).trans k12) ?_ ?_
  · have q1 : gs ++ (f ++ f10 ++ f11 ++ f12) = g7 ++ f10 ++ f11 ++ f12 := by rw [← as7]; simp
    have q2 : ds ++ (e ++ e10 ++ e11 ++ e12) = d7 ++ e10 ++ e11 ++ e12 := by rw [← ad7]; simp
    rw [q1, q2]; exact B12
  · have q1 : gs ++ (f ++ f10 ++ f11 ++ f12) = g7 ++ f10 ++ f11 ++ f12 := by rw [← as7]; simp
    rw [q1]; omega
theorem cal_law_answered {c : Cn} {mg : Str → Option Value} {base : Heap} (T : Txt c mg) : Cal c.P c.w c.K mg base CX0 78 "_law_answered" (sp_law_answered c) := by
  obtain ⟨f, fd, F, g, b⟩ := T.F_law_answered
  exact ⟨f, fd, ["book", "number"], F.ok (k := 77) (N := N_law_answered) sc_law_answered (fun vs H Q E h => h.1) (fun cdv A outer s H vs Q E hr h => ⟨t_law_answered c, by
  exact (pss_cons (ps_if (pt_cmpR (o_ne (hu64 hr)) (e_meth (met_Book_game T) hr (by decide) passL (pv 0) (pa_cons (pe_lst (pa_cons (pe_op o_sub (pv 1) pe_int) pa_nil)) (pa_cons (pe_lst (pa_cons (pe_op o_sub (pv 1) pe_int) pa_nil)) pa_nil))) (pv 1) (nomark _)) (pss_one (ps_ret pe_bl)) pss_nil)
  (pss_cons (ps_if (PW.pt (pw_or (pt_cmpR (o_notin (hu65 hr)) (e_call (cal_who_wins T) hr (by decide) passL rfl (pa_cons (pv 0) (pa_cons (pv 1) pa_nil))) (pe_lst (pa_cons pe_str (pa_cons pe_str (pa_cons pe_str (pa_cons pe_str pa_nil))))) (by rfl)) (pw_or1 (pt_cmpR (o_ne (hu64 hr)) (e_call (cal_put_together T) hr (by decide) passL rfl (pa_cons (pv 0) (pa_cons (pv 1) (pa_cons pe_int pa_nil)))) (pv 1) (nomark _))))) (pss_one (ps_ret pe_bl)) pss_nil)
  (pss_cons (ps_if (PW.pt (pw_or (pt_cmpR (o_ne (hu64 hr)) (e_call (cal_all_together T) hr (by decide) passL rfl (pa_cons (pv 0) (pa_cons (pe_lst (pa_cons pe_int (pa_cons (pv 1) pa_nil))) pa_nil))) (pv 1) (nomark _)) (pw_or1 (pt_cmpR (o_ne (hu64 hr)) (e_call (cal_difference T) hr (by decide) passL rfl (pa_cons (pv 0) (pa_cons (pv 1) (pa_cons pe_int pa_nil)))) (pv 1) (nomark _))))) (pss_one (ps_ret pe_bl)) pss_nil)
  (pss_cons (ps_if (pt_cmpR (o_notin (hu65 hr)) (e_call (cal_winning_moves T) hr (by decide) passL rfl (pa_cons (pv 0) (pa_cons (pv 1) (pa_cons pe_str pa_nil)))) (pe_lst (pa_cons (pe_lst pa_nil) (pa_cons (pe_lst (pa_cons (pe_op o_sub (pv 1) pe_int) pa_nil)) pa_nil))) (by rfl)) (pss_one (ps_ret pe_bl)) pss_nil)
  (pss_one (ps_ret (pe_and (pe_cmpR (o_eq (hu64 hr)) (e_call (cal_put_together T) hr (by decide) passL rfl (pa_cons (pv 0) (pa_cons pe_int (pa_cons (pv 1) pa_nil)))) (pv 1) (nomark _)) (pe_one (pe_cmpR (o_eq (hu64 hr)) (e_call (cal_turned T) hr (by decide) passL rfl (pa_cons (pv 0) (pa_cons (e_call (cal_turned T) hr (by decide) passL rfl (pa_cons (pv 0) (pa_cons (pv 1) pa_nil))) pa_nil))) (pv 1) (nomark _)))))))))), p_law_answered T h⟩), g, F.kp, b⟩


abbrev N_law : List Str := ["script", "deck", "book", "rows", "turn", "things", "good", "at", "pick", "way", "thing", "number", "g"]
theorem sc_law : FnScope N_law ["script"] (defScope s_law) := ⟨rfl, rfl, rfl, by decide +kernel, rfl, by decide +kernel, by decide +kernel⟩
def t_law (c : Cn) : TS :=
  (tSeq (tAsg (tCall (sp_law_deck c) [] E0 (tCons (tVar 0) tNil)) (gName 1))
  (tSeq (tAsg (tMake c.cBook (sp_Book_init c) [] E0 tNil) (gName 2))
  (tSeq (tAsg (tCall (sp_law_grown c) [] E0 (tCons (tVar 1) (tCons (tVar 2) (tCons (tOp (bAdd c.K) (tC (.int 2)) (tCall (sp_law_draw c) [] E0 (tCons (tVar 1) (tCons (tC (.int 7)) tNil)))) tNil)))) (gName 3))
  (tSeq (tIfS (tTest (tOp cIs (tVar 3) (tC .non)))
  (tRet (tC (.bl false)))
  tNext)
  (tSeq (tFor (iRng1 (tCons (tC (.int 8)) tNil)) (gName 4)
  (tSeq (tAsg (tLst (tCons (tC (.bl true)) (tCons (tC (.bl false)) (tCons (tC .non) (tCons (tC (.str "0")) (tCons (tC (.str "")) (tCons (tTup (tCons (tC (.int 0)) tNil)) (tCons (tLst (tCons (tC (.int 0)) tNil)) (tCons (uDNew c.P c.w) (tCons (tUn (rU fun i => .int (-i)) (tC (.int 1))) (tCons (tUn (rU fun i => .int (-i)) (tOp bPow (tC (.int 10)) (tC (.int 29)))) (tCons (tOp bPow (tC (.int 10)) (tC (.int 29))) (tCons (tTup tNil) (tCons (tC (.str "left")) tNil)))))))))))))) (gName 5))
  (tSeq (tAsg (tCall (sp_law_draw c) [] E0 (tCons (tVar 1) (tCons (tCB (kLen c.K) (tCons (tVar 3) tNil)) tNil))) (gName 6))
  (tSeq (tAsg (tCall (sp_law_draw c) [] E0 (tCons (tVar 1) (tCons (tC (.int 4)) tNil))) (gName 7))
  (tSeq (tAsg (tCall (sp_law_draw c) [] E0 (tCons (tVar 1) (tCons (tC (.int 15)) tNil))) (gName 8))
  (tSeq (tFor (iRng1 (tCons (tC (.int 10)) tNil)) (gName 9)
  (tSeq (tAsg (tOp (bIx c.P c.w c.K) (tOp (bAdd c.K) (tVar 5) (tLst (tCons (tMeth c.cBook "many" (sp_Book_many c) [] E0 (tVar 2) tNil) (tCons (tOp (bAdd c.K) (tMeth c.cBook "many" (sp_Book_many c) [] E0 (tVar 2) tNil) (tC (.int 1))) tNil)))) (tVar 8)) (gName 10))
  (tIfS (tNot (tTru c.K (tCall (sp_law_refused c) [] E0 (tCons (tVar 2) (tCons (tVar 9) (tCons (tVar 10) (tCons (tVar 6) (tCons (tVar 7) tNil))))))))
  (tRet (tC (.bl false)))
  tNext)))
  (tSeq (tIfS (tTest (tOp (cNe c.K) (tLc (iRng1 (tCons (tCB (kLen c.K) (tCons (tVar 3) tNil)) tNil)) (gName 12) tYes (tTup (tCons (tMeth c.cBook "lefts" (sp_Book_lefts c) [] E0 (tVar 2) (tCons (tVar 12) tNil)) (tCons (tMeth c.cBook "rights" (sp_Book_rights c) [] E0 (tVar 2) (tCons (tVar 12) tNil)) tNil))) [12]) (tVar 3)))
  (tRet (tC (.bl false)))
  tNext)
  (tIfS (tOr (tTest (tOp (cNe c.K) (tCall (sp_put_together c) [] E0 (tCons (tVar 2) (tCons (tVar 6) (tCons (tC (.int 0)) tNil)))) (tVar 6))) (tOr (tTest (tOp (cNe c.K) (tCall (sp_who_wins c) [] E0 (tCons (tVar 2) (tCons (tC (.int 0)) tNil))) (tC (.str "second")))) (tTest (tOp (cNe c.K) (tCall (sp_turned c) [] E0 (tCons (tVar 2) (tCons (tC (.int 0)) tNil))) (tC (.int 0))))))
  (tRet (tC (.bl false)))
  tNext))))))))
  (tSeq (tAsg (tMeth c.cBook "many" (sp_Book_many c) [] E0 (tVar 2) tNil) (gName 11))
  (tSeq (tFor (iRng1 (tCons (tC (.int 10)) tNil)) (gName 9)
  (tIfS (tNot (tTru c.K (tCall (sp_law_refused c) [] E0 (tCons (tVar 2) (tCons (tVar 9) (tCons (tVar 11) (tCons (tC (.int 0)) (tCons (tC (.int 1)) tNil))))))))
  (tRet (tC (.bl false)))
  tNext))
  (tRet (tAndV (tCall (sp_law_answered c) [] E0 (tCons (tVar 2) (tCons (tVar 11) tNil))) (tOp (cEq c.K) (tCall (sp_winning_moves c) [] E0 (tCons (tVar 2) (tCons (tC (.int 0)) (tCons (tC (.str "left")) tNil)))) (tLst tNil)))))))))))
theorem atI_last' {xs : List V} {v : V} (h : xs[xs.length - 1]? = some v) (p : 0 < xs.length) : atI xs (-1) = some v := by
  unfold atI ixN
  rw [if_neg (by decide), if_pos (by omega)]
  have e1 : ((-1 : Int) + (xs.length : Int)).toNat = xs.length - 1 := by omega
  rw [e1]; exact h
theorem eqv_rows : ∀ gs : List Gm, PyData.eqvAll (gs.map dRow) (gs.map dRow) = true
  | [] => by simp [PyData.eqvAll]
  | g :: r => by simp [PyData.eqvAll, eqv_dRow, eqv_rows r]
def sp_law_law (K : PySem.W.Frag) : Sp := fun vs H Q E => vs.length = 1 ∧ ∃ (a : Addr) (ns : List Int), vs = [.ref a] ∧ SqL K H a (ns.map V.int) ∧ ns.length ≤ 63 ∧ ∀ H', Q (.bl true) H'
theorem p_law {c : Cn} {mg : Str → Option Value} (T : Txt c mg) {vs : List V} {H : Hp} {Q : VK} {E : XK} (h : sp_law_law c.K vs H Q E) : t_law c { nx := fun _ H' => Q .non H', rt := Q } (start N_law vs) H := by
  obtain ⟨_, a, ns, rfl, hs, few, k⟩ := h
  unfold t_law
  repeat kaf_suf
  refine ⟨rfl, a, ns, rfl, hs, few, fun H1 d MD k1 D1 nD => ?_⟩
  repeat kaf_suf
  intro b dx hb hdx ndx
  repeat kaf_suf
  refine ⟨rfl, b, dx, rfl, upd_same, fun H2 MB k2 B2 nB => ⟨rfl, ?_⟩⟩
  have nbD : ∀ x, MB x → ¬ MD x := fun x h z => by
    have h0 := none_of_upd (none_of_upd (nB x h))
    exact D1.dom z h0
  have D2 : DeckAt H2 d MD := (D1.keep (Keep.new (Keep.alloc (o := .own b) hdx) (by rw [upd_ne (fun z => ndx z.symm)]; exact hb)) fun _ _ z => z).keep k2 fun x h z => D1.dom h (by rw [z]; exact hb)
  repeat kaf_suf
  refine ⟨rfl, d, 7, MD, rfl, by decide, by decide, D2, fun H3 n k3 D3 n0 n1 => ?_⟩
  have B3 := B2.keep k3 (fun _ h => D2.cell h) nbD
  repeat kaf_suf
  refine ⟨rfl, d, b, _, MD, MB, rfl, by omega, by omega, D3, B3, nbD, fun H4 R gs ds L4 hg => ?_⟩
  clear D3 B3 k3 D2 B2 nB k2 hb hdx k1 D1 nD
  have pos := L4.B.pos
  have go := L4.B.ok
  obtain ⟨ks4, hks4, pks4⟩ := id L4.rows
  have hkm : (ks4.map V.ref).length = gs.length := by rw [List.length_map, Paired.length pks4]
  repeat kaf_suf
  refine r_iteF' (p := V.ref R = V.non) (fun z => by cases z) ?_
  have fin : ∀ HE, Lv c HE d b R MD MB gs gs ds → Q (.bl true) HE := fun _ _ => k _
  (repeat kaf_suf)
  refine for_range (lo := 0) (n := (8 : Int).toNat) (fun i σ H' => ∃ (x4 x5 x6 x7 x8 x9 x10 : Option V), σ = [some (.ref a), some (.ref d), some (.ref b), some (.ref R), x4, x5, x6, x7, x8, x9, x10, none, none] ∧ Lv c H' d b R MD MB gs gs ds) ⟨_, _, _, _, _, _, _, rfl, L4⟩ ?_ ?_
  · rintro i σ H7 hi ⟨x4, x5, x6, x7, x8, x9, x10, rfl, L7⟩
    obtain ⟨ks7, hks7, pks7⟩ := id L7.rows
    have hkm7 : ((ks7.map V.ref).length : Int) = gs.length := by rw [List.length_map, Paired.length pks7]
    (repeat kaf_suf)
    intro p1 hp1
    (repeat kaf_suf)
    intro p2 hp2
    (repeat kaf_suf)
    refine .inl ⟨true, fun p3 hp3 => ?_⟩
    rw [if_pos rfl]
    (repeat kaf_suf)
    intro p4 hp4
    (repeat kaf_suf)
    intro p5 hp5
    have b29 : (100 : Int) ≤ 10 ^ (29 : Int).toNat := by decide +kernel
    generalize (10 : Int) ^ (29 : Int).toNat = big at b29 hp5 ⊢
    have w1 := L7.new hp1
    have w2 := L7.new (none_of_upd hp2)
    have w3 := L7.new (none_of_upd (none_of_upd hp3))
    have w4 := L7.new (none_of_upd (none_of_upd (none_of_upd hp4)))
    have w5 := L7.new (none_of_upd (none_of_upd (none_of_upd (none_of_upd hp5))))
    refine r_gname (r_nx (absS (S := fun HT => Keep Nil H7 HT ∧ HT p1 = some (.tup [.int 0]) ∧ HT p2 = some (.lst [.int 0]) ∧ HT p3 = some (.dK []) ∧ HT p4 = some (.tup []) ∧ HT p5 = some (.lst [V.bl true, V.bl false, V.non, V.str "0", V.str "", V.ref p1, V.ref p2, V.ref p3, V.int (-1), V.int (-big), V.int big, V.ref p4, V.str "left"])) ⟨((((Keep.alloc hp1).new hp2).new hp3).new hp4).new hp5, by kaf_pre, by kaf_pre, by kaf_pre, by kaf_pre, upd_same⟩ fun H8 ⟨k8, t1, t2, t3, t4, e8⟩ => ?_))
    have L8 := L7.same k8
    have gp := L8.B.pos
    have hks8 := k8.get (fun z => z) hks7
    have hx8 : ∀ u : Int, 0 ≤ u → u < 15 → ∃ v, atI ([V.bl true, V.bl false, V.non, V.str "0", V.str "", V.ref p1, V.ref p2, V.ref p3, V.int (-1), V.int (-big), V.int big, V.ref p4, V.str "left"] ++ [V.int gs.length, V.int (gs.length + 1)]) u = some v ∧ ∀ H'', Keep (Wd MD MB R) H8 H'' → BadV H'' gs.length v := fun u u0 u1 => by
      have : u = 0 ∨ u = 1 ∨ u = 2 ∨ u = 3 ∨ u = 4 ∨ u = 5 ∨ u = 6 ∨ u = 7 ∨ u = 8 ∨ u = 9 ∨ u = 10 ∨ u = 11 ∨ u = 12 ∨ u = 13 ∨ u = 14 := by omega
      rcases this with rfl | rfl | rfl | rfl | rfl | rfl | rfl | rfl | rfl | rfl | rfl | rfl | rfl | rfl | rfl
      · exact ⟨_, rfl, fun _ _ => .bl _⟩
      · exact ⟨_, rfl, fun _ _ => .bl _⟩
      · exact ⟨_, rfl, fun _ _ => .non⟩
      · exact ⟨_, rfl, fun _ _ => .str _⟩
      · exact ⟨_, rfl, fun _ _ => .str _⟩
      · exact ⟨_, rfl, fun _ k => .tup (k _ _ w1 t1)⟩
      · exact ⟨_, rfl, fun _ k => .lst (k _ _ w2 t2)⟩
      · exact ⟨_, rfl, fun _ k => .dic (k _ _ w3 t3)⟩
      · exact ⟨_, rfl, fun _ _ => .int (.inl (by decide))⟩
      · exact ⟨_, rfl, fun _ _ => .int (.inl (by omega))⟩
      · exact ⟨_, rfl, fun _ _ => .int (.inr (by omega))⟩
      · exact ⟨_, rfl, fun _ k => .tup (k _ _ w4 t4)⟩
      · exact ⟨_, rfl, fun _ _ => .str _⟩
      · exact ⟨_, rfl, fun _ _ => .int (.inr (by omega))⟩
      · exact ⟨_, rfl, fun _ _ => .int (.inr (by omega))⟩
    have xl : ([V.bl true, V.bl false, V.non, V.str "0", V.str "", V.ref p1, V.ref p2, V.ref p3, V.int (-1), V.int (-big), V.int big, V.ref p4, V.str "left"] : List V).length = 13 := rfl
    generalize [V.bl true, V.bl false, V.non, V.str "0", V.str "", V.ref p1, V.ref p2, V.ref p3, V.int (-1), V.int (-big), V.int big, V.ref p4, V.str "left"] = xs at e8 hx8 xl ⊢
    clear t1 t2 t3 t4 w1 w2 w3 w4 hp1 hp2 hp3 hp4 hp5 k8 hks7 pks7 L7
    (repeat kaf_suf)
    refine ⟨rfl, d, _, MD, rfl, by omega, by omega, L8.D, fun H9 good k9 D9 g0 g1 => ?_⟩
    have L9 := L8.draw k9 D9
    (repeat kaf_suf)
    refine ⟨rfl, d, _, MD, rfl, by decide, by decide, L9.D, fun H10 at_ k10 D10 at0 at1 => ?_⟩
    have L10 := L9.draw k10 D10
    (repeat kaf_suf)
    refine ⟨rfl, d, _, MD, rfl, by decide, by decide, L10.D, fun H11 pick k11 D11 pk0 pk1 => ?_⟩
    have L11 := L10.draw k11 D11
    have nw5 : ¬ MD p5 := fun z => w5 (.inl z)
    have e11 := k11 _ _ nw5 (k10 _ _ nw5 (k9 _ _ nw5 e8))
    obtain ⟨v, hv, bv⟩ := hx8 pick pk0 pk1
    obtain ⟨an, rfl⟩ := Int.eq_ofNat_of_zero_le at0
    have kw : Keep (Wd MD MB R) H8 H11 := ((k9.mono fun _ h => .inl h).trans (k10.mono fun _ h => .inl h)).trans (k11.mono fun _ h => .inl h)
    have bv11 := fun H'' (k : Keep Nil H11 H'') => bv H'' (kw.trans k.weak)
    clear k9 D9 k10 D10 k11 D11 L8 L9 L10 hx8 bv kw e8 hks8
    (repeat kaf_suf)
    refine for_range (lo := 0) (n := (10 : Int).toNat) (fun j σ H' => ∃ x9 x10 : Option V, σ = [some (.ref a), some (.ref d), some (.ref b), some (.ref R), some (.int (0 + (i : Int))), some (.ref p5), some (.int good), some (.int an), some (.int pick), x9, x10, none, none] ∧ Keep Nil H11 H') ⟨_, _, rfl, Keep.refl⟩ ?_ ?_
    · rintro j σ H' hj ⟨x9, x10, rfl, kj⟩
      have hj10 : j < 10 := hj
      have ej := kj.get (fun z => z) e11
      have Bj := L11.B.same kj
      obtain ⟨bx, bm, bn, bd, hbk⟩ := Bj.ins_
      (repeat kaf_suf)
      refine ⟨rfl, b, MB, gs, ds, rfl, Bj, ?_⟩
      (repeat kaf_suf)
      refine ⟨rfl, b, MB, gs, ds, rfl, Bj, ?_⟩
      (repeat kaf_suf)
      intro s1 hs1
      (repeat kaf_suf)
      intro s2 hs2
      have kk := (Keep.alloc (M := Nil) (o := .lst [V.int gs.length, V.int (gs.length + 1)]) hs1).new (o := .lst (xs ++ [V.int gs.length, V.int (gs.length + 1)])) hs2
      (repeat kaf_suf)
      refine ⟨rfl, b, MB, gs, ds, v, j, an, good, by rw [Int.zero_add], Bj.same kk, bv11 _ (kj.trans kk), g0, by omega, by omega, by omega, fun H14 k14 => ?_⟩
      (repeat kaf_suf)
      exact ⟨_, _, rfl, kj.trans (kk.trans k14)⟩
    · rintro σ H1 ⟨x9, x10, rfl, k1⟩
      have L1 : Lv c H1 d b R MD MB gs (gs ++ []) ds := by rw [List.append_nil]; exact L11.same k1
      obtain ⟨ks1, hks1, pks1⟩ := id L1.rows
      have hkm1 : (ks1.map V.ref).length = gs.length := by rw [List.length_map, Paired.length pks1]
      clear e11 bv11 k1
      (repeat kaf_suf)
      intro D5 hD5
      refine lc_range (lo := 0) (n := ((ks1.map V.ref).length : Int).toNat) (fun j H' => ∃ qs : List Addr, H' D5 = some (.lst (qs.map V.ref)) ∧ Paired (RowAt (fun x => x = D5) H') qs (gs.take j) ∧ Keep Nil H1 H') ⟨[], upd_same, .nil, Keep.alloc hD5⟩ ?_ ?_
      · rintro j H2 hj ⟨qs, e2, pq, k2⟩
        have hj' : j < gs.length := by omega
        have hgj : (gs ++ [])[j]? = some gs[j] := by rw [List.getElem?_append_left hj']; exact List.getElem?_eq_getElem hj'
        have B2 := L1.B.same k2
        obtain ⟨bx2, bm2, bn2, bd2, hb2⟩ := B2.ins_
        repeat kaf_suf
        refine ⟨rfl, ?_⟩
        repeat kaf_suf
        refine ⟨rfl, b, MB, _, _, j, gs[j], by rw [Int.zero_add], B2, hgj, fun p1 hp1 => ?_⟩
        repeat kaf_suf
        refine ⟨rfl, b, MB, _, _, j, gs[j], by rw [Int.zero_add], B2.same (Keep.alloc hp1), hgj, fun p2 hp2 => ?_⟩
        repeat kaf_suf
        intro p3 hp3
        repeat kaf_suf
        have k3 : Keep Nil H2 (upd (upd (upd H2 p1 (.lst (gs[j].1.map V.int))) p2 (.lst (gs[j].2.map V.int))) p3 (.tup [.ref p1, .ref p2])) := ((Keep.alloc hp1).new hp2).new hp3
        have ql : qs.length ≤ 100 := by
          have := Paired.length pq
          rw [List.length_take] at this; omega
        refine ⟨_, k3.get (fun z => z) e2, few1 (by rw [List.length_map]; omega), qs ++ [p3], by rw [List.map_append]; exact upd_same, ?_, (k2.trans k3).setN hD5⟩
        have e3' := k3.get (fun z => z) e2
        have n1 : p1 ≠ D5 := ne_new hp1 e2
        have n2 : p2 ≠ D5 := ne_new hp2 (get_new hp1 e2)
        have n3 : p3 ≠ D5 := ne_new hp3 (get_new hp2 (get_new hp1 e2))
        have r3 : RowAt (fun x => x = D5) (upd (upd (upd H2 p1 (.lst (gs[j].1.map V.int))) p2 (.lst (gs[j].2.map V.int))) p3 (.tup [.ref p1, .ref p2])) p3 gs[j] := ⟨p1, p2, upd_same, by kaf_pre, by kaf_pre, n3, n1, n2⟩
        have tk1 : gs.take (j + 1) = gs.take j ++ [gs[j]] := by rw [List.take_succ, List.getElem?_eq_getElem hj']; rfl
        rw [tk1]
        exact Paired.snoc (paired_keep pq fun t g r => (r.keep k3.weak).keep (Keep.refl.set rfl)) (r3.keep (Keep.refl.set rfl))
      rintro H2 ⟨qs, e2, pq, k2⟩
      have hR2 := (L1.rows).keep (W := _) k2.weak fun o h => k2.get (fun z => z) h
      rw [List.take_of_length_le (by omega)] at pq
      repeat kaf_suf
      refine v_neD (d := .list (gs.map dRow)) (e := .list (gs.map dRow)) (.lst (SqL.of e2) (rows_dp pq)) hR2.dp (dRows_sh gs) (dRows_sh gs) ?_
      have ee : PyData.eqv (.list (gs.map dRow)) (.list (gs.map dRow)) = true := by
        simp only [PyData.eqv]; exact eqv_rows gs
      rw [ee]
      have L2' : Lv c H2 d b R MD MB gs gs ds := by
        have := L1.same k2
        rw [List.append_nil] at this; exact this
      have pos2 := L2'.B.pos
      have dl2 := L2'.B.dok.len
      obtain ⟨gn, rfl⟩ := Int.eq_ofNat_of_zero_le g0
      obtain ⟨dg, hdg⟩ : ∃ v, ds[gn]? = some v := ⟨_, List.getElem?_eq_getElem (by omega)⟩
      obtain ⟨dz, hdz⟩ : ∃ v, ds[0]? = some v := ⟨_, List.getElem?_eq_getElem (by omega)⟩
      have dgl := DOk.le L2'.B.ok L2'.B.dok _ _ (Nat.lt_succ_self _) _ hdg
      have dzl := DOk.le L2'.B.ok L2'.B.dok _ _ (Nat.lt_succ_self _) _ hdz
      have mul1 : (down gn).length * (down 0).length ≤ 20 := by rw [down_len, down_len]; omega
      have len1 : (down gn).length + (down 0).length ≤ 20 := by rw [down_len, down_len]; omega
      (repeat kaf_suf)
      refine ⟨rfl, b, MB, gs, ds, down gn, down 0, gn, 0, rfl, L2'.B, by omega, by omega, ⟨dg, dz, hdg, hdz, by omega⟩, down_mem.mpr (by omega), down_mem.mpr (by omega), down_cl L2'.B.ok (by omega), down_cl L2'.B.ok (by omega), by omega, by omega, by omega, fun H3 f3 e3 x3 k3 B3 fl3 ex3 hf3 => ?_⟩
      cases hf3 ⟨_, sm_zero L2'.B.ok (gn + 1) gn (by omega) (by omega)⟩
      cases (sm_zero B3.ok (gn + 1) gn (by omega) (by rw [List.append_nil]; omega)).symm.trans ex3
      have z3 : e3 = [] := by
        have := B3.dok.len
        rw [List.append_nil, List.length_append] at this
        exact List.eq_nil_of_length_eq_zero (by omega)
      subst z3
      rw [List.append_nil, List.append_nil] at B3
      have L3' := L2'.game k3 B3
      clear k3 B3 ex3 hf3 fl3 L2'
      (repeat kaf_suf)
      refine ⟨rfl, b, MB, gs, ds, 0, rfl, L3'.B, by omega, ⟨dz, hdz, by omega⟩, by omega, fun H4 k4 => ?_⟩
      have w0 : wd (wins gs 0 true) (wins gs 0 false) = ("second" : Str) := by
        have z : ∀ s, wins gs 0 s = false := fun s => by
          rw [wins_eq L3'.B.ok]
          have : mvs gs 0 s = [] := by unfold mvs; rw [L3'.B.ok.zero]; cases s <;> rfl
          rw [this]; rfl
        rw [z, z]; rfl
      rw [w0]
      have L4' := L3'.same k4
      (repeat kaf_suf)
      refine ⟨rfl, b, MB, gs, ds, 0, rfl, L4'.B, by omega, ⟨dz, hdz, by omega⟩, by omega, by omega, fun H5 f5 e5 x5 k5 B5 fl5 ex5 hf5 => ?_⟩
      cases hf5 ⟨_, tr_zero L4'.B.ok⟩
      cases (tr_zero B5.ok).symm.trans ex5
      have z5 : e5 = [] := by
        have := B5.dok.len
        rw [List.append_nil, List.length_append] at this
        exact List.eq_nil_of_length_eq_zero (by omega)
      subst z5
      rw [List.append_nil, List.append_nil] at B5
      have L5' := L4'.game k5 B5
      (repeat kaf_suf)
      exact ⟨_, _, _, _, _, _, _, rfl, L5'⟩
  · rintro σ H7 ⟨x4, x5, x6, x7, x8, x9, x10, rfl, L7⟩
    have B7 := L7.B
    obtain ⟨bx7, bm7, bn7, bd7, hb7⟩ := B7.ins_
    (repeat kaf_suf)
    refine ⟨rfl, b, MB, gs, ds, rfl, B7, ?_⟩
    (repeat kaf_suf)
    refine for_range (lo := 0) (n := (10 : Int).toNat) (fun j σ H' => ∃ x9 : Option V, σ = [some (.ref a), some (.ref d), some (.ref b), some (.ref R), x4, x5, x6, x7, x8, x9, x10, some (.int gs.length), none] ∧ Keep Nil H7 H') ⟨_, rfl, Keep.refl⟩ ?_ ?_
    · rintro j σ H' hj ⟨x9, rfl, kj⟩
      have hj10 : j < 10 := hj
      have Bj := B7.same kj
      (repeat kaf_suf)
      refine ⟨rfl, b, MB, gs, ds, .int gs.length, j, 1, 0, by rw [Int.zero_add]; rfl, Bj, .int (.inr (by omega)), by omega, by omega, by omega, by omega, fun H14 k14 => ?_⟩
      (repeat kaf_suf)
      exact ⟨_, rfl, kj.trans k14⟩
    · rintro σ H8 ⟨x9, rfl, k8⟩
      have B8 := B7.same k8
      (repeat kaf_suf)
      refine ⟨rfl, b, MB, gs, ds, rfl, B8, by omega, fun H9 f e k9 B9 fl => ?_⟩
      have pos9 := B9.pos
      have dl9 := B9.dok.len
      obtain ⟨dz, hdz⟩ : ∃ v, (ds ++ e)[0]? = some v := ⟨_, List.getElem?_eq_getElem (by omega)⟩
      have dzl := DOk.le B9.ok B9.dok _ _ (Nat.lt_succ_self _) _ hdz
      (repeat kaf_suf)
      refine ⟨rfl, b, MB, gs ++ f, ds ++ e, 0, true, rfl, B9, by omega, ⟨dz, hdz, by omega⟩, by omega, fun H10 w10 k10 hw10 ew10 => ?_⟩
      (repeat kaf_suf)
      intro p hp
      have e0 : wmv (gs ++ f) 0 true = [] := by
        have : mvs (gs ++ f) 0 true = [] := by unfold mvs; rw [B9.ok.zero]; rfl
        unfold wmv; rw [this]; rfl
      rw [e0] at ew10
      refine v_eqD (dp_ints (l := []) (get_new hp ew10)) (dp_ints (l := []) upd_same) (dInts_sh _) (dInts_sh _) ?_
      rw [eqv_dInts, decide_eq_true rfl]
      (repeat kaf_suf)
      exact k _

theorem ok_law {c : Cn} {mg : Str → Option Value} {base : Heap} {f : Addr} {fd : FuncData} (T : Txt c mg) (F : Fun c.K "law" "law" s_law f fd) : FnOk c.P c.w c.K mg base CX0 80 f fd ["script"] (sp_law_law c.K) :=
  F.ok (k := 79) (N := N_law) sc_law (fun vs H Q E h => h.1) (fun cdv A outer s H vs Q E hr h => ⟨t_law c, by
  exact (pss_cons (ps_set (i := 1) sc_law.nd rfl (Or.inl rfl) (e_call (cal_law_deck T) hr (by decide) pass0 rfl (pa_cons (pv 0) pa_nil)))
  (pss_cons (ps_set (i := 2) sc_law.nd rfl (Or.inr rfl) (e_make0 (mak_Book T) hr (by decide) pass0 rfl))
  (pss_cons (ps_set (i := 3) sc_law.nd rfl (Or.inl rfl) (e_call (cal_law_grown T) hr (by decide) pass0 rfl (pa_cons (pv 1) (pa_cons (pv 2) (pa_cons (pe_op o_add pe_int (e_call (cal_law_draw T) hr (by decide) pass0 rfl (pa_cons (pv 1) (pa_cons pe_int pa_nil)))) pa_nil)))))
  (pss_cons (ps_if (pt_cmpR o_is (pv 3) pe_non (nomark _)) (pss_one (ps_ret pe_bl)) pss_nil)
  (pss_cons (ps_for PassesOwn.never rfl (pi_range1 rfl T.n_range (pa_cons pe_int pa_nil)) (pg_name (i := 4) sc_law.nd rfl (Or.inl rfl))
  (pss_cons (ps_set (i := 5) sc_law.nd rfl (Or.inl rfl) (pe_lst (pa_cons pe_bl (pa_cons pe_bl (pa_cons pe_non (pa_cons pe_str (pa_cons pe_str (pa_cons (pe_tup (pa_cons pe_int pa_nil)) (pa_cons (pe_lst (pa_cons pe_int pa_nil)) (pa_cons pe_dnew (pa_cons (pe_un un_neg pe_int) (pa_cons (pe_un un_neg (pe_op o_pow pe_int pe_int)) (pa_cons (pe_op o_pow pe_int pe_int) (pa_cons (pe_tup pa_nil) (pa_cons pe_str pa_nil)))))))))))))))
  (pss_cons (ps_set (i := 6) sc_law.nd rfl (Or.inl rfl) (e_call (cal_law_draw T) hr (by decide) pass0 rfl (pa_cons (pv 1) (pa_cons (pe_callB k_len (by rfl) T.n_len (by decide +kernel) (pa_cons (pv 3) pa_nil)) pa_nil))))
  (pss_cons (ps_set (i := 7) sc_law.nd rfl (Or.inl rfl) (e_call (cal_law_draw T) hr (by decide) pass0 rfl (pa_cons (pv 1) (pa_cons pe_int pa_nil))))
  (pss_cons (ps_set (i := 8) sc_law.nd rfl (Or.inl rfl) (e_call (cal_law_draw T) hr (by decide) pass0 rfl (pa_cons (pv 1) (pa_cons pe_int pa_nil))))
  (pss_cons (ps_for PassesOwn.never rfl (pi_range1 rfl T.n_range (pa_cons pe_int pa_nil)) (pg_name (i := 9) sc_law.nd rfl (Or.inl rfl))
  (pss_cons (ps_set (i := 10) sc_law.nd rfl (Or.inl rfl) (pe_ix (x_ix (hu64 hr)) (pe_op o_add (pv 5) (pe_lst (pa_cons (e_meth0 (met_Book_many T) hr (by decide) pass0 (pv 2)) (pa_cons (pe_op o_add (e_meth0 (met_Book_many T) hr (by decide) pass0 (pv 2)) pe_int) pa_nil)))) (pv 8) (fun _ _ => rfl)))
  (pss_one (ps_if (pt_not (p_tru (e_call (cal_law_refused T) hr (by decide) pass0 rfl (pa_cons (pv 2) (pa_cons (pv 9) (pa_cons (pv 10) (pa_cons (pv 6) (pa_cons (pv 7) pa_nil)))))))) (pss_one (ps_ret pe_bl)) pss_nil))))
  (pss_cons (ps_if (pt_cmpR (o_ne (hu64 hr)) (pe_lc (own := [("g", 12)]) rfl sc_law.nd (pi_range1 rfl T.n_range (pa_cons (pe_callB k_len (by rfl) T.n_len (by decide +kernel) (pa_cons (pv 3) pa_nil)) pa_nil)) (blkOk_by (own := [("g", 12)]) (N := N_law) (sc := defScope s_law) (by decide +kernel)) (fun _ _ _ _ _ => (pg_name (i := 12) sc_law.nd rfl (Or.inl rfl))) (fun _ _ _ _ _ => pts_nil) (fun _ _ _ _ _ => (pe_tup (pa_cons (e_meth (met_Book_lefts T) hr (by decide) passL (pv 2) (pa_cons (pv 12) pa_nil)) (pa_cons (e_meth (met_Book_rights T) hr (by decide) passL (pv 2) (pa_cons (pv 12) pa_nil)) pa_nil))))) (pv 3) (nomark _)) (pss_one (ps_ret pe_bl)) pss_nil)
  (pss_one (ps_if (PW.pt (pw_or (pt_cmpR (o_ne (hu64 hr)) (e_call (cal_put_together T) hr (by decide) passL rfl (pa_cons (pv 2) (pa_cons (pv 6) (pa_cons pe_int pa_nil)))) (pv 6) (nomark _)) (pw_or (pt_cmpR (o_ne (hu64 hr)) (e_call (cal_who_wins T) hr (by decide) passL rfl (pa_cons (pv 2) (pa_cons pe_int pa_nil))) pe_str (nomark _)) (pw_or1 (pt_cmpR (o_ne (hu64 hr)) (e_call (cal_turned T) hr (by decide) passL rfl (pa_cons (pv 2) (pa_cons pe_int pa_nil))) pe_int (nomark _)))))) (pss_one (ps_ret pe_bl)) pss_nil)))))))))
  (pss_cons (ps_set (i := 11) sc_law.nd rfl (Or.inl rfl) (e_meth0 (met_Book_many T) hr (by decide) pass0 (pv 2)))
  (pss_cons (ps_for PassesOwn.never rfl (pi_range1 rfl T.n_range (pa_cons pe_int pa_nil)) (pg_name (i := 9) sc_law.nd rfl (Or.inl rfl))
  (pss_one (ps_if (pt_not (p_tru (e_call (cal_law_refused T) hr (by decide) pass0 rfl (pa_cons (pv 2) (pa_cons (pv 9) (pa_cons (pv 11) (pa_cons pe_int (pa_cons pe_int pa_nil)))))))) (pss_one (ps_ret pe_bl)) pss_nil)))
  (pss_one (ps_ret (pe_and (e_call (cal_law_answered T) hr (by decide) pass0 rfl (pa_cons (pv 2) (pa_cons (pv 11) pa_nil))) (pe_one (pe_cmpR (o_eq (hu64 hr)) (e_call (cal_winning_moves T) hr (by decide) passL rfl (pa_cons (pv 2) (pa_cons pe_int (pa_cons pe_str pa_nil)))) (pe_lst pa_nil) (nomark _))))))))))))), p_law T h⟩)
theorem all_mk {l : PySem.W.OpenLaw} {w : World} {K : PySem.W.Frag} {h : Heap} {mg : Str → Option Value} {fa : Addr} (X : K.In h) (G : h.Ns mainGlobals mg) (hfa : mg "law" = some (.ref fa))
    {aTurns aPutting aGameError aNoGame aNoRoad aNoBoard aNoNumber aNoText aNoName aNoRow aBook : Addr}
    {k_SIDES : Addr} {nn_SIDES : Nat} {sl_SIDES : Array (Option Value)} {tk_SIDES_0 : _} {tk_SIDES_1 : _}
    {f_law_draw : Addr} {od_law_draw an_law_draw : Option Addr} {sl_law_draw : Array (Option Value)} {oc_law_draw kV_law_draw dc_law_draw pm_law_draw cd_law_draw ct_law_draw : Value}
    {f_law_deck : Addr} {od_law_deck an_law_deck : Option Addr} {sl_law_deck : Array (Option Value)} {oc_law_deck kV_law_deck dc_law_deck pm_law_deck cd_law_deck ct_law_deck : Value}
    {f_Book_need : Addr} {od_Book_need an_Book_need : Option Addr} {sl_Book_need : Array (Option Value)} {oc_Book_need kV_Book_need dc_Book_need pm_Book_need cd_Book_need ct_Book_need : Value}
    {f_Book_game : Addr} {od_Book_game an_Book_game : Option Addr} {sl_Book_game : Array (Option Value)} {oc_Book_game kV_Book_game dc_Book_game pm_Book_game cd_Book_game ct_Book_game : Value}
    {f_Book_init : Addr} {od_Book_init an_Book_init : Option Addr} {sl_Book_init : Array (Option Value)} {oc_Book_init kV_Book_init dc_Book_init pm_Book_init cd_Book_init ct_Book_init : Value}
    {f_Book_many : Addr} {od_Book_many an_Book_many : Option Addr} {sl_Book_many : Array (Option Value)} {oc_Book_many kV_Book_many dc_Book_many pm_Book_many cd_Book_many ct_Book_many : Value}
    {f_law_kinds : Addr} {od_law_kinds an_law_kinds : Option Addr} {sl_law_kinds : Array (Option Value)} {oc_law_kinds kV_law_kinds dc_law_kinds pm_law_kinds cd_law_kinds ct_law_kinds : Value}
    {f_law_asked : Addr} {od_law_asked an_law_asked : Option Addr} {sl_law_asked : Array (Option Value)} {oc_law_asked kV_law_asked dc_law_asked pm_law_asked cd_law_asked ct_law_asked : Value}
    {f_law_refused : Addr} {od_law_refused an_law_refused : Option Addr} {sl_law_refused : Array (Option Value)} {oc_law_refused kV_law_refused dc_law_refused pm_law_refused cd_law_refused ct_law_refused : Value}
    {f_law_answered : Addr} {od_law_answered an_law_answered : Option Addr} {sl_law_answered : Array (Option Value)} {oc_law_answered kV_law_answered dc_law_answered pm_law_answered cd_law_answered ct_law_answered : Value}
    {f_Book_lefts : Addr} {od_Book_lefts an_Book_lefts : Option Addr} {sl_Book_lefts : Array (Option Value)} {oc_Book_lefts kV_Book_lefts dc_Book_lefts pm_Book_lefts cd_Book_lefts ct_Book_lefts : Value}
    {f_Book_rights : Addr} {od_Book_rights an_Book_rights : Option Addr} {sl_Book_rights : Array (Option Value)} {oc_Book_rights kV_Book_rights dc_Book_rights pm_Book_rights cd_Book_rights ct_Book_rights : Value}
    {f_Book_depth : Addr} {od_Book_depth an_Book_depth : Option Addr} {sl_Book_depth : Array (Option Value)} {oc_Book_depth kV_Book_depth dc_Book_depth pm_Book_depth cd_Book_depth ct_Book_depth : Value}
    {f_law_moves : Addr} {od_law_moves an_law_moves : Option Addr} {sl_law_moves : Array (Option Value)} {oc_law_moves kV_law_moves dc_law_moves pm_law_moves cd_law_moves ct_law_moves : Value}
    {f_law_grown : Addr} {od_law_grown an_law_grown : Option Addr} {sl_law_grown : Array (Option Value)} {oc_law_grown kV_law_grown dc_law_grown pm_law_grown cd_law_grown ct_law_grown : Value}
    {f_Turns_init : Addr} {od_Turns_init an_Turns_init : Option Addr} {sl_Turns_init : Array (Option Value)} {oc_Turns_init kV_Turns_init dc_Turns_init pm_Turns_init cd_Turns_init ct_Turns_init : Value}
    {f_Turns_row : Addr} {od_Turns_row an_Turns_row : Option Addr} {sl_Turns_row : Array (Option Value)} {oc_Turns_row kV_Turns_row dc_Turns_row pm_Turns_row cd_Turns_row ct_Turns_row : Value}
    {f_Turns_wins : Addr} {od_Turns_wins an_Turns_wins : Option Addr} {sl_Turns_wins : Array (Option Value)} {oc_Turns_wins kV_Turns_wins dc_Turns_wins pm_Turns_wins cd_Turns_wins ct_Turns_wins : Value}
    {f_who_wins : Addr} {od_who_wins an_who_wins : Option Addr} {sl_who_wins : Array (Option Value)} {oc_who_wins kV_who_wins dc_who_wins pm_who_wins cd_who_wins ct_who_wins : Value}
    {f_winning_moves : Addr} {od_winning_moves an_winning_moves : Option Addr} {sl_winning_moves : Array (Option Value)} {oc_winning_moves kV_winning_moves dc_winning_moves pm_winning_moves cd_winning_moves ct_winning_moves : Value}
    {f_Putting_init : Addr} {od_Putting_init an_Putting_init : Option Addr} {sl_Putting_init : Array (Option Value)} {oc_Putting_init kV_Putting_init dc_Putting_init pm_Putting_init cd_Putting_init ct_Putting_init : Value}
    {f_Putting_turn : Addr} {od_Putting_turn an_Putting_turn : Option Addr} {sl_Putting_turn : Array (Option Value)} {oc_Putting_turn kV_Putting_turn dc_Putting_turn pm_Putting_turn cd_Putting_turn ct_Putting_turn : Value}
    {f_turned : Addr} {od_turned an_turned : Option Addr} {sl_turned : Array (Option Value)} {oc_turned kV_turned dc_turned pm_turned cd_turned ct_turned : Value}
    {f_Putting_put : Addr} {od_Putting_put an_Putting_put : Option Addr} {sl_Putting_put : Array (Option Value)} {oc_Putting_put kV_Putting_put dc_Putting_put pm_Putting_put cd_Putting_put ct_Putting_put : Value}
    {f_put_together : Addr} {od_put_together an_put_together : Option Addr} {sl_put_together : Array (Option Value)} {oc_put_together kV_put_together dc_put_together pm_put_together cd_put_together ct_put_together : Value}
    {f_difference : Addr} {od_difference an_difference : Option Addr} {sl_difference : Array (Option Value)} {oc_difference kV_difference dc_difference pm_difference cd_difference ct_difference : Value}
    {f_all_together : Addr} {od_all_together an_all_together : Option Addr} {sl_all_together : Array (Option Value)} {oc_all_together kV_all_together dc_all_together pm_all_together cd_all_together ct_all_together : Value}
    {f_law : Addr} {od_law an_law : Option Addr} {sl_law : Array (Option Value)} {oc_law kV_law dc_law pm_law cd_law ct_law : Value}
    (a_Turns : PySem.W.nsIn K mainGlobals "Turns" = some (some (.ref aTurns)))
    (a_Putting : PySem.W.nsIn K mainGlobals "Putting" = some (some (.ref aPutting)))
    (a_GameError : PySem.W.nsIn K mainGlobals "GameError" = some (some (.ref aGameError)))
    (a_NoGame : PySem.W.nsIn K mainGlobals "NoGame" = some (some (.ref aNoGame)))
    (a_NoRoad : PySem.W.nsIn K mainGlobals "NoRoad" = some (some (.ref aNoRoad)))
    (a_NoBoard : PySem.W.nsIn K mainGlobals "NoBoard" = some (some (.ref aNoBoard)))
    (a_NoNumber : PySem.W.nsIn K mainGlobals "NoNumber" = some (some (.ref aNoNumber)))
    (a_NoText : PySem.W.nsIn K mainGlobals "NoText" = some (some (.ref aNoText)))
    (a_NoName : PySem.W.nsIn K mainGlobals "NoName" = some (some (.ref aNoName)))
    (a_NoRow : PySem.W.nsIn K mainGlobals "NoRow" = some (some (.ref aNoRow)))
    (a_Book : PySem.W.nsIn K mainGlobals "Book" = some (some (.ref aBook)))
    (pg_Turns : PySem.W.plainGet K aTurns Str.empty = true)
    (hd_Turns : PySem.W.hasDictIn K aTurns = true)
    (po_Turns : PySem.W.plainOver K aTurns = true)
    (sa_Turns : PySem.W.findIn K (.ref aTurns) "__setattr__" = some (some (.builtin "object.__setattr__")))
    (mk_Turns : PySem.W.makesIn K aTurns = true)
    (kc_Turns : PySem.W.keepIn K (.ref aTurns) = true)
    (na_Turns_book : PySem.W.findIn K (.ref aTurns) "book" = some none)
    (na_Turns_known : PySem.W.findIn K (.ref aTurns) "known" = some none)
    (pg_Putting : PySem.W.plainGet K aPutting Str.empty = true)
    (hd_Putting : PySem.W.hasDictIn K aPutting = true)
    (po_Putting : PySem.W.plainOver K aPutting = true)
    (sa_Putting : PySem.W.findIn K (.ref aPutting) "__setattr__" = some (some (.builtin "object.__setattr__")))
    (mk_Putting : PySem.W.makesIn K aPutting = true)
    (kc_Putting : PySem.W.keepIn K (.ref aPutting) = true)
    (na_Putting_book : PySem.W.findIn K (.ref aPutting) "book" = some none)
    (na_Putting_sums : PySem.W.findIn K (.ref aPutting) "sums" = some none)
    (na_Putting_turned : PySem.W.findIn K (.ref aPutting) "turned" = some none)
    (pg_Book : PySem.W.plainGet K aBook Str.empty = true)
    (hd_Book : PySem.W.hasDictIn K aBook = true)
    (po_Book : PySem.W.plainOver K aBook = true)
    (sa_Book : PySem.W.findIn K (.ref aBook) "__setattr__" = some (some (.builtin "object.__setattr__")))
    (mk_Book : PySem.W.makesIn K aBook = true)
    (kc_Book : PySem.W.keepIn K (.ref aBook) = true)
    (na_Book_depths : PySem.W.findIn K (.ref aBook) "depths" = some none)
    (na_Book_moves : PySem.W.findIn K (.ref aBook) "moves" = some none)
    (na_Book_numbers : PySem.W.findIn K (.ref aBook) "numbers" = some none)
    (xk_GameError : PySem.W.keepIn K (.ref aGameError) = true)
    (xx_GameError : PySem.W.excIn K aGameError [.type "ValueError", .type "Exception", .type "BaseException", .type "object"] "ValueError.__new__" = true)
    (xb_GameError : PySem.W.subIn K (.ref aGameError) (.type "BaseException") = some true)
    (xt_GameError : PySem.W.typeIn K (.ref aGameError) = some (.type "type"))
    (xd_GameError : PySem.W.hasDictIn K aGameError = true)
    (xs_GameError : PySem.W.subIn K (.ref aGameError) (.ref aGameError) = some true)
    (xk_NoBoard : PySem.W.keepIn K (.ref aNoBoard) = true)
    (xx_NoBoard : PySem.W.excIn K aNoBoard [.type "ValueError", .type "Exception", .type "BaseException", .type "object"] "ValueError.__new__" = true)
    (xb_NoBoard : PySem.W.subIn K (.ref aNoBoard) (.type "BaseException") = some true)
    (xt_NoBoard : PySem.W.typeIn K (.ref aNoBoard) = some (.type "type"))
    (xd_NoBoard : PySem.W.hasDictIn K aNoBoard = true)
    (xs_NoBoard : PySem.W.subIn K (.ref aNoBoard) (.ref aGameError) = some true)
    (xk_NoGame : PySem.W.keepIn K (.ref aNoGame) = true)
    (xx_NoGame : PySem.W.excIn K aNoGame [.type "ValueError", .type "Exception", .type "BaseException", .type "object"] "ValueError.__new__" = true)
    (xb_NoGame : PySem.W.subIn K (.ref aNoGame) (.type "BaseException") = some true)
    (xt_NoGame : PySem.W.typeIn K (.ref aNoGame) = some (.type "type"))
    (xd_NoGame : PySem.W.hasDictIn K aNoGame = true)
    (xs_NoGame : PySem.W.subIn K (.ref aNoGame) (.ref aGameError) = some true)
    (xk_NoName : PySem.W.keepIn K (.ref aNoName) = true)
    (xx_NoName : PySem.W.excIn K aNoName [.type "ValueError", .type "Exception", .type "BaseException", .type "object"] "ValueError.__new__" = true)
    (xb_NoName : PySem.W.subIn K (.ref aNoName) (.type "BaseException") = some true)
    (xt_NoName : PySem.W.typeIn K (.ref aNoName) = some (.type "type"))
    (xd_NoName : PySem.W.hasDictIn K aNoName = true)
    (xs_NoName : PySem.W.subIn K (.ref aNoName) (.ref aGameError) = some true)
    (xk_NoNumber : PySem.W.keepIn K (.ref aNoNumber) = true)
    (xx_NoNumber : PySem.W.excIn K aNoNumber [.type "ValueError", .type "Exception", .type "BaseException", .type "object"] "ValueError.__new__" = true)
    (xb_NoNumber : PySem.W.subIn K (.ref aNoNumber) (.type "BaseException") = some true)
    (xt_NoNumber : PySem.W.typeIn K (.ref aNoNumber) = some (.type "type"))
    (xd_NoNumber : PySem.W.hasDictIn K aNoNumber = true)
    (xs_NoNumber : PySem.W.subIn K (.ref aNoNumber) (.ref aGameError) = some true)
    (xk_NoRoad : PySem.W.keepIn K (.ref aNoRoad) = true)
    (xx_NoRoad : PySem.W.excIn K aNoRoad [.type "ValueError", .type "Exception", .type "BaseException", .type "object"] "ValueError.__new__" = true)
    (xb_NoRoad : PySem.W.subIn K (.ref aNoRoad) (.type "BaseException") = some true)
    (xt_NoRoad : PySem.W.typeIn K (.ref aNoRoad) = some (.type "type"))
    (xd_NoRoad : PySem.W.hasDictIn K aNoRoad = true)
    (xs_NoRoad : PySem.W.subIn K (.ref aNoRoad) (.ref aGameError) = some true)
    (xk_NoRow : PySem.W.keepIn K (.ref aNoRow) = true)
    (xx_NoRow : PySem.W.excIn K aNoRow [.type "ValueError", .type "Exception", .type "BaseException", .type "object"] "ValueError.__new__" = true)
    (xb_NoRow : PySem.W.subIn K (.ref aNoRow) (.type "BaseException") = some true)
    (xt_NoRow : PySem.W.typeIn K (.ref aNoRow) = some (.type "type"))
    (xd_NoRow : PySem.W.hasDictIn K aNoRow = true)
    (xs_NoRow : PySem.W.subIn K (.ref aNoRow) (.ref aGameError) = some true)
    (xk_NoText : PySem.W.keepIn K (.ref aNoText) = true)
    (xx_NoText : PySem.W.excIn K aNoText [.type "ValueError", .type "Exception", .type "BaseException", .type "object"] "ValueError.__new__" = true)
    (xb_NoText : PySem.W.subIn K (.ref aNoText) (.type "BaseException") = some true)
    (xt_NoText : PySem.W.typeIn K (.ref aNoText) = some (.type "type"))
    (xd_NoText : PySem.W.hasDictIn K aNoText = true)
    (xs_NoText : PySem.W.subIn K (.ref aNoText) (.ref aGameError) = some true)
    (x_get : PySem.W.specialIn K (.builtin "object.__class__") "__get__" = some (some (.builtin "getset_descriptor.__get__")))
    (x_tak : PySem.W.takesIn K (.builtin "object.__class__") = some true)
    (ya_GameError : PySem.W.findIn K (.ref aGameError) "__getattribute__" = some (some (.builtin "BaseException.__getattribute__")))
    (yg_GameError : PySem.W.findIn K (.ref aGameError) "__getattr__" = some none)
    (yc_GameError : PySem.W.findIn K (.ref aGameError) "__class__" = some (some (.builtin "object.__class__")))
    (ym_GameError : PySem.W.mroIn K aGameError (.type "object") = some true)
    (yv_GameError : PySem.W.kitOne K (.ref aGameError) (.type "ValueError") = some true)
    (yi_GameError_GameError : PySem.W.kitOne K (.ref aGameError) (.ref aGameError) = some true)
    (yi_GameError_NoBoard : PySem.W.kitOne K (.ref aGameError) (.ref aNoBoard) = some false)
    (yi_GameError_NoGame : PySem.W.kitOne K (.ref aGameError) (.ref aNoGame) = some false)
    (yi_GameError_NoName : PySem.W.kitOne K (.ref aGameError) (.ref aNoName) = some false)
    (yi_GameError_NoNumber : PySem.W.kitOne K (.ref aGameError) (.ref aNoNumber) = some false)
    (yi_GameError_NoRoad : PySem.W.kitOne K (.ref aGameError) (.ref aNoRoad) = some false)
    (yi_GameError_NoRow : PySem.W.kitOne K (.ref aGameError) (.ref aNoRow) = some false)
    (yi_GameError_NoText : PySem.W.kitOne K (.ref aGameError) (.ref aNoText) = some false)
    (ya_NoBoard : PySem.W.findIn K (.ref aNoBoard) "__getattribute__" = some (some (.builtin "BaseException.__getattribute__")))
    (yg_NoBoard : PySem.W.findIn K (.ref aNoBoard) "__getattr__" = some none)
    (yc_NoBoard : PySem.W.findIn K (.ref aNoBoard) "__class__" = some (some (.builtin "object.__class__")))
    (ym_NoBoard : PySem.W.mroIn K aNoBoard (.type "object") = some true)
    (yv_NoBoard : PySem.W.kitOne K (.ref aNoBoard) (.type "ValueError") = some true)
    (yi_NoBoard_GameError : PySem.W.kitOne K (.ref aNoBoard) (.ref aGameError) = some true)
    (yi_NoBoard_NoBoard : PySem.W.kitOne K (.ref aNoBoard) (.ref aNoBoard) = some true)
    (yi_NoBoard_NoGame : PySem.W.kitOne K (.ref aNoBoard) (.ref aNoGame) = some false)
    (yi_NoBoard_NoName : PySem.W.kitOne K (.ref aNoBoard) (.ref aNoName) = some false)
    (yi_NoBoard_NoNumber : PySem.W.kitOne K (.ref aNoBoard) (.ref aNoNumber) = some false)
    (yi_NoBoard_NoRoad : PySem.W.kitOne K (.ref aNoBoard) (.ref aNoRoad) = some false)
    (yi_NoBoard_NoRow : PySem.W.kitOne K (.ref aNoBoard) (.ref aNoRow) = some false)
    (yi_NoBoard_NoText : PySem.W.kitOne K (.ref aNoBoard) (.ref aNoText) = some false)
    (ya_NoGame : PySem.W.findIn K (.ref aNoGame) "__getattribute__" = some (some (.builtin "BaseException.__getattribute__")))
    (yg_NoGame : PySem.W.findIn K (.ref aNoGame) "__getattr__" = some none)
    (yc_NoGame : PySem.W.findIn K (.ref aNoGame) "__class__" = some (some (.builtin "object.__class__")))
    (ym_NoGame : PySem.W.mroIn K aNoGame (.type "object") = some true)
    (yv_NoGame : PySem.W.kitOne K (.ref aNoGame) (.type "ValueError") = some true)
    (yi_NoGame_GameError : PySem.W.kitOne K (.ref aNoGame) (.ref aGameError) = some true)
    (yi_NoGame_NoBoard : PySem.W.kitOne K (.ref aNoGame) (.ref aNoBoard) = some false)
    (yi_NoGame_NoGame : PySem.W.kitOne K (.ref aNoGame) (.ref aNoGame) = some true)
    (yi_NoGame_NoName : PySem.W.kitOne K (.ref aNoGame) (.ref aNoName) = some false)
    (yi_NoGame_NoNumber : PySem.W.kitOne K (.ref aNoGame) (.ref aNoNumber) = some false)
    (yi_NoGame_NoRoad : PySem.W.kitOne K (.ref aNoGame) (.ref aNoRoad) = some false)
    (yi_NoGame_NoRow : PySem.W.kitOne K (.ref aNoGame) (.ref aNoRow) = some false)
    (yi_NoGame_NoText : PySem.W.kitOne K (.ref aNoGame) (.ref aNoText) = some false)
    (ya_NoName : PySem.W.findIn K (.ref aNoName) "__getattribute__" = some (some (.builtin "BaseException.__getattribute__")))
    (yg_NoName : PySem.W.findIn K (.ref aNoName) "__getattr__" = some none)
    (yc_NoName : PySem.W.findIn K (.ref aNoName) "__class__" = some (some (.builtin "object.__class__")))
    (ym_NoName : PySem.W.mroIn K aNoName (.type "object") = some true)
    (yv_NoName : PySem.W.kitOne K (.ref aNoName) (.type "ValueError") = some true)
    (yi_NoName_GameError : PySem.W.kitOne K (.ref aNoName) (.ref aGameError) = some true)
    (yi_NoName_NoBoard : PySem.W.kitOne K (.ref aNoName) (.ref aNoBoard) = some false)
    (yi_NoName_NoGame : PySem.W.kitOne K (.ref aNoName) (.ref aNoGame) = some false)
    (yi_NoName_NoName : PySem.W.kitOne K (.ref aNoName) (.ref aNoName) = some true)
    (yi_NoName_NoNumber : PySem.W.kitOne K (.ref aNoName) (.ref aNoNumber) = some false)
    (yi_NoName_NoRoad : PySem.W.kitOne K (.ref aNoName) (.ref aNoRoad) = some false)
    (yi_NoName_NoRow : PySem.W.kitOne K (.ref aNoName) (.ref aNoRow) = some false)
    (yi_NoName_NoText : PySem.W.kitOne K (.ref aNoName) (.ref aNoText) = some false)
    (ya_NoNumber : PySem.W.findIn K (.ref aNoNumber) "__getattribute__" = some (some (.builtin "BaseException.__getattribute__")))
    (yg_NoNumber : PySem.W.findIn K (.ref aNoNumber) "__getattr__" = some none)
    (yc_NoNumber : PySem.W.findIn K (.ref aNoNumber) "__class__" = some (some (.builtin "object.__class__")))
    (ym_NoNumber : PySem.W.mroIn K aNoNumber (.type "object") = some true)
    (yv_NoNumber : PySem.W.kitOne K (.ref aNoNumber) (.type "ValueError") = some true)
    (yi_NoNumber_GameError : PySem.W.kitOne K (.ref aNoNumber) (.ref aGameError) = some true)
    (yi_NoNumber_NoBoard : PySem.W.kitOne K (.ref aNoNumber) (.ref aNoBoard) = some false)
    (yi_NoNumber_NoGame : PySem.W.kitOne K (.ref aNoNumber) (.ref aNoGame) = some false)
    (yi_NoNumber_NoName : PySem.W.kitOne K (.ref aNoNumber) (.ref aNoName) = some false)
    (yi_NoNumber_NoNumber : PySem.W.kitOne K (.ref aNoNumber) (.ref aNoNumber) = some true)
    (yi_NoNumber_NoRoad : PySem.W.kitOne K (.ref aNoNumber) (.ref aNoRoad) = some false)
    (yi_NoNumber_NoRow : PySem.W.kitOne K (.ref aNoNumber) (.ref aNoRow) = some false)
    (yi_NoNumber_NoText : PySem.W.kitOne K (.ref aNoNumber) (.ref aNoText) = some false)
    (ya_NoRoad : PySem.W.findIn K (.ref aNoRoad) "__getattribute__" = some (some (.builtin "BaseException.__getattribute__")))
    (yg_NoRoad : PySem.W.findIn K (.ref aNoRoad) "__getattr__" = some none)
    (yc_NoRoad : PySem.W.findIn K (.ref aNoRoad) "__class__" = some (some (.builtin "object.__class__")))
    (ym_NoRoad : PySem.W.mroIn K aNoRoad (.type "object") = some true)
    (yv_NoRoad : PySem.W.kitOne K (.ref aNoRoad) (.type "ValueError") = some true)
    (yi_NoRoad_GameError : PySem.W.kitOne K (.ref aNoRoad) (.ref aGameError) = some true)
    (yi_NoRoad_NoBoard : PySem.W.kitOne K (.ref aNoRoad) (.ref aNoBoard) = some false)
    (yi_NoRoad_NoGame : PySem.W.kitOne K (.ref aNoRoad) (.ref aNoGame) = some false)
    (yi_NoRoad_NoName : PySem.W.kitOne K (.ref aNoRoad) (.ref aNoName) = some false)
    (yi_NoRoad_NoNumber : PySem.W.kitOne K (.ref aNoRoad) (.ref aNoNumber) = some false)
    (yi_NoRoad_NoRoad : PySem.W.kitOne K (.ref aNoRoad) (.ref aNoRoad) = some true)
    (yi_NoRoad_NoRow : PySem.W.kitOne K (.ref aNoRoad) (.ref aNoRow) = some false)
    (yi_NoRoad_NoText : PySem.W.kitOne K (.ref aNoRoad) (.ref aNoText) = some false)
    (ya_NoRow : PySem.W.findIn K (.ref aNoRow) "__getattribute__" = some (some (.builtin "BaseException.__getattribute__")))
    (yg_NoRow : PySem.W.findIn K (.ref aNoRow) "__getattr__" = some none)
    (yc_NoRow : PySem.W.findIn K (.ref aNoRow) "__class__" = some (some (.builtin "object.__class__")))
    (ym_NoRow : PySem.W.mroIn K aNoRow (.type "object") = some true)
    (yv_NoRow : PySem.W.kitOne K (.ref aNoRow) (.type "ValueError") = some true)
    (yi_NoRow_GameError : PySem.W.kitOne K (.ref aNoRow) (.ref aGameError) = some true)
    (yi_NoRow_NoBoard : PySem.W.kitOne K (.ref aNoRow) (.ref aNoBoard) = some false)
    (yi_NoRow_NoGame : PySem.W.kitOne K (.ref aNoRow) (.ref aNoGame) = some false)
    (yi_NoRow_NoName : PySem.W.kitOne K (.ref aNoRow) (.ref aNoName) = some false)
    (yi_NoRow_NoNumber : PySem.W.kitOne K (.ref aNoRow) (.ref aNoNumber) = some false)
    (yi_NoRow_NoRoad : PySem.W.kitOne K (.ref aNoRow) (.ref aNoRoad) = some false)
    (yi_NoRow_NoRow : PySem.W.kitOne K (.ref aNoRow) (.ref aNoRow) = some true)
    (yi_NoRow_NoText : PySem.W.kitOne K (.ref aNoRow) (.ref aNoText) = some false)
    (ya_NoText : PySem.W.findIn K (.ref aNoText) "__getattribute__" = some (some (.builtin "BaseException.__getattribute__")))
    (yg_NoText : PySem.W.findIn K (.ref aNoText) "__getattr__" = some none)
    (yc_NoText : PySem.W.findIn K (.ref aNoText) "__class__" = some (some (.builtin "object.__class__")))
    (ym_NoText : PySem.W.mroIn K aNoText (.type "object") = some true)
    (yv_NoText : PySem.W.kitOne K (.ref aNoText) (.type "ValueError") = some true)
    (yi_NoText_GameError : PySem.W.kitOne K (.ref aNoText) (.ref aGameError) = some true)
    (yi_NoText_NoBoard : PySem.W.kitOne K (.ref aNoText) (.ref aNoBoard) = some false)
    (yi_NoText_NoGame : PySem.W.kitOne K (.ref aNoText) (.ref aNoGame) = some false)
    (yi_NoText_NoName : PySem.W.kitOne K (.ref aNoText) (.ref aNoName) = some false)
    (yi_NoText_NoNumber : PySem.W.kitOne K (.ref aNoText) (.ref aNoNumber) = some false)
    (yi_NoText_NoRoad : PySem.W.kitOne K (.ref aNoText) (.ref aNoRoad) = some false)
    (yi_NoText_NoRow : PySem.W.kitOne K (.ref aNoText) (.ref aNoRow) = some false)
    (yi_NoText_NoText : PySem.W.kitOne K (.ref aNoText) (.ref aNoText) = some true)
    (n_ValueError : PySem.W.nsIn K mainGlobals "ValueError" = some none)
    (n_bool : PySem.W.nsIn K mainGlobals "bool" = some none)
    (n_int : PySem.W.nsIn K mainGlobals "int" = some none)
    (n_isinstance : PySem.W.nsIn K mainGlobals "isinstance" = some none)
    (n_len : PySem.W.nsIn K mainGlobals "len" = some none)
    (n_list : PySem.W.nsIn K mainGlobals "list" = some none)
    (n_max : PySem.W.nsIn K mainGlobals "max" = some none)
    (n_min : PySem.W.nsIn K mainGlobals "min" = some none)
    (n_range : PySem.W.nsIn K mainGlobals "range" = some none)
    (n_set : PySem.W.nsIn K mainGlobals "set" = some none)
    (n_sorted : PySem.W.nsIn K mainGlobals "sorted" = some none)
    (n_tuple : PySem.W.nsIn K mainGlobals "tuple" = some none)
    (a_SIDES : PySem.W.nsIn K mainGlobals "SIDES" = some (some (.ref k_SIDES)))
    (l_SIDES : K.lookup k_SIDES = some ⟨.type "tuple", none, .seq #[.str "left" tk_SIDES_0, .str "right" tk_SIDES_1] nn_SIDES, sl_SIDES⟩)
    (a_law_draw : PySem.W.nsIn K mainGlobals "_law_draw" = some (some (.ref f_law_draw)))
    (l_law_draw : K.lookup f_law_draw = some ⟨oc_law_draw, od_law_draw, .func (PySem.W.fnOf "_law_draw" "_law_draw" (defArgs s_law_draw) (defBody s_law_draw) (defScope s_law_draw) .none kV_law_draw dc_law_draw pm_law_draw an_law_draw cd_law_draw ct_law_draw), sl_law_draw⟩)
    (c_law_draw : PySem.W.codeIn K cd_law_draw "_law_draw" = true)
    (k_law_draw : PySem.W.keepIn K (.ref f_law_draw) = true)
    (a_law_deck : PySem.W.nsIn K mainGlobals "_law_deck" = some (some (.ref f_law_deck)))
    (l_law_deck : K.lookup f_law_deck = some ⟨oc_law_deck, od_law_deck, .func (PySem.W.fnOf "_law_deck" "_law_deck" (defArgs s_law_deck) (defBody s_law_deck) (defScope s_law_deck) .none kV_law_deck dc_law_deck pm_law_deck an_law_deck cd_law_deck ct_law_deck), sl_law_deck⟩)
    (c_law_deck : PySem.W.codeIn K cd_law_deck "_law_deck" = true)
    (k_law_deck : PySem.W.keepIn K (.ref f_law_deck) = true)
    (a_Book_need : PySem.W.findIn K (.ref aBook) "need" = some (some (.ref f_Book_need)))
    (i_Book_need : PySem.W.isFn K (.ref f_Book_need) = true)
    (l_Book_need : K.lookup f_Book_need = some ⟨oc_Book_need, od_Book_need, .func (PySem.W.fnOf "need" "Book.need" (defArgs s_Book_need) (defBody s_Book_need) (defScope s_Book_need) .none kV_Book_need dc_Book_need pm_Book_need an_Book_need cd_Book_need ct_Book_need), sl_Book_need⟩)
    (c_Book_need : PySem.W.codeIn K cd_Book_need "Book.need" = true)
    (k_Book_need : PySem.W.keepIn K (.ref f_Book_need) = true)
    (a_Book_game : PySem.W.findIn K (.ref aBook) "game" = some (some (.ref f_Book_game)))
    (i_Book_game : PySem.W.isFn K (.ref f_Book_game) = true)
    (l_Book_game : K.lookup f_Book_game = some ⟨oc_Book_game, od_Book_game, .func (PySem.W.fnOf "game" "Book.game" (defArgs s_Book_game) (defBody s_Book_game) (defScope s_Book_game) .none kV_Book_game dc_Book_game pm_Book_game an_Book_game cd_Book_game ct_Book_game), sl_Book_game⟩)
    (c_Book_game : PySem.W.codeIn K cd_Book_game "Book.game" = true)
    (k_Book_game : PySem.W.keepIn K (.ref f_Book_game) = true)
    (a_Book_init : PySem.W.findIn K (.ref aBook) "__init__" = some (some (.ref f_Book_init)))
    (i_Book_init : PySem.W.isFn K (.ref f_Book_init) = true)
    (l_Book_init : K.lookup f_Book_init = some ⟨oc_Book_init, od_Book_init, .func (PySem.W.fnOf "__init__" "Book.__init__" (defArgs s_Book_init) (defBody s_Book_init) (defScope s_Book_init) .none kV_Book_init dc_Book_init pm_Book_init an_Book_init cd_Book_init ct_Book_init), sl_Book_init⟩)
    (c_Book_init : PySem.W.codeIn K cd_Book_init "Book.__init__" = true)
    (k_Book_init : PySem.W.keepIn K (.ref f_Book_init) = true)
    (a_Book_many : PySem.W.findIn K (.ref aBook) "many" = some (some (.ref f_Book_many)))
    (i_Book_many : PySem.W.isFn K (.ref f_Book_many) = true)
    (l_Book_many : K.lookup f_Book_many = some ⟨oc_Book_many, od_Book_many, .func (PySem.W.fnOf "many" "Book.many" (defArgs s_Book_many) (defBody s_Book_many) (defScope s_Book_many) .none kV_Book_many dc_Book_many pm_Book_many an_Book_many cd_Book_many ct_Book_many), sl_Book_many⟩)
    (c_Book_many : PySem.W.codeIn K cd_Book_many "Book.many" = true)
    (k_Book_many : PySem.W.keepIn K (.ref f_Book_many) = true)
    (a_law_kinds : PySem.W.nsIn K mainGlobals "_law_kinds" = some (some (.ref f_law_kinds)))
    (l_law_kinds : K.lookup f_law_kinds = some ⟨oc_law_kinds, od_law_kinds, .func (PySem.W.fnOf "_law_kinds" "_law_kinds" (defArgs s_law_kinds) (defBody s_law_kinds) (defScope s_law_kinds) .none kV_law_kinds dc_law_kinds pm_law_kinds an_law_kinds cd_law_kinds ct_law_kinds), sl_law_kinds⟩)
    (c_law_kinds : PySem.W.codeIn K cd_law_kinds "_law_kinds" = true)
    (k_law_kinds : PySem.W.keepIn K (.ref f_law_kinds) = true)
    (a_law_asked : PySem.W.nsIn K mainGlobals "_law_asked" = some (some (.ref f_law_asked)))
    (l_law_asked : K.lookup f_law_asked = some ⟨oc_law_asked, od_law_asked, .func (PySem.W.fnOf "_law_asked" "_law_asked" (defArgs s_law_asked) (defBody s_law_asked) (defScope s_law_asked) .none kV_law_asked dc_law_asked pm_law_asked an_law_asked cd_law_asked ct_law_asked), sl_law_asked⟩)
    (c_law_asked : PySem.W.codeIn K cd_law_asked "_law_asked" = true)
    (k_law_asked : PySem.W.keepIn K (.ref f_law_asked) = true)
    (a_law_refused : PySem.W.nsIn K mainGlobals "_law_refused" = some (some (.ref f_law_refused)))
    (l_law_refused : K.lookup f_law_refused = some ⟨oc_law_refused, od_law_refused, .func (PySem.W.fnOf "_law_refused" "_law_refused" (defArgs s_law_refused) (defBody s_law_refused) (defScope s_law_refused) .none kV_law_refused dc_law_refused pm_law_refused an_law_refused cd_law_refused ct_law_refused), sl_law_refused⟩)
    (c_law_refused : PySem.W.codeIn K cd_law_refused "_law_refused" = true)
    (k_law_refused : PySem.W.keepIn K (.ref f_law_refused) = true)
    (a_law_answered : PySem.W.nsIn K mainGlobals "_law_answered" = some (some (.ref f_law_answered)))
    (l_law_answered : K.lookup f_law_answered = some ⟨oc_law_answered, od_law_answered, .func (PySem.W.fnOf "_law_answered" "_law_answered" (defArgs s_law_answered) (defBody s_law_answered) (defScope s_law_answered) .none kV_law_answered dc_law_answered pm_law_answered an_law_answered cd_law_answered ct_law_answered), sl_law_answered⟩)
    (c_law_answered : PySem.W.codeIn K cd_law_answered "_law_answered" = true)
    (k_law_answered : PySem.W.keepIn K (.ref f_law_answered) = true)
    (a_Book_lefts : PySem.W.findIn K (.ref aBook) "lefts" = some (some (.ref f_Book_lefts)))
    (i_Book_lefts : PySem.W.isFn K (.ref f_Book_lefts) = true)
    (l_Book_lefts : K.lookup f_Book_lefts = some ⟨oc_Book_lefts, od_Book_lefts, .func (PySem.W.fnOf "lefts" "Book.lefts" (defArgs s_Book_lefts) (defBody s_Book_lefts) (defScope s_Book_lefts) .none kV_Book_lefts dc_Book_lefts pm_Book_lefts an_Book_lefts cd_Book_lefts ct_Book_lefts), sl_Book_lefts⟩)
    (c_Book_lefts : PySem.W.codeIn K cd_Book_lefts "Book.lefts" = true)
    (k_Book_lefts : PySem.W.keepIn K (.ref f_Book_lefts) = true)
    (a_Book_rights : PySem.W.findIn K (.ref aBook) "rights" = some (some (.ref f_Book_rights)))
    (i_Book_rights : PySem.W.isFn K (.ref f_Book_rights) = true)
    (l_Book_rights : K.lookup f_Book_rights = some ⟨oc_Book_rights, od_Book_rights, .func (PySem.W.fnOf "rights" "Book.rights" (defArgs s_Book_rights) (defBody s_Book_rights) (defScope s_Book_rights) .none kV_Book_rights dc_Book_rights pm_Book_rights an_Book_rights cd_Book_rights ct_Book_rights), sl_Book_rights⟩)
    (c_Book_rights : PySem.W.codeIn K cd_Book_rights "Book.rights" = true)
    (k_Book_rights : PySem.W.keepIn K (.ref f_Book_rights) = true)
    (a_Book_depth : PySem.W.findIn K (.ref aBook) "depth" = some (some (.ref f_Book_depth)))
    (i_Book_depth : PySem.W.isFn K (.ref f_Book_depth) = true)
    (l_Book_depth : K.lookup f_Book_depth = some ⟨oc_Book_depth, od_Book_depth, .func (PySem.W.fnOf "depth" "Book.depth" (defArgs s_Book_depth) (defBody s_Book_depth) (defScope s_Book_depth) .none kV_Book_depth dc_Book_depth pm_Book_depth an_Book_depth cd_Book_depth ct_Book_depth), sl_Book_depth⟩)
    (c_Book_depth : PySem.W.codeIn K cd_Book_depth "Book.depth" = true)
    (k_Book_depth : PySem.W.keepIn K (.ref f_Book_depth) = true)
    (a_law_moves : PySem.W.nsIn K mainGlobals "_law_moves" = some (some (.ref f_law_moves)))
    (l_law_moves : K.lookup f_law_moves = some ⟨oc_law_moves, od_law_moves, .func (PySem.W.fnOf "_law_moves" "_law_moves" (defArgs s_law_moves) (defBody s_law_moves) (defScope s_law_moves) .none kV_law_moves dc_law_moves pm_law_moves an_law_moves cd_law_moves ct_law_moves), sl_law_moves⟩)
    (c_law_moves : PySem.W.codeIn K cd_law_moves "_law_moves" = true)
    (k_law_moves : PySem.W.keepIn K (.ref f_law_moves) = true)
    (a_law_grown : PySem.W.nsIn K mainGlobals "_law_grown" = some (some (.ref f_law_grown)))
    (l_law_grown : K.lookup f_law_grown = some ⟨oc_law_grown, od_law_grown, .func (PySem.W.fnOf "_law_grown" "_law_grown" (defArgs s_law_grown) (defBody s_law_grown) (defScope s_law_grown) .none kV_law_grown dc_law_grown pm_law_grown an_law_grown cd_law_grown ct_law_grown), sl_law_grown⟩)
    (c_law_grown : PySem.W.codeIn K cd_law_grown "_law_grown" = true)
    (k_law_grown : PySem.W.keepIn K (.ref f_law_grown) = true)
    (a_Turns_init : PySem.W.findIn K (.ref aTurns) "__init__" = some (some (.ref f_Turns_init)))
    (i_Turns_init : PySem.W.isFn K (.ref f_Turns_init) = true)
    (l_Turns_init : K.lookup f_Turns_init = some ⟨oc_Turns_init, od_Turns_init, .func (PySem.W.fnOf "__init__" "Turns.__init__" (defArgs s_Turns_init) (defBody s_Turns_init) (defScope s_Turns_init) .none kV_Turns_init dc_Turns_init pm_Turns_init an_Turns_init cd_Turns_init ct_Turns_init), sl_Turns_init⟩)
    (c_Turns_init : PySem.W.codeIn K cd_Turns_init "Turns.__init__" = true)
    (k_Turns_init : PySem.W.keepIn K (.ref f_Turns_init) = true)
    (a_Turns_row : PySem.W.findIn K (.ref aTurns) "row" = some (some (.ref f_Turns_row)))
    (i_Turns_row : PySem.W.isFn K (.ref f_Turns_row) = true)
    (l_Turns_row : K.lookup f_Turns_row = some ⟨oc_Turns_row, od_Turns_row, .func (PySem.W.fnOf "row" "Turns.row" (defArgs s_Turns_row) (defBody s_Turns_row) (defScope s_Turns_row) .none kV_Turns_row dc_Turns_row pm_Turns_row an_Turns_row cd_Turns_row ct_Turns_row), sl_Turns_row⟩)
    (c_Turns_row : PySem.W.codeIn K cd_Turns_row "Turns.row" = true)
    (k_Turns_row : PySem.W.keepIn K (.ref f_Turns_row) = true)
    (a_Turns_wins : PySem.W.findIn K (.ref aTurns) "wins" = some (some (.ref f_Turns_wins)))
    (i_Turns_wins : PySem.W.isFn K (.ref f_Turns_wins) = true)
    (l_Turns_wins : K.lookup f_Turns_wins = some ⟨oc_Turns_wins, od_Turns_wins, .func (PySem.W.fnOf "wins" "Turns.wins" (defArgs s_Turns_wins) (defBody s_Turns_wins) (defScope s_Turns_wins) .none kV_Turns_wins dc_Turns_wins pm_Turns_wins an_Turns_wins cd_Turns_wins ct_Turns_wins), sl_Turns_wins⟩)
    (c_Turns_wins : PySem.W.codeIn K cd_Turns_wins "Turns.wins" = true)
    (k_Turns_wins : PySem.W.keepIn K (.ref f_Turns_wins) = true)
    (a_who_wins : PySem.W.nsIn K mainGlobals "who_wins" = some (some (.ref f_who_wins)))
    (l_who_wins : K.lookup f_who_wins = some ⟨oc_who_wins, od_who_wins, .func (PySem.W.fnOf "who_wins" "who_wins" (defArgs s_who_wins) (defBody s_who_wins) (defScope s_who_wins) .none kV_who_wins dc_who_wins pm_who_wins an_who_wins cd_who_wins ct_who_wins), sl_who_wins⟩)
    (c_who_wins : PySem.W.codeIn K cd_who_wins "who_wins" = true)
    (k_who_wins : PySem.W.keepIn K (.ref f_who_wins) = true)
    (a_winning_moves : PySem.W.nsIn K mainGlobals "winning_moves" = some (some (.ref f_winning_moves)))
    (l_winning_moves : K.lookup f_winning_moves = some ⟨oc_winning_moves, od_winning_moves, .func (PySem.W.fnOf "winning_moves" "winning_moves" (defArgs s_winning_moves) (defBody s_winning_moves) (defScope s_winning_moves) .none kV_winning_moves dc_winning_moves pm_winning_moves an_winning_moves cd_winning_moves ct_winning_moves), sl_winning_moves⟩)
    (c_winning_moves : PySem.W.codeIn K cd_winning_moves "winning_moves" = true)
    (k_winning_moves : PySem.W.keepIn K (.ref f_winning_moves) = true)
    (a_Putting_init : PySem.W.findIn K (.ref aPutting) "__init__" = some (some (.ref f_Putting_init)))
    (i_Putting_init : PySem.W.isFn K (.ref f_Putting_init) = true)
    (l_Putting_init : K.lookup f_Putting_init = some ⟨oc_Putting_init, od_Putting_init, .func (PySem.W.fnOf "__init__" "Putting.__init__" (defArgs s_Putting_init) (defBody s_Putting_init) (defScope s_Putting_init) .none kV_Putting_init dc_Putting_init pm_Putting_init an_Putting_init cd_Putting_init ct_Putting_init), sl_Putting_init⟩)
    (c_Putting_init : PySem.W.codeIn K cd_Putting_init "Putting.__init__" = true)
    (k_Putting_init : PySem.W.keepIn K (.ref f_Putting_init) = true)
    (a_Putting_turn : PySem.W.findIn K (.ref aPutting) "turn" = some (some (.ref f_Putting_turn)))
    (i_Putting_turn : PySem.W.isFn K (.ref f_Putting_turn) = true)
    (l_Putting_turn : K.lookup f_Putting_turn = some ⟨oc_Putting_turn, od_Putting_turn, .func (PySem.W.fnOf "turn" "Putting.turn" (defArgs s_Putting_turn) (defBody s_Putting_turn) (defScope s_Putting_turn) .none kV_Putting_turn dc_Putting_turn pm_Putting_turn an_Putting_turn cd_Putting_turn ct_Putting_turn), sl_Putting_turn⟩)
    (c_Putting_turn : PySem.W.codeIn K cd_Putting_turn "Putting.turn" = true)
    (k_Putting_turn : PySem.W.keepIn K (.ref f_Putting_turn) = true)
    (a_turned : PySem.W.nsIn K mainGlobals "turned" = some (some (.ref f_turned)))
    (l_turned : K.lookup f_turned = some ⟨oc_turned, od_turned, .func (PySem.W.fnOf "turned" "turned" (defArgs s_turned) (defBody s_turned) (defScope s_turned) .none kV_turned dc_turned pm_turned an_turned cd_turned ct_turned), sl_turned⟩)
    (c_turned : PySem.W.codeIn K cd_turned "turned" = true)
    (k_turned : PySem.W.keepIn K (.ref f_turned) = true)
    (a_Putting_put : PySem.W.findIn K (.ref aPutting) "put" = some (some (.ref f_Putting_put)))
    (i_Putting_put : PySem.W.isFn K (.ref f_Putting_put) = true)
    (l_Putting_put : K.lookup f_Putting_put = some ⟨oc_Putting_put, od_Putting_put, .func (PySem.W.fnOf "put" "Putting.put" (defArgs s_Putting_put) (defBody s_Putting_put) (defScope s_Putting_put) .none kV_Putting_put dc_Putting_put pm_Putting_put an_Putting_put cd_Putting_put ct_Putting_put), sl_Putting_put⟩)
    (c_Putting_put : PySem.W.codeIn K cd_Putting_put "Putting.put" = true)
    (k_Putting_put : PySem.W.keepIn K (.ref f_Putting_put) = true)
    (a_put_together : PySem.W.nsIn K mainGlobals "put_together" = some (some (.ref f_put_together)))
    (l_put_together : K.lookup f_put_together = some ⟨oc_put_together, od_put_together, .func (PySem.W.fnOf "put_together" "put_together" (defArgs s_put_together) (defBody s_put_together) (defScope s_put_together) .none kV_put_together dc_put_together pm_put_together an_put_together cd_put_together ct_put_together), sl_put_together⟩)
    (c_put_together : PySem.W.codeIn K cd_put_together "put_together" = true)
    (k_put_together : PySem.W.keepIn K (.ref f_put_together) = true)
    (a_difference : PySem.W.nsIn K mainGlobals "difference" = some (some (.ref f_difference)))
    (l_difference : K.lookup f_difference = some ⟨oc_difference, od_difference, .func (PySem.W.fnOf "difference" "difference" (defArgs s_difference) (defBody s_difference) (defScope s_difference) .none kV_difference dc_difference pm_difference an_difference cd_difference ct_difference), sl_difference⟩)
    (c_difference : PySem.W.codeIn K cd_difference "difference" = true)
    (k_difference : PySem.W.keepIn K (.ref f_difference) = true)
    (a_all_together : PySem.W.nsIn K mainGlobals "all_together" = some (some (.ref f_all_together)))
    (l_all_together : K.lookup f_all_together = some ⟨oc_all_together, od_all_together, .func (PySem.W.fnOf "all_together" "all_together" (defArgs s_all_together) (defBody s_all_together) (defScope s_all_together) .none kV_all_together dc_all_together pm_all_together an_all_together cd_all_together ct_all_together), sl_all_together⟩)
    (c_all_together : PySem.W.codeIn K cd_all_together "all_together" = true)
    (k_all_together : PySem.W.keepIn K (.ref f_all_together) = true)
    (a_law : PySem.W.nsIn K mainGlobals "law" = some (some (.ref f_law)))
    (l_law : K.lookup f_law = some ⟨oc_law, od_law, .func (PySem.W.fnOf "law" "law" (defArgs s_law) (defBody s_law) (defScope s_law) .none kV_law dc_law pm_law an_law cd_law ct_law), sl_law⟩)
    (c_law : PySem.W.codeIn K cd_law "law" = true)
    (k_law : PySem.W.keepIn K (.ref f_law) = true)
    : ∃ fd : FuncData, (∀ (s : Shared) (v : Value), BindsTo s fd ⟨[v], []⟩ [("script", v)]) ∧ ∀ base : Heap, K.In base → base.Ns mainGlobals mg → FnOk l.prog w K mg base CX0 80 fa fd ["script"] (sp_law_law K) := by
  have e := hfa.symm.trans (PySem.W.mg_of X G a_law)
  cases e
  let c : Cn := { P := l.prog, w := w, K := K, cTurns := aTurns, cPutting := aPutting, cGameError := aGameError, cNoGame := aNoGame, cNoRoad := aNoRoad, cNoBoard := aNoBoard, cNoNumber := aNoNumber, cNoText := aNoText, cNoName := aNoName, cNoRow := aNoRow, cBook := aBook, k_SIDES := k_SIDES }
  have T : Txt c mg := { n_ValueError := PySem.W.mg_none_of X G n_ValueError, n_bool := PySem.W.mg_none_of X G n_bool, n_int := PySem.W.mg_none_of X G n_int, n_isinstance := PySem.W.mg_none_of X G n_isinstance, n_len := PySem.W.mg_none_of X G n_len, n_list := PySem.W.mg_none_of X G n_list, n_max := PySem.W.mg_none_of X G n_max, n_min := PySem.W.mg_none_of X G n_min, n_range := PySem.W.mg_none_of X G n_range, n_set := PySem.W.mg_none_of X G n_set, n_sorted := PySem.W.mg_none_of X G n_sorted, n_tuple := PySem.W.mg_none_of X G n_tuple, g_Turns := PySem.W.mg_of X G a_Turns, g_Putting := PySem.W.mg_of X G a_Putting, g_GameError := PySem.W.mg_of X G a_GameError, g_NoGame := PySem.W.mg_of X G a_NoGame, g_NoRoad := PySem.W.mg_of X G a_NoRoad, g_NoBoard := PySem.W.mg_of X G a_NoBoard, g_NoNumber := PySem.W.mg_of X G a_NoNumber, g_NoText := PySem.W.mg_of X G a_NoText, g_NoName := PySem.W.mg_of X G a_NoName, g_NoRow := PySem.W.mg_of X G a_NoRow, g_Book := PySem.W.mg_of X G a_Book, t_SIDES := ⟨PySem.W.mg_of X G a_SIDES, fun _ => .inr ⟨_, _, _, l_SIDES, rfl, rfl, by rw [sizeLine_eq]; exact Nat.le_of_ble_eq_true rfl, (.cons ⟨_, rfl⟩ (.cons ⟨_, rfl⟩ .nil))⟩, _, l_SIDES, rfl, rfl⟩, x_GameError := ⟨PySem.W.mg_of X G a_GameError, xx_GameError, xk_GameError, xb_GameError, xt_GameError⟩, m_GameError := PySem.W.exm_ref xb_GameError xd_GameError xt_GameError xs_GameError, x_NoBoard := ⟨PySem.W.mg_of X G a_NoBoard, xx_NoBoard, xk_NoBoard, xb_NoBoard, xt_NoBoard⟩, m_NoBoard := PySem.W.exm_ref xb_GameError xd_GameError xt_GameError xs_NoBoard, x_NoGame := ⟨PySem.W.mg_of X G a_NoGame, xx_NoGame, xk_NoGame, xb_NoGame, xt_NoGame⟩, m_NoGame := PySem.W.exm_ref xb_GameError xd_GameError xt_GameError xs_NoGame, x_NoName := ⟨PySem.W.mg_of X G a_NoName, xx_NoName, xk_NoName, xb_NoName, xt_NoName⟩, m_NoName := PySem.W.exm_ref xb_GameError xd_GameError xt_GameError xs_NoName, x_NoNumber := ⟨PySem.W.mg_of X G a_NoNumber, xx_NoNumber, xk_NoNumber, xb_NoNumber, xt_NoNumber⟩, m_NoNumber := PySem.W.exm_ref xb_GameError xd_GameError xt_GameError xs_NoNumber, x_NoRoad := ⟨PySem.W.mg_of X G a_NoRoad, xx_NoRoad, xk_NoRoad, xb_NoRoad, xt_NoRoad⟩, m_NoRoad := PySem.W.exm_ref xb_GameError xd_GameError xt_GameError xs_NoRoad, x_NoRow := ⟨PySem.W.mg_of X G a_NoRow, xx_NoRow, xk_NoRow, xb_NoRow, xt_NoRow⟩, m_NoRow := PySem.W.exm_ref xb_GameError xd_GameError xt_GameError xs_NoRow, x_NoText := ⟨PySem.W.mg_of X G a_NoText, xx_NoText, xk_NoText, xb_NoText, xt_NoText⟩, m_NoText := PySem.W.exm_ref xb_GameError xd_GameError xt_GameError xs_NoText, e_GameError := ⟨ya_GameError, yg_GameError, xb_GameError, xd_GameError, yc_GameError, x_get, x_tak, ym_GameError⟩, iv_GameError := yv_GameError, i_GameError_GameError := yi_GameError_GameError, i_GameError_NoBoard := yi_GameError_NoBoard, i_GameError_NoGame := yi_GameError_NoGame, i_GameError_NoName := yi_GameError_NoName, i_GameError_NoNumber := yi_GameError_NoNumber, i_GameError_NoRoad := yi_GameError_NoRoad, i_GameError_NoRow := yi_GameError_NoRow, i_GameError_NoText := yi_GameError_NoText, e_NoBoard := ⟨ya_NoBoard, yg_NoBoard, xb_NoBoard, xd_NoBoard, yc_NoBoard, x_get, x_tak, ym_NoBoard⟩, iv_NoBoard := yv_NoBoard, i_NoBoard_GameError := yi_NoBoard_GameError, i_NoBoard_NoBoard := yi_NoBoard_NoBoard, i_NoBoard_NoGame := yi_NoBoard_NoGame, i_NoBoard_NoName := yi_NoBoard_NoName, i_NoBoard_NoNumber := yi_NoBoard_NoNumber, i_NoBoard_NoRoad := yi_NoBoard_NoRoad, i_NoBoard_NoRow := yi_NoBoard_NoRow, i_NoBoard_NoText := yi_NoBoard_NoText, e_NoGame := ⟨ya_NoGame, yg_NoGame, xb_NoGame, xd_NoGame, yc_NoGame, x_get, x_tak, ym_NoGame⟩, iv_NoGame := yv_NoGame, i_NoGame_GameError := yi_NoGame_GameError, i_NoGame_NoBoard := yi_NoGame_NoBoard, i_NoGame_NoGame := yi_NoGame_NoGame, i_NoGame_NoName := yi_NoGame_NoName, i_NoGame_NoNumber := yi_NoGame_NoNumber, i_NoGame_NoRoad := yi_NoGame_NoRoad, i_NoGame_NoRow := yi_NoGame_NoRow, i_NoGame_NoText := yi_NoGame_NoText, e_NoName := ⟨ya_NoName, yg_NoName, xb_NoName, xd_NoName, yc_NoName, x_get, x_tak, ym_NoName⟩, iv_NoName := yv_NoName, i_NoName_GameError := yi_NoName_GameError, i_NoName_NoBoard := yi_NoName_NoBoard, i_NoName_NoGame := yi_NoName_NoGame, i_NoName_NoName := yi_NoName_NoName, i_NoName_NoNumber := yi_NoName_NoNumber, i_NoName_NoRoad := yi_NoName_NoRoad, i_NoName_NoRow := yi_NoName_NoRow, i_NoName_NoText := yi_NoName_NoText, e_NoNumber := ⟨ya_NoNumber, yg_NoNumber, xb_NoNumber, xd_NoNumber, yc_NoNumber, x_get, x_tak, ym_NoNumber⟩, iv_NoNumber := yv_NoNumber, i_NoNumber_GameError := yi_NoNumber_GameError, i_NoNumber_NoBoard := yi_NoNumber_NoBoard, i_NoNumber_NoGame := yi_NoNumber_NoGame, i_NoNumber_NoName := yi_NoNumber_NoName, i_NoNumber_NoNumber := yi_NoNumber_NoNumber, i_NoNumber_NoRoad := yi_NoNumber_NoRoad, i_NoNumber_NoRow := yi_NoNumber_NoRow, i_NoNumber_NoText := yi_NoNumber_NoText, e_NoRoad := ⟨ya_NoRoad, yg_NoRoad, xb_NoRoad, xd_NoRoad, yc_NoRoad, x_get, x_tak, ym_NoRoad⟩, iv_NoRoad := yv_NoRoad, i_NoRoad_GameError := yi_NoRoad_GameError, i_NoRoad_NoBoard := yi_NoRoad_NoBoard, i_NoRoad_NoGame := yi_NoRoad_NoGame, i_NoRoad_NoName := yi_NoRoad_NoName, i_NoRoad_NoNumber := yi_NoRoad_NoNumber, i_NoRoad_NoRoad := yi_NoRoad_NoRoad, i_NoRoad_NoRow := yi_NoRoad_NoRow, i_NoRoad_NoText := yi_NoRoad_NoText, e_NoRow := ⟨ya_NoRow, yg_NoRow, xb_NoRow, xd_NoRow, yc_NoRow, x_get, x_tak, ym_NoRow⟩, iv_NoRow := yv_NoRow, i_NoRow_GameError := yi_NoRow_GameError, i_NoRow_NoBoard := yi_NoRow_NoBoard, i_NoRow_NoGame := yi_NoRow_NoGame, i_NoRow_NoName := yi_NoRow_NoName, i_NoRow_NoNumber := yi_NoRow_NoNumber, i_NoRow_NoRoad := yi_NoRow_NoRoad, i_NoRow_NoRow := yi_NoRow_NoRow, i_NoRow_NoText := yi_NoRow_NoText, e_NoText := ⟨ya_NoText, yg_NoText, xb_NoText, xd_NoText, yc_NoText, x_get, x_tak, ym_NoText⟩, iv_NoText := yv_NoText, i_NoText_GameError := yi_NoText_GameError, i_NoText_NoBoard := yi_NoText_NoBoard, i_NoText_NoGame := yi_NoText_NoGame, i_NoText_NoName := yi_NoText_NoName, i_NoText_NoNumber := yi_NoText_NoNumber, i_NoText_NoRoad := yi_NoText_NoRoad, i_NoText_NoRow := yi_NoText_NoRow, i_NoText_NoText := yi_NoText_NoText, cl_Turns := ⟨pg_Turns, hd_Turns, po_Turns, sa_Turns⟩, na_Turns_book := na_Turns_book, na_Turns_known := na_Turns_known, cl_Putting := ⟨pg_Putting, hd_Putting, po_Putting, sa_Putting⟩, na_Putting_book := na_Putting_book, na_Putting_sums := na_Putting_sums, na_Putting_turned := na_Putting_turned, cl_Book := ⟨pg_Book, hd_Book, po_Book, sa_Book⟩, na_Book_depths := na_Book_depths, na_Book_moves := na_Book_moves, na_Book_numbers := na_Book_numbers, F_law_draw := ⟨_, _, fun_mk (st := s_law_draw) l_law_draw c_law_draw k_law_draw, PySem.W.mg_of X G a_law_draw, ((fun_mk (st := s_law_draw) l_law_draw c_law_draw k_law_draw).binds (ps := ["deck", "many"]) fun _ _ _ _ _ _ us hl => match us, hl with | [_, _], _ => rfl)⟩, F_law_deck := ⟨_, _, fun_mk (st := s_law_deck) l_law_deck c_law_deck k_law_deck, PySem.W.mg_of X G a_law_deck, ((fun_mk (st := s_law_deck) l_law_deck c_law_deck k_law_deck).binds (ps := ["script"]) fun _ _ _ _ _ _ us hl => match us, hl with | [_], _ => rfl)⟩, F_Book_need := ⟨_, _, fun_mk (st := s_Book_need) l_Book_need c_Book_need k_Book_need, ⟨a_Book_need, i_Book_need, k_Book_need⟩, ((fun_mk (st := s_Book_need) l_Book_need c_Book_need k_Book_need).binds (ps := ["self", "g"]) fun _ _ _ _ _ _ us hl => match us, hl with | [_, _], _ => rfl)⟩, F_Book_game := ⟨_, _, fun_mk (st := s_Book_game) l_Book_game c_Book_game k_Book_game, ⟨a_Book_game, i_Book_game, k_Book_game⟩, ((fun_mk (st := s_Book_game) l_Book_game c_Book_game k_Book_game).binds (ps := ["self", "lefts", "rights"]) fun _ _ _ _ _ _ us hl => match us, hl with | [_, _, _], _ => rfl)⟩, F_Book_init := ⟨_, _, fun_mk (st := s_Book_init) l_Book_init c_Book_init k_Book_init, ⟨mk_Book, a_Book_init, i_Book_init, kc_Book⟩, ((fun_mk (st := s_Book_init) l_Book_init c_Book_init k_Book_init).binds (ps := ["self"]) fun _ _ _ _ _ _ us hl => match us, hl with | [_], _ => rfl)⟩, F_Book_many := ⟨_, _, fun_mk (st := s_Book_many) l_Book_many c_Book_many k_Book_many, ⟨a_Book_many, i_Book_many, k_Book_many⟩, ((fun_mk (st := s_Book_many) l_Book_many c_Book_many k_Book_many).binds (ps := ["self"]) fun _ _ _ _ _ _ us hl => match us, hl with | [_], _ => rfl)⟩, F_law_kinds := ⟨_, _, fun_mk (st := s_law_kinds) l_law_kinds c_law_kinds k_law_kinds, PySem.W.mg_of X G a_law_kinds, ((fun_mk (st := s_law_kinds) l_law_kinds c_law_kinds k_law_kinds).binds (ps := ["caught", "due"]) fun _ _ _ _ _ _ us hl => match us, hl with | [_, _], _ => rfl)⟩, F_law_asked := ⟨_, _, fun_mk (st := s_law_asked) l_law_asked c_law_asked k_law_asked, PySem.W.mg_of X G a_law_asked, ((fun_mk (st := s_law_asked) l_law_asked c_law_asked k_law_asked).binds (ps := ["book", "way", "thing", "good", "at"]) fun _ _ _ _ _ _ us hl => match us, hl with | [_, _, _, _, _], _ => rfl)⟩, F_law_refused := ⟨_, _, fun_mk (st := s_law_refused) l_law_refused c_law_refused k_law_refused, PySem.W.mg_of X G a_law_refused, ((fun_mk (st := s_law_refused) l_law_refused c_law_refused k_law_refused).binds (ps := ["book", "way", "thing", "good", "at"]) fun _ _ _ _ _ _ us hl => match us, hl with | [_, _, _, _, _], _ => rfl)⟩, F_law_answered := ⟨_, _, fun_mk (st := s_law_answered) l_law_answered c_law_answered k_law_answered, PySem.W.mg_of X G a_law_answered, ((fun_mk (st := s_law_answered) l_law_answered c_law_answered k_law_answered).binds (ps := ["book", "number"]) fun _ _ _ _ _ _ us hl => match us, hl with | [_, _], _ => rfl)⟩, F_Book_lefts := ⟨_, _, fun_mk (st := s_Book_lefts) l_Book_lefts c_Book_lefts k_Book_lefts, ⟨a_Book_lefts, i_Book_lefts, k_Book_lefts⟩, ((fun_mk (st := s_Book_lefts) l_Book_lefts c_Book_lefts k_Book_lefts).binds (ps := ["self", "g"]) fun _ _ _ _ _ _ us hl => match us, hl with | [_, _], _ => rfl)⟩, F_Book_rights := ⟨_, _, fun_mk (st := s_Book_rights) l_Book_rights c_Book_rights k_Book_rights, ⟨a_Book_rights, i_Book_rights, k_Book_rights⟩, ((fun_mk (st := s_Book_rights) l_Book_rights c_Book_rights k_Book_rights).binds (ps := ["self", "g"]) fun _ _ _ _ _ _ us hl => match us, hl with | [_, _], _ => rfl)⟩, F_Book_depth := ⟨_, _, fun_mk (st := s_Book_depth) l_Book_depth c_Book_depth k_Book_depth, ⟨a_Book_depth, i_Book_depth, k_Book_depth⟩, ((fun_mk (st := s_Book_depth) l_Book_depth c_Book_depth k_Book_depth).binds (ps := ["self", "g"]) fun _ _ _ _ _ _ us hl => match us, hl with | [_, _], _ => rfl)⟩, F_law_moves := ⟨_, _, fun_mk (st := s_law_moves) l_law_moves c_law_moves k_law_moves, PySem.W.mg_of X G a_law_moves, ((fun_mk (st := s_law_moves) l_law_moves c_law_moves k_law_moves).binds (ps := ["deck", "many"]) fun _ _ _ _ _ _ us hl => match us, hl with | [_, _], _ => rfl)⟩, F_law_grown := ⟨_, _, fun_mk (st := s_law_grown) l_law_grown c_law_grown k_law_grown, PySem.W.mg_of X G a_law_grown, ((fun_mk (st := s_law_grown) l_law_grown c_law_grown k_law_grown).binds (ps := ["deck", "book", "many"]) fun _ _ _ _ _ _ us hl => match us, hl with | [_, _, _], _ => rfl)⟩, F_Turns_init := ⟨_, _, fun_mk (st := s_Turns_init) l_Turns_init c_Turns_init k_Turns_init, ⟨mk_Turns, a_Turns_init, i_Turns_init, kc_Turns⟩, ((fun_mk (st := s_Turns_init) l_Turns_init c_Turns_init k_Turns_init).binds (ps := ["self", "book"]) fun _ _ _ _ _ _ us hl => match us, hl with | [_, _], _ => rfl)⟩, F_Turns_row := ⟨_, _, fun_mk (st := s_Turns_row) l_Turns_row c_Turns_row k_Turns_row, ⟨a_Turns_row, i_Turns_row, k_Turns_row⟩, ((fun_mk (st := s_Turns_row) l_Turns_row c_Turns_row k_Turns_row).binds (ps := ["self", "g", "side"]) fun _ _ _ _ _ _ us hl => match us, hl with | [_, _, _], _ => rfl)⟩, F_Turns_wins := ⟨_, _, fun_mk (st := s_Turns_wins) l_Turns_wins c_Turns_wins k_Turns_wins, ⟨a_Turns_wins, i_Turns_wins, k_Turns_wins⟩, ((fun_mk (st := s_Turns_wins) l_Turns_wins c_Turns_wins k_Turns_wins).binds (ps := ["self", "g", "side"]) fun _ _ _ _ _ _ us hl => match us, hl with | [_, _, _], _ => rfl)⟩, F_who_wins := ⟨_, _, fun_mk (st := s_who_wins) l_who_wins c_who_wins k_who_wins, PySem.W.mg_of X G a_who_wins, ((fun_mk (st := s_who_wins) l_who_wins c_who_wins k_who_wins).binds (ps := ["book", "g"]) fun _ _ _ _ _ _ us hl => match us, hl with | [_, _], _ => rfl)⟩, F_winning_moves := ⟨_, _, fun_mk (st := s_winning_moves) l_winning_moves c_winning_moves k_winning_moves, PySem.W.mg_of X G a_winning_moves, ((fun_mk (st := s_winning_moves) l_winning_moves c_winning_moves k_winning_moves).binds (ps := ["book", "g", "side"]) fun _ _ _ _ _ _ us hl => match us, hl with | [_, _, _], _ => rfl)⟩, F_Putting_init := ⟨_, _, fun_mk (st := s_Putting_init) l_Putting_init c_Putting_init k_Putting_init, ⟨mk_Putting, a_Putting_init, i_Putting_init, kc_Putting⟩, ((fun_mk (st := s_Putting_init) l_Putting_init c_Putting_init k_Putting_init).binds (ps := ["self", "book"]) fun _ _ _ _ _ _ us hl => match us, hl with | [_, _], _ => rfl)⟩, F_Putting_turn := ⟨_, _, fun_mk (st := s_Putting_turn) l_Putting_turn c_Putting_turn k_Putting_turn, ⟨a_Putting_turn, i_Putting_turn, k_Putting_turn⟩, ((fun_mk (st := s_Putting_turn) l_Putting_turn c_Putting_turn k_Putting_turn).binds (ps := ["self", "g"]) fun _ _ _ _ _ _ us hl => match us, hl with | [_, _], _ => rfl)⟩, F_turned := ⟨_, _, fun_mk (st := s_turned) l_turned c_turned k_turned, PySem.W.mg_of X G a_turned, ((fun_mk (st := s_turned) l_turned c_turned k_turned).binds (ps := ["book", "g"]) fun _ _ _ _ _ _ us hl => match us, hl with | [_, _], _ => rfl)⟩, F_Putting_put := ⟨_, _, fun_mk (st := s_Putting_put) l_Putting_put c_Putting_put k_Putting_put, ⟨a_Putting_put, i_Putting_put, k_Putting_put⟩, ((fun_mk (st := s_Putting_put) l_Putting_put c_Putting_put k_Putting_put).binds (ps := ["self", "g", "h"]) fun _ _ _ _ _ _ us hl => match us, hl with | [_, _, _], _ => rfl)⟩, F_put_together := ⟨_, _, fun_mk (st := s_put_together) l_put_together c_put_together k_put_together, PySem.W.mg_of X G a_put_together, ((fun_mk (st := s_put_together) l_put_together c_put_together k_put_together).binds (ps := ["book", "g", "h"]) fun _ _ _ _ _ _ us hl => match us, hl with | [_, _, _], _ => rfl)⟩, F_difference := ⟨_, _, fun_mk (st := s_difference) l_difference c_difference k_difference, PySem.W.mg_of X G a_difference, ((fun_mk (st := s_difference) l_difference c_difference k_difference).binds (ps := ["book", "g", "h"]) fun _ _ _ _ _ _ us hl => match us, hl with | [_, _, _], _ => rfl)⟩, F_all_together := ⟨_, _, fun_mk (st := s_all_together) l_all_together c_all_together k_all_together, PySem.W.mg_of X G a_all_together, ((fun_mk (st := s_all_together) l_all_together c_all_together k_all_together).binds (ps := ["book", "games"]) fun _ _ _ _ _ _ us hl => match us, hl with | [_, _], _ => rfl)⟩ }
  exact ⟨_, fun s v => .of_eq rfl, fun base _ _ => ok_law T (fun_mk (st := s_law) l_law c_law k_law)⟩
theorem walk {l : PySem.W.OpenLaw} {q : Program} {loose : List Str} {XP : (Str → Option Value) → Heap → Prop} {YP : World → Heap → Prop} {d : DefRec} {K : Params → PySem.W.Frag} (hn : l.most = some 63) (hdf : d.params.defaults = [])
    (hY : ∀ (w : World) (h : Heap), YP w h → (K w.params).In h)
    (F : ∀ (w : World) (mg : Str → Option Value) (fa : Addr) (h : Heap), (K w.params).In h → h.Ns mainGlobals mg → mg d.name = some (.ref fa) →
      ∃ fd : FuncData, (∀ (s : Shared) (u : Value), BindsTo s fd ⟨[u], []⟩ [("script", u)]) ∧ ∀ base : Heap, (K w.params).In base → base.Ns mainGlobals mg → FnOk l.prog w (K w.params) mg base CX0 80 fa fd ["script"] (sp_law_law (K w.params))) :
    PySem.W.WalkO q loose XP YP l.row.toRowW d [] (fun f vs => PySem.call f vs) :=
  L2.walk_of (n := 63) (k := 80) (x := "script") (CX := fun _ => CX0) (sp := fun w => sp_law_law (K w.params)) hn (by decide) hdf ⟨rfl, by decide, by decide⟩ hY F (fun _ H a ns hl _ hS => ⟨rfl, a, ns, rfl, hS, hl, fun _ => rfl⟩) fun _ _ _ _ _ z => z
end Hm

open PySem PySem.W PyProof.Rows in
set_option maxRecDepth 100000 in
set_option maxHeartbeats 0 in
theorem PySem.Challenge.cw_hotmoves_k10_no_games_played_holds : PySem.Challenge.rw_hotmoves_k10_no_games_played.Holds := by
  w_on; o_law; k_head; (case hw => w_witness2)
  k_fill
  refine Hm.walk (l := PySem.Challenge.rw_hotmoves_k10_no_games_played) rfl rfl (fun w h Y => PySem.W.kIn_of Y) ?F
  case F =>
    intro w mg fa h KX G hmg
    refine' Hm.all_mk KX G hmg ?a_Turns ?a_Putting ?a_GameError ?a_NoGame ?a_NoRoad ?a_NoBoard ?a_NoNumber ?a_NoText ?a_NoName ?a_NoRow ?a_Book ?pg_Turns ?hd_Turns ?po_Turns ?sa_Turns ?mk_Turns ?kc_Turns ?na_Turns_book ?na_Turns_known ?pg_Putting ?hd_Putting ?po_Putting ?sa_Putting ?mk_Putting ?kc_Putting ?na_Putting_book ?na_Putting_sums ?na_Putting_turned ?pg_Book ?hd_Book ?po_Book ?sa_Book ?mk_Book ?kc_Book ?na_Book_depths ?na_Book_moves ?na_Book_numbers ?xk_GameError ?xx_GameError ?xb_GameError ?xt_GameError ?xd_GameError ?xs_GameError ?xk_NoBoard ?xx_NoBoard ?xb_NoBoard ?xt_NoBoard ?xd_NoBoard ?xs_NoBoard ?xk_NoGame ?xx_NoGame ?xb_NoGame ?xt_NoGame ?xd_NoGame ?xs_NoGame ?xk_NoName ?xx_NoName ?xb_NoName ?xt_NoName ?xd_NoName ?xs_NoName ?xk_NoNumber ?xx_NoNumber ?xb_NoNumber ?xt_NoNumber ?xd_NoNumber ?xs_NoNumber ?xk_NoRoad ?xx_NoRoad ?xb_NoRoad ?xt_NoRoad ?xd_NoRoad ?xs_NoRoad ?xk_NoRow ?xx_NoRow ?xb_NoRow ?xt_NoRow ?xd_NoRow ?xs_NoRow ?xk_NoText ?xx_NoText ?xb_NoText ?xt_NoText ?xd_NoText ?xs_NoText ?x_get ?x_tak ?ya_GameError ?yg_GameError ?yc_GameError ?ym_GameError ?yv_GameError ?yi_GameError_GameError ?yi_GameError_NoBoard ?yi_GameError_NoGame ?yi_GameError_NoName ?yi_GameError_NoNumber ?yi_GameError_NoRoad ?yi_GameError_NoRow ?yi_GameError_NoText ?ya_NoBoard ?yg_NoBoard ?yc_NoBoard ?ym_NoBoard ?yv_NoBoard ?yi_NoBoard_GameError ?yi_NoBoard_NoBoard ?yi_NoBoard_NoGame ?yi_NoBoard_NoName ?yi_NoBoard_NoNumber ?yi_NoBoard_NoRoad ?yi_NoBoard_NoRow ?yi_NoBoard_NoText ?ya_NoGame ?yg_NoGame ?yc_NoGame ?ym_NoGame ?yv_NoGame ?yi_NoGame_GameError ?yi_NoGame_NoBoard ?yi_NoGame_NoGame ?yi_NoGame_NoName ?yi_NoGame_NoNumber ?yi_NoGame_NoRoad ?yi_NoGame_NoRow ?yi_NoGame_NoText ?ya_NoName ?yg_NoName ?yc_NoName ?ym_NoName ?yv_NoName ?yi_NoName_GameError ?yi_NoName_NoBoard ?yi_NoName_NoGame ?yi_NoName_NoName ?yi_NoName_NoNumber ?yi_NoName_NoRoad ?yi_NoName_NoRow ?yi_NoName_NoText ?ya_NoNumber ?yg_NoNumber ?yc_NoNumber ?ym_NoNumber ?yv_NoNumber ?yi_NoNumber_GameError ?yi_NoNumber_NoBoard ?yi_NoNumber_NoGame ?yi_NoNumber_NoName ?yi_NoNumber_NoNumber ?yi_NoNumber_NoRoad ?yi_NoNumber_NoRow ?yi_NoNumber_NoText ?ya_NoRoad ?yg_NoRoad ?yc_NoRoad ?ym_NoRoad ?yv_NoRoad ?yi_NoRoad_GameError ?yi_NoRoad_NoBoard ?yi_NoRoad_NoGame ?yi_NoRoad_NoName ?yi_NoRoad_NoNumber ?yi_NoRoad_NoRoad ?yi_NoRoad_NoRow ?yi_NoRoad_NoText ?ya_NoRow ?yg_NoRow ?yc_NoRow ?ym_NoRow ?yv_NoRow ?yi_NoRow_GameError ?yi_NoRow_NoBoard ?yi_NoRow_NoGame ?yi_NoRow_NoName ?yi_NoRow_NoNumber ?yi_NoRow_NoRoad ?yi_NoRow_NoRow ?yi_NoRow_NoText ?ya_NoText ?yg_NoText ?yc_NoText ?ym_NoText ?yv_NoText ?yi_NoText_GameError ?yi_NoText_NoBoard ?yi_NoText_NoGame ?yi_NoText_NoName ?yi_NoText_NoNumber ?yi_NoText_NoRoad ?yi_NoText_NoRow ?yi_NoText_NoText ?n_ValueError ?n_bool ?n_int ?n_isinstance ?n_len ?n_list ?n_max ?n_min ?n_range ?n_set ?n_sorted ?n_tuple ?a_SIDES ?l_SIDES ?a_law_draw ?l_law_draw ?c_law_draw ?k_law_draw ?a_law_deck ?l_law_deck ?c_law_deck ?k_law_deck ?a_Book_need ?i_Book_need ?l_Book_need ?c_Book_need ?k_Book_need ?a_Book_game ?i_Book_game ?l_Book_game ?c_Book_game ?k_Book_game ?a_Book_init ?i_Book_init ?l_Book_init ?c_Book_init ?k_Book_init ?a_Book_many ?i_Book_many ?l_Book_many ?c_Book_many ?k_Book_many ?a_law_kinds ?l_law_kinds ?c_law_kinds ?k_law_kinds ?a_law_asked ?l_law_asked ?c_law_asked ?k_law_asked ?a_law_refused ?l_law_refused ?c_law_refused ?k_law_refused ?a_law_answered ?l_law_answered ?c_law_answered ?k_law_answered ?a_Book_lefts ?i_Book_lefts ?l_Book_lefts ?c_Book_lefts ?k_Book_lefts ?a_Book_rights ?i_Book_rights ?l_Book_rights ?c_Book_rights ?k_Book_rights ?a_Book_depth ?i_Book_depth ?l_Book_depth ?c_Book_depth ?k_Book_depth ?a_law_moves ?l_law_moves ?c_law_moves ?k_law_moves ?a_law_grown ?l_law_grown ?c_law_grown ?k_law_grown ?a_Turns_init ?i_Turns_init ?l_Turns_init ?c_Turns_init ?k_Turns_init ?a_Turns_row ?i_Turns_row ?l_Turns_row ?c_Turns_row ?k_Turns_row ?a_Turns_wins ?i_Turns_wins ?l_Turns_wins ?c_Turns_wins ?k_Turns_wins ?a_who_wins ?l_who_wins ?c_who_wins ?k_who_wins ?a_winning_moves ?l_winning_moves ?c_winning_moves ?k_winning_moves ?a_Putting_init ?i_Putting_init ?l_Putting_init ?c_Putting_init ?k_Putting_init ?a_Putting_turn ?i_Putting_turn ?l_Putting_turn ?c_Putting_turn ?k_Putting_turn ?a_turned ?l_turned ?c_turned ?k_turned ?a_Putting_put ?i_Putting_put ?l_Putting_put ?c_Putting_put ?k_Putting_put ?a_put_together ?l_put_together ?c_put_together ?k_put_together ?a_difference ?l_difference ?c_difference ?k_difference ?a_all_together ?l_all_together ?c_all_together ?k_all_together ?a_law ?l_law ?c_law ?k_law
    (case a_Turns => k_is)
    (case a_Putting => k_is)
    (case a_GameError => k_is)
    (case a_NoGame => k_is)
    (case a_NoRoad => k_is)
    (case a_NoBoard => k_is)
    (case a_NoNumber => k_is)
    (case a_NoText => k_is)
    (case a_NoName => k_is)
    (case a_NoRow => k_is)
    (case a_Book => k_is)
    (case pg_Turns => k_is)
    (case hd_Turns => k_is)
    (case po_Turns => k_is)
    (case sa_Turns => k_is)
    (case mk_Turns => k_is)
    (case kc_Turns => k_is)
    (case na_Turns_book => k_is)
    (case na_Turns_known => k_is)
    (case pg_Putting => k_is)
    (case hd_Putting => k_is)
    (case po_Putting => k_is)
    (case sa_Putting => k_is)
    (case mk_Putting => k_is)
    (case kc_Putting => k_is)
    (case na_Putting_book => k_is)
    (case na_Putting_sums => k_is)
    (case na_Putting_turned => k_is)
    (case pg_Book => k_is)
    (case hd_Book => k_is)
    (case po_Book => k_is)
    (case sa_Book => k_is)
    (case mk_Book => k_is)
    (case kc_Book => k_is)
    (case na_Book_depths => k_is)
    (case na_Book_moves => k_is)
    (case na_Book_numbers => k_is)
    (case xk_GameError => k_is)
    (case xx_GameError => k_exc)
    (case xb_GameError => k_is)
    (case xt_GameError => k_is)
    (case xd_GameError => k_is)
    (case xs_GameError => first | rfl | k_is)
    (case xk_NoBoard => k_is)
    (case xx_NoBoard => k_exc)
    (case xb_NoBoard => k_is)
    (case xt_NoBoard => k_is)
    (case xd_NoBoard => k_is)
    (case xs_NoBoard => first | rfl | k_is)
    (case xk_NoGame => k_is)
    (case xx_NoGame => k_exc)
    (case xb_NoGame => k_is)
    (case xt_NoGame => k_is)
    (case xd_NoGame => k_is)
    (case xs_NoGame => first | rfl | k_is)
    (case xk_NoName => k_is)
    (case xx_NoName => k_exc)
    (case xb_NoName => k_is)
    (case xt_NoName => k_is)
    (case xd_NoName => k_is)
    (case xs_NoName => first | rfl | k_is)
    (case xk_NoNumber => k_is)
    (case xx_NoNumber => k_exc)
    (case xb_NoNumber => k_is)
    (case xt_NoNumber => k_is)
    (case xd_NoNumber => k_is)
    (case xs_NoNumber => first | rfl | k_is)
    (case xk_NoRoad => k_is)
    (case xx_NoRoad => k_exc)
    (case xb_NoRoad => k_is)
    (case xt_NoRoad => k_is)
    (case xd_NoRoad => k_is)
    (case xs_NoRoad => first | rfl | k_is)
    (case xk_NoRow => k_is)
    (case xx_NoRow => k_exc)
    (case xb_NoRow => k_is)
    (case xt_NoRow => k_is)
    (case xd_NoRow => k_is)
    (case xs_NoRow => first | rfl | k_is)
    (case xk_NoText => k_is)
    (case xx_NoText => k_exc)
    (case xb_NoText => k_is)
    (case xt_NoText => k_is)
    (case xd_NoText => k_is)
    (case xs_NoText => first | rfl | k_is)
    (case x_get => k_is)
    (case x_tak => k_is)
    (case ya_GameError => k_is)
    (case yg_GameError => k_is)
    (case yc_GameError => k_is)
    (case ym_GameError => k_is)
    (case yv_GameError => first | kit_is | rfl)
    (case yi_GameError_GameError => first | kit_is | rfl)
    (case yi_GameError_NoBoard => first | kit_is | rfl)
    (case yi_GameError_NoGame => first | kit_is | rfl)
    (case yi_GameError_NoName => first | kit_is | rfl)
    (case yi_GameError_NoNumber => first | kit_is | rfl)
    (case yi_GameError_NoRoad => first | kit_is | rfl)
    (case yi_GameError_NoRow => first | kit_is | rfl)
    (case yi_GameError_NoText => first | kit_is | rfl)
    (case ya_NoBoard => k_is)
    (case yg_NoBoard => k_is)
    (case yc_NoBoard => k_is)
    (case ym_NoBoard => k_is)
    (case yv_NoBoard => first | kit_is | rfl)
    (case yi_NoBoard_GameError => first | kit_is | rfl)
    (case yi_NoBoard_NoBoard => first | kit_is | rfl)
    (case yi_NoBoard_NoGame => first | kit_is | rfl)
    (case yi_NoBoard_NoName => first | kit_is | rfl)
    (case yi_NoBoard_NoNumber => first | kit_is | rfl)
    (case yi_NoBoard_NoRoad => first | kit_is | rfl)
    (case yi_NoBoard_NoRow => first | kit_is | rfl)
    (case yi_NoBoard_NoText => first | kit_is | rfl)
    (case ya_NoGame => k_is)
    (case yg_NoGame => k_is)
    (case yc_NoGame => k_is)
    (case ym_NoGame => k_is)
    (case yv_NoGame => first | kit_is | rfl)
    (case yi_NoGame_GameError => first | kit_is | rfl)
    (case yi_NoGame_NoBoard => first | kit_is | rfl)
    (case yi_NoGame_NoGame => first | kit_is | rfl)
    (case yi_NoGame_NoName => first | kit_is | rfl)
    (case yi_NoGame_NoNumber => first | kit_is | rfl)
    (case yi_NoGame_NoRoad => first | kit_is | rfl)
    (case yi_NoGame_NoRow => first | kit_is | rfl)
    (case yi_NoGame_NoText => first | kit_is | rfl)
    (case ya_NoName => k_is)
    (case yg_NoName => k_is)
    (case yc_NoName => k_is)
    (case ym_NoName => k_is)
    (case yv_NoName => first | kit_is | rfl)
    (case yi_NoName_GameError => first | kit_is | rfl)
    (case yi_NoName_NoBoard => first | kit_is | rfl)
    (case yi_NoName_NoGame => first | kit_is | rfl)
    (case yi_NoName_NoName => first | kit_is | rfl)
    (case yi_NoName_NoNumber => first | kit_is | rfl)
    (case yi_NoName_NoRoad => first | kit_is | rfl)
    (case yi_NoName_NoRow => first | kit_is | rfl)
    (case yi_NoName_NoText => first | kit_is | rfl)
    (case ya_NoNumber => k_is)
    (case yg_NoNumber => k_is)
    (case yc_NoNumber => k_is)
    (case ym_NoNumber => k_is)
    (case yv_NoNumber => first | kit_is | rfl)
    (case yi_NoNumber_GameError => first | kit_is | rfl)
    (case yi_NoNumber_NoBoard => first | kit_is | rfl)
    (case yi_NoNumber_NoGame => first | kit_is | rfl)
    (case yi_NoNumber_NoName => first | kit_is | rfl)
    (case yi_NoNumber_NoNumber => first | kit_is | rfl)
    (case yi_NoNumber_NoRoad => first | kit_is | rfl)
    (case yi_NoNumber_NoRow => first | kit_is | rfl)
    (case yi_NoNumber_NoText => first | kit_is | rfl)
    (case ya_NoRoad => k_is)
    (case yg_NoRoad => k_is)
    (case yc_NoRoad => k_is)
    (case ym_NoRoad => k_is)
    (case yv_NoRoad => first | kit_is | rfl)
    (case yi_NoRoad_GameError => first | kit_is | rfl)
    (case yi_NoRoad_NoBoard => first | kit_is | rfl)
    (case yi_NoRoad_NoGame => first | kit_is | rfl)
    (case yi_NoRoad_NoName => first | kit_is | rfl)
    (case yi_NoRoad_NoNumber => first | kit_is | rfl)
    (case yi_NoRoad_NoRoad => first | kit_is | rfl)
    (case yi_NoRoad_NoRow => first | kit_is | rfl)
    (case yi_NoRoad_NoText => first | kit_is | rfl)
    (case ya_NoRow => k_is)
    (case yg_NoRow => k_is)
    (case yc_NoRow => k_is)
    (case ym_NoRow => k_is)
    (case yv_NoRow => first | kit_is | rfl)
    (case yi_NoRow_GameError => first | kit_is | rfl)
    (case yi_NoRow_NoBoard => first | kit_is | rfl)
    (case yi_NoRow_NoGame => first | kit_is | rfl)
    (case yi_NoRow_NoName => first | kit_is | rfl)
    (case yi_NoRow_NoNumber => first | kit_is | rfl)
    (case yi_NoRow_NoRoad => first | kit_is | rfl)
    (case yi_NoRow_NoRow => first | kit_is | rfl)
    (case yi_NoRow_NoText => first | kit_is | rfl)
    (case ya_NoText => k_is)
    (case yg_NoText => k_is)
    (case yc_NoText => k_is)
    (case ym_NoText => k_is)
    (case yv_NoText => first | kit_is | rfl)
    (case yi_NoText_GameError => first | kit_is | rfl)
    (case yi_NoText_NoBoard => first | kit_is | rfl)
    (case yi_NoText_NoGame => first | kit_is | rfl)
    (case yi_NoText_NoName => first | kit_is | rfl)
    (case yi_NoText_NoNumber => first | kit_is | rfl)
    (case yi_NoText_NoRoad => first | kit_is | rfl)
    (case yi_NoText_NoRow => first | kit_is | rfl)
    (case yi_NoText_NoText => first | kit_is | rfl)
    (case n_ValueError => k_is)
    (case n_bool => k_is)
    (case n_int => k_is)
    (case n_isinstance => k_is)
    (case n_len => k_is)
    (case n_list => k_is)
    (case n_max => k_is)
    (case n_min => k_is)
    (case n_range => k_is)
    (case n_set => k_is)
    (case n_sorted => k_is)
    (case n_tuple => k_is)
    (case a_SIDES => k_is)
    (case l_SIDES => k_is)
    (case a_law_draw => k_is)
    (case l_law_draw => k_is)
    (case c_law_draw => k_is)
    (case k_law_draw => k_is)
    (case a_law_deck => k_is)
    (case l_law_deck => k_is)
    (case c_law_deck => k_is)
    (case k_law_deck => k_is)
    (case a_Book_need => k_is)
    (case i_Book_need => k_is)
    (case l_Book_need => k_is)
    (case c_Book_need => k_is)
    (case k_Book_need => k_is)
    (case a_Book_game => k_is)
    (case i_Book_game => k_is)
    (case l_Book_game => k_is)
    (case c_Book_game => k_is)
    (case k_Book_game => k_is)
    (case a_Book_init => k_is)
    (case i_Book_init => k_is)
    (case l_Book_init => k_is)
    (case c_Book_init => k_is)
    (case k_Book_init => k_is)
    (case a_Book_many => k_is)
    (case i_Book_many => k_is)
    (case l_Book_many => k_is)
    (case c_Book_many => k_is)
    (case k_Book_many => k_is)
    (case a_law_kinds => k_is)
    (case l_law_kinds => k_is)
    (case c_law_kinds => k_is)
    (case k_law_kinds => k_is)
    (case a_law_asked => k_is)
    (case l_law_asked => k_is)
    (case c_law_asked => k_is)
    (case k_law_asked => k_is)
    (case a_law_refused => k_is)
    (case l_law_refused => k_is)
    (case c_law_refused => k_is)
    (case k_law_refused => k_is)
    (case a_law_answered => k_is)
    (case l_law_answered => k_is)
    (case c_law_answered => k_is)
    (case k_law_answered => k_is)
    (case a_Book_lefts => k_is)
    (case i_Book_lefts => k_is)
    (case l_Book_lefts => k_is)
    (case c_Book_lefts => k_is)
    (case k_Book_lefts => k_is)
    (case a_Book_rights => k_is)
    (case i_Book_rights => k_is)
    (case l_Book_rights => k_is)
    (case c_Book_rights => k_is)
    (case k_Book_rights => k_is)
    (case a_Book_depth => k_is)
    (case i_Book_depth => k_is)
    (case l_Book_depth => k_is)
    (case c_Book_depth => k_is)
    (case k_Book_depth => k_is)
    (case a_law_moves => k_is)
    (case l_law_moves => k_is)
    (case c_law_moves => k_is)
    (case k_law_moves => k_is)
    (case a_law_grown => k_is)
    (case l_law_grown => k_is)
    (case c_law_grown => k_is)
    (case k_law_grown => k_is)
    (case a_Turns_init => k_is)
    (case i_Turns_init => k_is)
    (case l_Turns_init => k_is)
    (case c_Turns_init => k_is)
    (case k_Turns_init => k_is)
    (case a_Turns_row => k_is)
    (case i_Turns_row => k_is)
    (case l_Turns_row => k_is)
    (case c_Turns_row => k_is)
    (case k_Turns_row => k_is)
    (case a_Turns_wins => k_is)
    (case i_Turns_wins => k_is)
    (case l_Turns_wins => k_is)
    (case c_Turns_wins => k_is)
    (case k_Turns_wins => k_is)
    (case a_who_wins => k_is)
    (case l_who_wins => k_is)
    (case c_who_wins => k_is)
    (case k_who_wins => k_is)
    (case a_winning_moves => k_is)
    (case l_winning_moves => k_is)
    (case c_winning_moves => k_is)
    (case k_winning_moves => k_is)
    (case a_Putting_init => k_is)
    (case i_Putting_init => k_is)
    (case l_Putting_init => k_is)
    (case c_Putting_init => k_is)
    (case k_Putting_init => k_is)
    (case a_Putting_turn => k_is)
    (case i_Putting_turn => k_is)
    (case l_Putting_turn => k_is)
    (case c_Putting_turn => k_is)
    (case k_Putting_turn => k_is)
    (case a_turned => k_is)
    (case l_turned => k_is)
    (case c_turned => k_is)
    (case k_turned => k_is)
    (case a_Putting_put => k_is)
    (case i_Putting_put => k_is)
    (case l_Putting_put => k_is)
    (case c_Putting_put => k_is)
    (case k_Putting_put => k_is)
    (case a_put_together => k_is)
    (case l_put_together => k_is)
    (case c_put_together => k_is)
    (case k_put_together => k_is)
    (case a_difference => k_is)
    (case l_difference => k_is)
    (case c_difference => k_is)
    (case k_difference => k_is)
    (case a_all_together => k_is)
    (case l_all_together => k_is)
    (case c_all_together => k_is)
    (case k_all_together => k_is)
    (case a_law => k_is)
    (case l_law => k_is)
    (case c_law => k_is)
    (case k_law => k_is)
