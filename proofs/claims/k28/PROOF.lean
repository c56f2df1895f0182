import PyProof.Rows.All
import Wide.All
import OpenK.AllK
import Wide.FinOn
import HandS.ForMost
import HandS.ForExc
import HandS.Strs
import HandS.SetFor
import HandS.SortInts
import HandS.Deep
import HandS.Style
import HandS.Conv
import HandS.NoneIn
import HandS.IsInst
import HandS.Wide
import HandS.Codes
import HandS.Walk
import HandS.Zip
import HandS.StrMore
import HandS.RevRange
import HandS.Rev
import HandS.TupAny
import HandS.TupLen
import HandS.Steps
import HandS.Remove
import HandS.CallSlots
import HandS.ExcIs
import HandS.ExcValue
import KE.KDictDisplayH
import KE.KeyNested
import HandS.RaiseMore
import HandS.SortRule
import HandS.HotCalls
import HandS.ExcInitHot
import PySem.Challenge.RW_hotmoves_k28_the_simplest
set_option Elab.async false
set_option linter.all false
set_option maxRecDepth 100000
set_option maxHeartbeats 4000000
/-! F1: set(list of ints); sorted of a set of any size. -/
namespace Hm
open PySem PySem.Spec PyProof.Rows L2

/-- a set as it is made -/
abbrev emptySet (w : World) : Obj := { cls := .type "set", dict := none, data := .set #[] 0 (.fresh 0 0 (!w.params.followText "set-order")) }

section
variable {P : Program} {w : World} {A : Around} {E : Value → Shared → Prop} {s : Shared}

set_option maxHeartbeats 8000000 in
theorem set_of_list {l : Addr} {xs : Array Value} (ks : List Int) {Q : Value → Shared → Prop} (calm : A.handled = none) (isL : s.heap.IsList l xs) (are : IntsAre xs.toList ks) (few : ks.length + 1 < scanBound)
    (fin : ∀ (hp : Heap) (tk n : Nat), SetR w hp s.heap.objs.size (fun j => decide (j ∈ ks)) n → n ≤ ks.length → (∀ b o, s.heap.get? b = some o → hp.get? b = some o) → Q (.ref s.heap.objs.size) { s with heap := hp, toks := tk }) :
    wpAny (model P w) A (call (.type "set") [.ref l]) Q E s := by
  have sz : xs.size = ks.length := (Array.length_toList (xs := xs)).symm.trans (IntsAre.length are)
  have made := F.called_set.made
  have sub := F.called_set.sub
  obtain ⟨c, tl, mro⟩ := F.called_set.mro
  refine wpAny_call (codeAny_of_tree ?_)
  show wpAny _ _ (callAny (.type "set") _) _ _ _
  refine wpAny_pure ⟨Code.quiet_builtin _ (by decide +kernel), codeAny_builtin F.entry_type_call ?_⟩
  rw [Around.under_plain (weight_type_call_type "set" [.ref l] []) rfl]
  have f1 := F.called_set.notType
  have f2 := F.called_set.canCreate
  have f3 := F.typeCall_set_1 (.ref l)
  repeat (any_goals (first | assumption | wp_step))
  refine codeAny_mono (code_set_led1 (.ref l) (E := E) (Q₁ := fun v t => v = .ref s.heap.objs.size ∧ t = { s with heap := s.heap.push (emptySet w) }) ⟨rfl, rfl⟩) fun r t hr => ?_
  cases r with
  | error e => exact hr
  | ok fl =>
    cases fl with
    | next => exact hr.elim
    | brk => exact hr.elim
    | cont => exact hr.elim
    | ret v =>
      obtain ⟨rfl, rfl⟩ := hr
      have at0 : (s.heap.push (emptySet w)).get? s.heap.objs.size = some (emptySet w) := Heap.get?_push_size _ rfl
      have ty0 : Shared.TypeIs { s with heap := s.heap.push (emptySet w) } (.ref s.heap.objs.size) "set" := ⟨_, at0, rfl⟩
      have i1 := F.called_set.init.lookup
      have i2 := F.called_set.init.bind (.ref s.heap.objs.size)
      repeat (any_goals (first | assumption | wp_step))
      refine codeAny_mono (codeAny_call_builtin (R := wants (fun r t => r = .none ∧ ∃ hp tk n, t = { s with heap := hp, toks := tk } ∧ SetR w hp s.heap.objs.size (fun j => decide (j ∈ ks)) n ∧ n ≤ ks.length ∧ (∀ b o, s.heap.get? b = some o → hp.get? b = some o)) E)
        F.called_set.init.plain F.entry_set_init (check_set_init_1 ty0 ?_)) fun r t hr => ?_
      · obtain ⟨⟨oc, od, odt, osl⟩, got, e1, n0, e2⟩ := isL
        simp only at e1 e2
        subst e1 e2
        have got1 : (s.heap.push (emptySet w)).get? l = some { cls := .type "list", dict := od, data := .seq xs n0, slots := osl } := Heap.get?_push_of_some _ got
        have isL1 : (s.heap.push (emptySet w)).IsList l xs := ⟨_, got1, rfl, n0, rfl⟩
        have t1 := F.sub_list_set
        have t2 := F.sub_list_frozenset
        have t3 : (Value.type "list" == Value.type "dict") = false := by decide
        unfold Builtin.«set.__init__» noKeywords Builtin.Frozenset.updateFrom
        generalize eI : pyIter = I
        wp_walk
        subst eI
        refine wpAny_pyIter_list isL1 (wpAny_bind (wpAny_runValue ?_))
        have lt : l < s.heap.objs.size := Heap.lt_size got
        have calm3 : A.in1.in1.in1.handled = none := by simp [calm]
        have sz1 : (s.heap.push (emptySet w)).objs.size = s.heap.objs.size + 1 := Heap.size_push ..
        have neI : l ≠ (s.heap.push (emptySet w)).objs.size := by rw [sz1]; exact Nat.ne_of_lt (Nat.lt_succ_of_lt lt)
        have notS : s.heap.objs.size ∉ [(s.heap.push (emptySet w)).objs.size, l] := by
          rw [sz1]; intro z; simp only [List.mem_cons, List.not_mem_nil, or_false] at z
          rcases z with z | z
          · exact Nat.ne_of_lt (Nat.lt_succ_self _) z
          · exact Nat.ne_of_gt lt z
        have each : ∀ (i : Nat) (v : Value), xs[i]? = some v → ∃ k t, ks[i]? = some k ∧ v = .int k t := fun i v hv => by
          have hi : i < ks.length := by rw [← sz]; exact (Array.getElem?_eq_some_iff.mp hv).1
          obtain ⟨t, e⟩ := PyProof.Rows.IntsAre.int_at are i v (by rw [Array.getElem?_toList]; exact hv)
          exact ⟨ks[i], t, List.getElem?_eq_getElem hi, by rw [e, List.getD_eq_getElem?_getD, List.getElem?_eq_getElem hi]; rfl⟩
        refine set_update_ints ((Walks.list calm3 _ l neI xs).toS) s.heap.objs.size notS ks sz few each (xs.size - 0) 0 _ (by omega) (Nat.zero_le _)
          ⟨⟨_, Heap.get?_push_size _ rfl, rfl, rfl⟩, (isL1.push _)⟩ ?start ?done
        case start =>
          have g : ((s.heap.push (emptySet w)).push { cls := .type "list_iterator", data := .fields #[.ref l, .int 0 0] }).get? s.heap.objs.size = some (emptySet w) := Heap.get?_push_of_some _ at0
          exact ⟨0, Nat.le_refl 0, setR_new_at g⟩
        case done =>
          rintro ⟨hp, gs, dr, tk, os⟩ n mv nle R
          cases (show gs = s.gens from mv.gens)
          cases (show dr = s.drawn from mv.drawn)
          cases (show os = s.os from mv.os)
          show wpAny _ _ _ _ _ _
          refine wpAny_pure ?_
          show wpAny _ _ (ret Value.none) _ _ _
          rw [sz] at nle
          refine wpAny_pure ⟨rfl, hp, tk, n, rfl, R, nle, fun b o e => ?_⟩
          have b0 : b < s.heap.objs.size := Heap.lt_size e
          refine mv.heap b o (fun z => ?_) (Heap.get?_push_of_some _ (Heap.get?_push_of_some _ e))
          simp only [List.mem_cons, List.not_mem_nil, or_false] at z
          rw [sz1] at z
          rcases z with z | z
          · exact Nat.ne_of_lt b0 z
          · exact Nat.ne_of_lt (Nat.lt_succ_of_lt b0) z
      · cases r with
        | error e => exact hr
        | ok fl =>
          cases fl with
          | next => exact hr.elim
          | brk => exact hr.elim
          | cont => exact hr.elim
          | ret v =>
            obtain ⟨rfl, hp, tk, n, rfl, R, nle, keep⟩ := hr
            repeat (any_goals (first | assumption | wp_step))
            exact fin _ _ _ R nle keep

/-- sorted(s) of a set of ints of any size -/
theorem sorted_of_set {a : Addr} {S : Int → Bool} {n : Nat} {Q : Value → Shared → Prop} (R : SetR w s.heap a S n) (calm : A.handled = none)
    (fin : ∀ t p (out : Array Value) (c : Nat) (ns : List Int), (∀ b o, s.heap.get? b = some o → t.heap.get? b = some o) → t.gens = s.gens → t.os = s.os → s.heap.objs.size ≤ p →
      t.heap.get? p = some (seqObj "list" out c) → IntsAre out.toList ns → ns.Pairwise (· < ·) → (∀ k, k ∈ ns ↔ S k = true) → ns.length = n → Q (.ref p) t) :
    wpAny (model P w) A (call (.builtin "sorted") [.ref a]) Q E s := by
  obtain ⟨o, es, ep, t, ho, hex, hd, good, nd, mem, few, fits, num, ris, led⟩ := R
  refine Calls.call_function_entry kind_sorted plain_sorted entry_sorted (args_sorted1 _) ?_
  unfold Builtin.«sorted»
  refine wpAny_bind (m := checkCount "sorted" 1 1 _) (wpAny_pure ?_)
  refine wpAny_bind (collect_set (A := A.in1) calm ⟨o, ho, hex.1, hd⟩ fits few ris led fun s1 vs k1 big g1 o1 pm => ?_)
  have len : vs.length = n := by rw [pm.length_eq, List.length_map, Array.length_toList]; exact num
  have areI : IntsAre vs (vs.map Builtin.Re.reRawOf) := ints_of vs fun v hv => by
    obtain ⟨e, he, q⟩ := List.mem_map.mp (pm.mem_iff.mp hv)
    obtain ⟨k, tk, h1, _⟩ := good e he
    exact ⟨k, tk, q ▸ h1⟩
  have pk : (vs.map Builtin.Re.reRawOf).Perm (es.toList.map keyOf) := by
    have q := pm.map Builtin.Re.reRawOf
    rw [List.map_map] at q
    exact q
  have line : vs.length ≤ sizeLine := by
    rw [len, sizeLine_eq]; have : scanBound = 4096 := rfl; omega
  refine wpAny_bind (wpAny_newList ?_ line)
  have at1 : (s1.heap.push (seqObj "list" vs.toArray 0)).get? s1.heap.objs.size = some (seqObj "list" vs.toArray 0) := Heap.get?_push_size _ rfl
  refine wpAny_bind (wpAny_holding (wpAny_call_entry slot_list_sort ⟨_, at1, rfl⟩ entry_list_sort
    (SrtO.list_sort_ord SrtO.swo_int at1 line (fun h2 => SrtO.ints_sortable areI h2) fun out h1 h2 => ⟨_, rfl, ?_⟩) (args_list_sort _)))
  obtain ⟨j1, j2, j3⟩ := SrtO.ints_out areI h1 h2
  obtain ⟨c, hc⟩ := sortedHeap_at (vs := vs) (out := out.toArray) at1
  have pn : (out.map SrtO.iv).Perm (es.toList.map keyOf) := j2.trans pk
  refine wpAny_pure ⟨_, rfl, fin _ s1.heap.objs.size out.toArray c (out.map SrtO.iv) (fun b u e => ?_) g1 o1 big hc (by simpa using j1) (lt_of_le_nodup _ j3 (pn.nodup_iff.mpr nd)) (fun k => by rw [pn.mem_iff, ← mem k]) ?_⟩
  · have q := k1 b u e
    have lt := Heap.lt_size q
    show (sortedHeap (s1.heap.push (seqObj "list" vs.toArray 0)) s1.heap.objs.size vs out.toArray).get? b = some u
    rw [sortedHeap_old (Nat.ne_of_lt lt) (by rw [size_push']; exact Nat.lt_succ_of_lt lt)]
    exact Heap.get?_push_of_some _ q
  · rw [pn.length_eq, List.length_map, Array.length_toList]; exact num
end

section
variable {X : Cx}
/-- set(xs), xs a list of ints -/
def uSetI (K : PySem.W.Frag) (w : World) : List V → Hp → VK → Prop := fun xs H Q => ∃ (l : Addr) (ns : List Int), xs = [.ref l] ∧ SqL K H l (ns.map V.int) ∧ ns.length ≤ 4000 ∧
  ∀ (a : Addr) (n : Nat), H a = none → n ≤ ns.length → Q (.ref a) (upd H a (SetO w a (fun j => decide (j ∈ ns)) n))
theorem cu_setI (hc : X.calm = true) : CallR X (.type "set") (uSetI X.K X.w) := by
  intro pins s σ H xs us Q I r h
  obtain ⟨l, ns, rfl, hl, few, q⟩ := h
  rw [Vals.ref1 r]
  obtain ⟨its, rv, pl, hz⟩ := I.list hl
  have hs : scanBound = 4096 := rfl
  refine set_of_list ns (I.ok.hd hc) pl.isList (by simpa using rv.ints) (by omega) fun hp tk n R nle keep => ?_
  exact ⟨.ref _, upd H s.heap.objs.size (SetO X.w s.heap.objs.size (fun j => decide (j ∈ ns)) n), I.laid (t' := tk) keep (Nat.le_refl _) (setO_new R), rfl, q _ n (I.hok.fresh (Nat.le_refl _)) nle⟩
/-- sorted(s), s a set of ints -/
def uSortSet (w : World) : List V → Hp → VK → Prop := fun vs H Q => ∃ (a : Addr) (S : Int → Bool) (n : Nat), vs = [V.ref a] ∧ H a = some (SetO w a S n) ∧
  ∀ (ns : List Int) (p : Addr), ns.Pairwise (· < ·) → (∀ k : Int, k ∈ ns ↔ S k = true) → ns.length = n → H p = none → Q (.ref p) (upd H p (.lst (ns.map V.int)))
theorem cu_sortSet (hc : X.calm = true) : CallR X (.builtin "sorted") (uSortSet X.w) := by
  intro pins s σ H vs us Q I r h
  obtain ⟨a, S, n, rfl, ha, q⟩ := h
  have R := setO_get I ha
  have nb : n ≤ 4096 := by
    obtain ⟨_, es, _, _, _, _, _, _, _, _, few, _, num, _⟩ := R
    have hs : scanBound = 4096 := rfl
    omega
  rw [Vals.ref1 r]
  refine sorted_of_set R (I.ok.hd hc) fun s' p out c ns k g o big got areI up mem len => ?_
  have line : (ns.map V.int).length ≤ sizeLine := by rw [List.length_map, len, sizeLine_eq]; omega
  have new : H p = none := I.hok.fresh big
  have J : Inv X pins σ (upd H p (.lst (ns.map V.int))) { s with heap := s'.heap, gens := s'.gens, drawn := s'.drawn, toks := s'.toks } :=
    I.call (ch := []) (Un.laid k big new) (I.hok.laid k big ⟨line, out.toList, c, vals_of_ints areI, got⟩) (by rw [g]; exact I.bare) (fun _ z => nomatch z)
  have same : s' = { s with heap := s'.heap, gens := s'.gens, drawn := s'.drawn, toks := s'.toks } := by
    cases s'; cases s; cases o; rfl
  rw [same]
  exact ⟨.ref p, _, J, rfl, q ns p up mem len new⟩
end
end Hm

/-! F1b: dicts whose keys are nested tuples of ints and texts. -/
namespace Hm
open PySem PySem.Spec PyProof.Rows L2

mutual
/-- the value v is the key k, its tuples tracked -/
def NkV (H : Hp) : NestedKey → V → Prop
  | .none, v => v = .non
  | .num i, v => v = .int i
  | .text x, v => v = .str x
  | .tup ks, v => ∃ a vs, v = .ref a ∧ H a = some (.tup vs) ∧ NkVs H ks vs
def NkVs (H : Hp) : List NestedKey → List V → Prop
  | [], vs => vs = []
  | k :: ks, vs => ∃ v r, vs = v :: r ∧ NkV H k v ∧ NkVs H ks r
end
mutual
theorem NkV.keeps {H H' : Hp} (ht : ∀ b xs, H b = some (.tup xs) → H' b = some (.tup xs)) : ∀ (k : NestedKey) (v : V), NkV H k v → NkV H' k v
  | .none, _, h => by simpa only [NkV] using h
  | .num i, _, h => by simpa only [NkV] using h
  | .text x, _, h => by simpa only [NkV] using h
  | .tup ks, _, h => by
    simp only [NkV] at h ⊢
    obtain ⟨a, vs, e, ha, hs⟩ := h
    exact ⟨a, vs, e, ht _ _ ha, NkVs.keeps ht ks vs hs⟩
theorem NkVs.keeps {H H' : Hp} (ht : ∀ b xs, H b = some (.tup xs) → H' b = some (.tup xs)) : ∀ (ks : List NestedKey) (vs : List V), NkVs H ks vs → NkVs H' ks vs
  | [], _, h => by simpa only [NkVs] using h
  | k :: ks, _, h => by
    simp only [NkVs] at h ⊢
    obtain ⟨v, r, e, h1, h2⟩ := h
    exact ⟨v, r, e, NkV.keeps ht k v h1, NkVs.keeps ht ks r h2⟩
end
section
variable {P : Program} {w : World} {H : Hp} {h : Heap}
mutual
theorem nk_is (ok : HOk P w H h) : ∀ (k : NestedKey) (v : V) (u : Value), NkV H k v → RelV v u → NestedIs h k u
  | .none, _, _, e, r => by simp only [NkV] at e; subst e; cases r; exact .none
  | .num i, _, _, e, r => by simp only [NkV] at e; subst e; obtain ⟨t, rfl⟩ := r; exact .int i t
  | .text x, _, _, e, r => by simp only [NkV] at e; subst e; obtain ⟨t, rfl⟩ := r; exact .text x t
  | .tup ks, _, _, e, r => by
    simp only [NkV] at e
    obtain ⟨a, vs, rfl, ha, hs⟩ := e
    cases r
    obtain ⟨_, its, rv, o, h1, h2, n, h3⟩ := (show ObjOk P w H h a (.tup vs) from ok a _ ha)
    exact .tup h1 h2 h3 (by simpa using nks_are ok ks vs its hs rv)
theorem nks_are (ok : HOk P w H h) : ∀ (ks : List NestedKey) (vs : List V) (us : List Value), NkVs H ks vs → Vals vs us → NestedAll h ks us
  | [], _, _, e, r => by simp only [NkVs] at e; subst e; cases r; exact .nil
  | k :: ks, _, _, e, r => by
    simp only [NkVs] at e
    obtain ⟨v, rr, rfl, h1, h2⟩ := e
    cases r with
    | cons r1 r2 => exact .cons (nk_is ok k v _ h1 r1) (nks_are ok ks rr _ h2 r2)
end
end

/-- an entry: the key, its tuple's address, the value -/
abbrev NX := NestedKey × Addr × V
def NRel (p : NX) (q : NestedKey × Addr × Value) : Prop := p.1 = q.1 ∧ p.2.1 = q.2.1 ∧ RelV p.2.2 q.2.2
/-- the dict at a -/
def NdO (P : Program) (w : World) (a : Addr) (xs : List NX) : HO := .ext fun h => (a == sysModules) = false ∧ xs.length ≤ sizeLine ∧ ∃ ys, Paired NRel xs ys ∧
  ∃ o es ep, h.get? a = some o ∧ o.ExactDict ∧ o.data = .dict es ep ∧ es.toList = ys.map (entryOfKey (nestedKind P w)) ∧ (ys.map (·.1)).Nodup
structure NdAt (P : Program) (w : World) (H : Hp) (a : Addr) (xs : List NX) : Prop where
  here : H a = some (NdO P w a xs)
  keys : ∀ x ∈ xs, NkV H x.1 (.ref x.2.1) ∧ x.1.depth ≤ 8
def nval (xs : List NX) (k : NestedKey) : Option V := (xs.find? fun x => decide (x.1 = k)).map (·.2.2)
def nput (xs : List NX) (k : NestedKey) (a : Addr) (v : V) : List NX := if (nval xs k).isSome then xs.map fun x => if x.1 = k then (x.1, x.2.1, v) else x else xs ++ [(k, a, v)]

section
variable {P : Program} {w : World} {H H' : Hp} {h h' : Heap} {a : Addr} {xs : List NX}
theorem ndO_ok {ys : List (NestedKey × Addr × Value)} (z : (a == sysModules) = false) (l : xs.length ≤ sizeLine) (r : Paired NRel xs ys) (d : h.DictOfH (nestedKind P w) a ys) : ObjOk P w H h a (NdO P w a xs) := by
  obtain ⟨o, es, ep, e1, e2, e3, e4, e5, e6⟩ := d
  refine ⟨⟨z, l, ys, r, o, es, ep, e1, e2, e3, e4, e6⟩, ⟨o, e1⟩, fun h1 h2 q k => ?_⟩
  obtain ⟨z, l, ys, r, o, es, ep, f1, f⟩ := q
  exact ⟨z, l, ys, r, o, es, ep, k o f1, f⟩
theorem NdAt.get (ok : HOk P w H h) (N : NdAt P w H a xs) : (a == sysModules) = false ∧ xs.length ≤ sizeLine ∧ ∃ ys, Paired NRel xs ys ∧ h.DictOfH (nestedKind P w) a ys := by
  obtain ⟨⟨z, l, ys, r, o, es, ep, e1, e2, e3, e4, e6⟩, _, _⟩ := ok a _ N.here
  refine ⟨z, l, ys, r, o, es, ep, e1, e2, e3, e4, ?_, e6⟩
  have all : ∀ {l : List NX} {m : List (NestedKey × Addr × Value)}, Paired NRel l m → (∀ x ∈ l, NkV H x.1 (.ref x.2.1) ∧ x.1.depth ≤ 8) → ∀ y ∈ m, (nestedKind P w).is h y.1 y.2.1 := by
    intro l m q
    induction q with
    | nil => intro _ y hy; exact nomatch hy
    | @cons p q ps qs hq t ih =>
      intro hk y hy
      rcases List.mem_cons.mp hy with e | hy
      · subst e
        obtain ⟨k1, k2⟩ := hk p List.mem_cons_self
        rw [← hq.1, ← hq.2.1]
        exact ⟨nk_is ok p.1 _ _ k1 rfl, k2⟩
      · exact ih (fun x hx => hk x (List.mem_cons_of_mem _ hx)) y hy
  exact all r N.keys
theorem NRel.val {ys : List (NestedKey × Addr × Value)} (r : Paired NRel xs ys) (k : NestedKey) : RelO (nval xs k) ((atKey ys k).map (·.2)) := by
  induction r with
  | nil => exact True.intro
  | @cons p q ps qs hq t ih =>
    obtain ⟨h1, _, h3⟩ := hq
    by_cases e : p.1 = k
    · have e' : q.1 = k := h1.symm.trans e
      have b : atKey (q :: qs) k = some q.2 := by simp [atKey, List.find?_cons, e']
      have c : nval (p :: ps) k = some p.2.2 := by simp [nval, List.find?_cons, e]
      rw [c, b]; exact h3
    · have e' : ¬ q.1 = k := fun z => e (h1.trans z)
      have b : atKey (q :: qs) k = atKey qs k := by simp [atKey, List.find?_cons, e']
      have c : nval (p :: ps) k = nval ps k := by simp [nval, List.find?_cons, e]
      rw [c, b]; exact ih
theorem NRel.put {ys : List (NestedKey × Addr × Value)} (r : Paired NRel xs ys) (k : NestedKey) (b : Addr) {v : V} {u : Value} (rv : RelV v u) : Paired NRel (nput xs k b v) (storedH ys k b u) := by
  have e : (nval xs k).isSome = (atKey ys k).isSome := by rw [(NRel.val r k).isSome_eq, Option.isSome_map]
  unfold nput storedH
  rw [e]
  by_cases q : (atKey ys k).isSome = true
  · rw [if_pos q, if_pos q]
    clear e q
    induction r with
    | nil => exact .nil
    | @cons p q ps qs hq t ih =>
      rw [List.map_cons, List.map_cons]
      refine .cons ?_ ih
      obtain ⟨h1, h2, h3⟩ := hq
      unfold putAt
      by_cases e : p.1 = k
      · rw [if_pos e, if_pos (h1.symm.trans e)]; exact ⟨h1, h2, rv⟩
      · rw [if_neg e, if_neg (fun z => e (h1.trans z))]; exact ⟨h1, h2, h3⟩
  · rw [if_neg q, if_neg q]
    exact Paired.snoc r ⟨rfl, rfl, rv⟩
theorem nput_len (xs : List NX) (k : NestedKey) (b : Addr) (v : V) : (nput xs k b v).length ≤ xs.length + 1 := by
  unfold nput; split <;> simp
theorem nput_keys {k : NestedKey} {b : Addr} {v : V} (hk : ∀ x ∈ xs, NkV H x.1 (.ref x.2.1) ∧ x.1.depth ≤ 8) (hb : NkV H k (.ref b)) (d : k.depth ≤ 8) : ∀ x ∈ nput xs k b v, NkV H x.1 (.ref x.2.1) ∧ x.1.depth ≤ 8 := by
  intro x hx
  unfold nput at hx
  split at hx
  · obtain ⟨y, hy, e⟩ := List.mem_map.mp hx
    subst e
    split
    · exact hk y hy
    · exact hk y hy
  · rcases List.mem_append.mp hx with hx | hx
    · exact hk x hx
    · cases List.mem_singleton.mp hx; exact ⟨hb, d⟩
theorem NdAt.keep (N : NdAt P w H a xs) (ha : H' a = H a) (ht : ∀ b ys, H b = some (.tup ys) → H' b = some (.tup ys)) : NdAt P w H' a xs :=
  ⟨ha.trans N.here, fun x hx => ⟨NkV.keeps ht _ _ (N.keys x hx).1, (N.keys x hx).2⟩⟩
end

theorem nk_key {P : Program} {w : World} {H : Hp} {h : Heap} {k : NestedKey} {p : Addr} (ok : HOk P w H h) (kp : NkV H k (.ref p)) (d : k.depth ≤ 8) : (nestedKind P w).is h k p := ⟨nk_is ok k _ _ kp rfl, d⟩
section
variable {X : Cx}
/-- y in d -/
def uNIn (P : Program) (w : World) (neg : Bool) : R2 := fun y x H Q => ∃ a p k xs, x = .ref a ∧ y = .ref p ∧ NdAt P w H a xs ∧ NkV H k (.ref p) ∧ k.depth ≤ 8 ∧ Q (.bl (neg != (nval xs k).isSome)) H
theorem NdAt.isSome {P : Program} {w : World} {k : NestedKey} {xs : List NX} {ys : List (NestedKey × Addr × Value)} (r : Paired NRel xs ys) : (atKey ys k).isSome = (nval xs k).isSome := by
  rw [(NRel.val r k).isSome_eq, Option.isSome_map]
theorem ou_nin (hu : X.A.units + 64 < cLine) : OpR X (compareOp .In) (uNIn X.prog X.w false) := by
  intro pins s σ H y x v u Q I ry rx h
  obtain ⟨a, p, k, xs, rfl, rfl, N, kp, d, q⟩ := h
  cases rx; cases ry
  obtain ⟨z, l, ys, r, D⟩ := N.get I.hok
  refine wpAny_in_heap (show X.A.units + 1 + 8 < cLine by omega) (nk_key I.hok kp d) z D ?_
  rw [NdAt.isSome (P := X.prog) (w := X.w) r]
  exact ⟨.bl _, H, I.tok _, rfl, by simpa using q⟩
theorem ou_nnotin (hu : X.A.units + 64 < cLine) : OpR X (compareOp .NotIn) (uNIn X.prog X.w true) := by
  intro pins s σ H y x v u Q I ry rx h
  obtain ⟨a, p, k, xs, rfl, rfl, N, kp, d, q⟩ := h
  cases rx; cases ry
  obtain ⟨z, l, ys, r, D⟩ := N.get I.hok
  refine wpAny_notIn_heap (show X.A.units + 1 + 8 < cLine by omega) (nk_key I.hok kp d) z D ?_
  rw [NdAt.isSome (P := X.prog) (w := X.w) r]
  exact ⟨.bl _, H, I.tok _, rfl, by simpa using q⟩
/-- d[y] -/
def uNIx (P : Program) (w : World) : R2 := fun x y H Q => ∃ a p k xs v, x = .ref a ∧ y = .ref p ∧ NdAt P w H a xs ∧ NkV H k (.ref p) ∧ k.depth ≤ 8 ∧ nval xs k = some v ∧ Q v H
theorem ix_nd (hu : X.A.units + 64 < cLine) : IxR X (uNIx X.prog X.w) := by
  intro value slice pins s σ H x y v u Q I rx ry h hs
  obtain ⟨a, p, k, xs, z, rfl, rfl, N, kp, d, e, q⟩ := h
  cases rx; cases ry
  obtain ⟨_, l, ys, r, D⟩ := N.get I.hok
  obtain ⟨w', hw, rw'⟩ := RelO.some_of (v := z) (o := (atKey ys k).map (·.2)) (by rw [← e]; exact NRel.val r k)
  obtain ⟨q2, hq2, e2⟩ := Option.map_eq_some_iff.mp hw
  refine tail_any D.typeIs PySem.F.slot_dict_getitem.lookup (wpAny_getItem_heap (show X.A.units + 1 + 8 < cLine by omega) (nk_key I.hok kp d) D hq2 ?_) hs
  rw [e2]
  exact ⟨z, H, I.tok _, rw', q⟩
/-- a dict's item by int, text, or a flat tuple -/
def uDIx : R2 := fun x y H Q => ∃ a v, x = .ref a ∧ DGet H a y (some v) ∧ Q v H
theorem ix_d (hu : X.A.units + 64 < cLine) : IxR X uDIx := by
  intro value slice pins s σ H x y v u Q I rx ry h hs
  obtain ⟨a, z, rfl, g, q⟩ := h
  cases rx
  exact tail_any (dict_typeIs I g) PySem.F.slot_dict_getitem.lookup (d_getItem (by omega) I g ry fun w' s' I' rw' => ⟨z, H, I', rw', q⟩) hs
/-- y in d, keys ints, texts, flat tuples -/
def uDIn (neg : Bool) : R2 := fun y x H Q => ∃ a o, x = .ref a ∧ DGet H a y o ∧ Q (.bl (neg != o.isSome)) H
theorem ou_din (hu : X.A.units + 64 < cLine) : OpR X (compareOp .In) (uDIn false) := by
  intro pins s σ H y x v u Q I ry rx h
  obtain ⟨a, o, rfl, g, q⟩ := h
  cases rx
  exact d_in (by omega) I g ry fun s' I' => ⟨.bl _, H, I', rfl, by simpa using q⟩
theorem ou_dnotin (hu : X.A.units + 64 < cLine) : OpR X (compareOp .NotIn) (uDIn true) := by
  intro pins s σ H y x v u Q I ry rx h
  obtain ⟨a, o, rfl, g, q⟩ := h
  cases rx
  exact d_notIn (by omega) I g ry fun s' I' => ⟨.bl _, H, I', rfl, by simpa using q⟩
/-- d[y] = v -/
def uNSet (P : Program) (w : World) : V → V → V → Hp → (Hp → Prop) → Prop := fun o i v H Q => ∃ a p k xs, o = .ref a ∧ i = .ref p ∧ NdAt P w H a xs ∧ NkV H k (.ref p) ∧ k.depth ≤ 8 ∧ xs.length < sizeLine ∧ Q (upd H a (NdO P w a (nput xs k p v)))
theorem set_nd (hu : X.A.units + 64 < cLine) : PSet X (uNSet X.prog X.w) := by
  intro pins s σ H o i v ov iv u Q I ro ri rv h
  obtain ⟨a, p, k, xs, rfl, rfl, N, kp, d, few, q⟩ := h
  cases ro; cases ri
  obtain ⟨z, l, ys, r, D⟩ := N.get I.hok
  have hl : (nput xs k p v).length ≤ sizeLine := Nat.le_trans (nput_len xs k p v) few
  refine wpAny_setItem_heap (hsz := by rw [← Paired.length r]; exact l) (show X.A.units + 1 + 8 < cLine by omega) (nk_key I.hok kp d) D fun h' D' hs => ?_
  have he : ∃ q, h'.get? a = some q := let ⟨q, _, _, hq, _⟩ := D'; ⟨q, hq⟩
  exact ⟨_, d_write I (by rw [N.here]; exact True.intro) hs he (ndO_ok z hl (NRel.put r k p rv) D'), q⟩
def uDSet : V → V → V → Hp → (Hp → Prop) → Prop := fun o i v H Q => ∃ a H', o = .ref a ∧ DPut H a i v H' ∧ Q H'
theorem set_d (hu : X.A.units + 64 < cLine) : PSet X uDSet := by
  intro pins s σ H o i v ov iv u Q I ro ri rv h
  obtain ⟨a, H', rfl, g, q⟩ := h
  cases ro
  exact d_setItem (by omega) I g ri rv fun s' I' => ⟨H', I', q⟩
theorem PSet.or {X : Cx} {t t' : TSet} (h : PSet X t) (h' : PSet X t') : PSet X (fun o i v H Q => t o i v H Q ∨ t' o i v H Q) := by
  intro pins s σ H o i v ov iv u Q I ro ri rv q
  rcases q with q | q
  · exact h pins s σ H o i v ov iv u Q I ro ri rv q
  · exact h' pins s σ H o i v ov iv u Q I ro ri rv q
/-- {} with nested keys to come -/
theorem nd_empty {P : Program} {w : World} {H : Hp} (h : Heap) (hb : sysModules < h.objs.size) : ObjOk P w H (h.push { cls := .type "dict", data := .dict #[] }) h.objs.size (NdO P w h.objs.size []) :=
  ndO_ok (beq_eq_false_iff_ne.mpr (Ne.symm (Nat.ne_of_lt hb))) (Nat.zero_le _) .nil (Heap.DictOfH.new h)
def uDNew (P : Program) (w : World) : TE := fun _ H Q => (∃ kind : Bool, ∀ p, H p = none → Q (.ref p) (upd H p (if kind = true then .dK [] else NdO P w p []))) ∨ (∀ p, H p = none → Q (.ref p) (upd H p (.dT [])))
theorem pe_dnew {pos : Pos} : PE X (.Dict [] [] pos) (uDNew X.prog X.w) := ⟨fun pins s σ H Q I h => by
  rcases h with ⟨kind, q⟩ | q
  · cases kind with
    | true => exact wpAny_Dict_empty ⟨.ref s.heap.objs.size, _, I.laid (a := s.heap.objs.size) (o := .dK []) (t' := s.toks) (fun _ _ q => Heap.get?_push_of_some _ q) (Nat.le_refl _) (dk_empty s.heap I.big), rfl, q _ (I.hok.fresh (Nat.le_refl _))⟩
    | false => exact wpAny_Dict_empty ⟨.ref s.heap.objs.size, _, I.laid (a := s.heap.objs.size) (o := NdO X.prog X.w s.heap.objs.size []) (t' := s.toks) (fun _ _ q => Heap.get?_push_of_some _ q) (Nat.le_refl _) (nd_empty s.heap I.big), rfl, q _ (I.hok.fresh (Nat.le_refl _))⟩
  · exact pe_dnewT.run pins s σ H Q I q⟩
/-- {k: v} with one nested key -/
def uDisp1 (P : Program) (w : World) (tk tv : TE) : TE := fun σ H Q => ∀ p, H p = none → tk σ (upd H p (NdO P w p [])) fun x H1 => tv σ H1 fun y H2 =>
  ∃ k b, x = .ref b ∧ H2 p = some (NdO P w p []) ∧ NkV H2 k (.ref b) ∧ k.depth ≤ 8 ∧ Q (.ref p) (upd H2 p (NdO P w p [(k, b, y)]))
theorem pe_disp1 {ke ve : Expr} {tk tv : TE} {pos : Pos} (hu : X.A.units + 64 < cLine) (hk : PE X ke tk) (hv : PE X ve tv)
    (shape : (evalEachOpt [some ke] X.env).zip ((evalEach [ve] X.env).map fun v => do let x ← v; standAt pos; pure x) = [(eval ke X.env, (do let x ← eval ve X.env; standAt pos; pure x))].map fun p => (some p.1, p.2) := by rfl) :
    PE X (.Dict [some ke] [ve] pos) (uDisp1 X.prog X.w tk tv) := by
  refine ⟨fun pins s σ H Q I h => ?_⟩
  have hn := I.hok.fresh (Nat.le_refl s.heap.objs.size)
  have I1 := I.laid (a := s.heap.objs.size) (o := NdO X.prog X.w s.heap.objs.size []) (h' := s.heap.push { cls := .type "dict", data := .dict #[] }) (t' := s.toks) (fun _ _ q => Heap.get?_push_of_some _ q) (Nat.le_refl _) (nd_empty s.heap I.big)
  have h1 : PPs X pos [some ke] [ve] [(tk, tv)] := pps_cons hk hv pps_nil
  have trees : pairTrees [some ke] [ve] X.env pos = [(eval ke X.env, (do let x ← eval ve X.env; standAt pos; pure x))] := by rfl
  have run := h1.run pins _ σ _ (fun ps H2 => match ps with
    | [(x, y)] => ∃ k b, x = .ref b ∧ H2 s.heap.objs.size = some (NdO X.prog X.w s.heap.objs.size []) ∧ NkV H2 k (.ref b) ∧ k.depth ≤ 8 ∧ Q (.ref s.heap.objs.size) (upd H2 s.heap.objs.size (NdO X.prog X.w s.heap.objs.size [(k, b, y)]))
    | _ => False) I1 (h _ hn)
  rw [trees] at run
  rw [arm_eval_Dict, shape, dictDisplay_pairs _ (by simp) (by simp)]
  refine wpAny_bind (wpAny_standAt (wpAny_bind (wpAny_subDictH (knd := nestedKind X.prog X.w) (show X.A.units + 8 < cLine by omega) (by simp) (thn run fun vs s2 hh => ?_))))
  obtain ⟨ps, H2, I2, rel, q⟩ := hh
  split at q
  · rename_i x y
    obtain ⟨k, b, rfl, e, kb, d, q⟩ := q
    cases rel with
    | @cons p1 q1 ps qs rr t =>
    cases t
    obtain ⟨u1, u2⟩ := q1
    obtain ⟨r1, r2⟩ := rr
    cases (show u1 = Value.ref b from r1)
    obtain ⟨z, l, ys, rr, D⟩ := NdAt.get I2.hok (xs := []) ⟨e, fun _ hx => nomatch hx⟩
    cases rr
    refine ⟨[(k, b, u2)], ⟨rfl, rfl, nk_key I2.hok kb d, True.intro⟩, D, fun h' tk' D' hs => wpAny_pure ⟨.ref s.heap.objs.size, _, ?_, rfl, q⟩⟩
    have he : ∃ q, h'.get? s.heap.objs.size = some q := let ⟨q, _, _, hq, _⟩ := D'; ⟨q, hq⟩
    exact d_write I2 (by rw [e]; exact True.intro) hs he (ndO_ok (ys := [(k, b, u2)]) z (by rw [sizeLine_eq]; exact (by decide : (1 : Nat) ≤ 16777216)) (.cons ⟨rfl, rfl, r2⟩ .nil) D')
  · exact q.elim
end
/-! sorted(t), t a tuple of ints -/
section
open PyProof.Rows
variable {P : Program} {w : World} {A : Around} {E : Value → Shared → Prop} {s : Shared}
theorem collect_tup {l : Addr} {vs : List Value} {Q : List Value → Shared → Prop} (hl : s.heap.IsTuple l vs.toArray) (hsz : vs.length ≤ sizeLine)
    (h : Q vs { s with heap := (s.heap.push (seqObj "list" #[] 0)).update s.heap.objs.size (Obj.mapSeq (· ++ vs.toArray)) }) :
    wpAny (model P w) A (collect (.ref l)) Q E s := by
  obtain ⟨o, ho, hc, n, hd⟩ := id hl
  unfold collect
  refine wpAny_bind (wpAny_runValue (codeAny_builtin entry_proto_collect' ?_))
  show wpAny _ _ (do again (.builtin "list.__iadd__" ⟨[← newList [], .ref l], []⟩)) _ _ s
  refine wpAny_bind (wpAny_newList (wpAny_pure ⟨Code.quiet_builtin _ (by decide +kernel), codeAny_builtin entry_list_iadd' ?_⟩))
  show wpAny _ _ (Builtin.List.listExtendWith (.ref s.heap.objs.size) (.ref l) (.ref s.heap.objs.size)) _ _ { s with heap := s.heap.push (seqObj "list" #[] 0) }
  unfold Builtin.List.listExtendWith
  have ho' : (s.heap.push (seqObj "list" #[] 0)).get? l = some o := Heap.get?_push_of_some _ ho
  refine wpAny_bind (wpAny_typeOf (T := "tuple") ⟨o, ho', hc⟩ ?_)
  have ht : (Value.type "tuple" == Value.type "tuple") = true := by rfl
  rw [if_pos (by rw [ht]; simp)]
  refine wpAny_bind (listItems_at ho' hd ?_)
  refine wpAny_bind (listItems_at (xs := #[]) (n := 0) (Heap.get?_push_size _ rfl) rfl ?_)
  rw [if_neg (by simp)]
  refine wpAny_bind (listUpdate_at (xs := #[]) (n := 0) (Heap.get?_push_size _ rfl) rfl ?_ (Nat.zero_le _) (by show (#[] ++ vs.toArray).size ≤ sizeLine + 1; simp only [Array.size_append, List.size_toArray, List.length_nil]; omega))
  refine wpAny_pure ?_
  show wpAny (model P w) A (do
      let o ← load s.heap.objs.size
      match o.data with
      | .seq xs _ => pure xs.toList
      | _ => unsupported "internal:collect") Q E { s with heap := (s.heap.push (seqObj "list" #[] 0)).update s.heap.objs.size (Obj.mapSeq (· ++ vs.toArray)) }
  refine wpAny_bind (wpAny_load (get?_update_seq (Heap.get?_push_size _ rfl) _) ?_)
  show wpAny _ _ (pure ((#[] : Array Value) ++ vs.toArray).toList) Q E _
  rw [show ((#[] : Array Value) ++ vs.toArray).toList = vs by simp]
  exact wpAny_pure h
theorem sorted_of_tup {l : Addr} {vs : List Value} {ns : List Int} {Q : Value → Shared → Prop} (hl : s.heap.IsTuple l vs.toArray) (hsz : vs.length ≤ sizeLine) (areI : IntsAre vs ns)
    (fin : ∀ (h' : Heap) (p : Addr) (out : Array Value) (c : Nat) (ns' : List Int), (∀ b o, s.heap.get? b = some o → h'.get? b = some o) → s.heap.objs.size ≤ p → h'.get? p = some (seqObj "list" out c) → IntsAre out.toList ns' → ns'.Perm ns → ns'.Pairwise (· ≤ ·) → Q (.ref p) { s with heap := h' }) :
    wpAny (model P w) A (call (.builtin "sorted") [.ref l]) Q E s := by
  refine Calls.call_function_entry kind_sorted plain_sorted entry_sorted (args_sorted1 _) ?_
  unfold Builtin.«sorted»
  refine wpAny_bind (m := checkCount "sorted" 1 1 _) (wpAny_pure ?_)
  refine wpAny_bind (collect_tup hl hsz ?_)
  have k1 : ∀ b o, s.heap.get? b = some o → ((s.heap.push (seqObj "list" #[] 0)).update s.heap.objs.size (Obj.mapSeq (· ++ vs.toArray))).get? b = some o := fun b o q => by
    rw [Heap.get?_update_ne _ _ _ _ (Nat.ne_of_lt (Heap.lt_size q))]
    exact Heap.get?_push_of_some _ q
  have big : s.heap.objs.size ≤ ((s.heap.push (seqObj "list" #[] 0)).update s.heap.objs.size (Obj.mapSeq (· ++ vs.toArray))).objs.size := by
    rw [Heap.size_update, size_push']; omega
  generalize (s.heap.push (seqObj "list" #[] 0)).update s.heap.objs.size (Obj.mapSeq (· ++ vs.toArray)) = h1 at k1 big ⊢
  refine wpAny_bind (wpAny_newList ?_ hsz)
  have at1 : (h1.push (seqObj "list" vs.toArray 0)).get? h1.objs.size = some (seqObj "list" vs.toArray 0) := Heap.get?_push_size _ rfl
  refine wpAny_bind (wpAny_holding (wpAny_call_entry slot_list_sort ⟨_, at1, rfl⟩ entry_list_sort
    (SrtO.list_sort_ord SrtO.swo_int at1 hsz (fun h2 => SrtO.ints_sortable areI h2) fun out z1 z2 => ⟨_, rfl, ?_⟩) (args_list_sort _)))
  obtain ⟨j1, j2, j3⟩ := SrtO.ints_out areI z1 z2
  obtain ⟨c, hc⟩ := sortedHeap_at (vs := vs) (out := out.toArray) at1
  refine wpAny_pure ⟨_, rfl, fin _ h1.objs.size out.toArray c (out.map SrtO.iv) (fun b u e => ?_) big hc (by simpa using j1) j2 j3⟩
  have q := k1 b u e
  have lt := Heap.lt_size q
  rw [sortedHeap_old (Nat.ne_of_lt lt) (by rw [size_push']; exact Nat.lt_succ_of_lt lt)]
  exact Heap.get?_push_of_some _ q
end
section
variable {X : Cx}
def rSortTup (K : PySem.W.Frag) : List V → Hp → VK → Prop := fun xs H Q => ∃ (l : Addr) (ns : List Int), xs = [.ref l] ∧ SqT K H l (ns.map V.int) ∧
  ∀ (ns' : List Int) (p : Addr), ns'.Perm ns → ns'.Pairwise (· ≤ ·) → H p = none → Q (.ref p) (upd H p (.lst (ns'.map V.int)))
theorem cu_sortTup : CallR X (.builtin "sorted") (rSortTup X.K) := by
  intro pins s σ H vs us Q I r h
  obtain ⟨l, ns, rfl, hq, q⟩ := h
  rw [Vals.ref1 r]
  obtain ⟨its, rv, p, hz⟩ := I.tuple hq
  have areI : IntsAre its ns := rv.ints
  refine sorted_of_tup (show s.heap.IsTuple l its.toArray from p) (by rw [← rv.length]; exact hz) areI fun h' p' out c ns' k big got a1 a2 a3 => ?_
  have line : (ns'.map V.int).length ≤ sizeLine := by rw [List.length_map, a2.length_eq]; rw [List.length_map] at hz; exact hz
  have new : H p' = none := I.hok.fresh big
  exact ⟨.ref p', upd H p' (.lst (ns'.map V.int)), I.laid (t' := s.toks) k big ⟨line, out.toList, c, vals_of_ints a1, got⟩, rfl, q ns' p' a2 a3 new⟩
/-- sorted(d), d a dict whose keys are ints, of any size -/
def uSortDict : List V → Hp → VK → Prop := fun xs H Q => ∃ (a : Addr) (kvs : List (L2.Key × V)) (ks : List Int), xs = [.ref a] ∧ H a = some (.dK kvs) ∧ kvs.map (·.1) = ks.map Sum.inl ∧
  ∀ (ys : List Int) (p : Addr), ys.Perm ks → ys.Pairwise (· ≤ ·) → H p = none → Q (.ref p) (upd H p (.lst (ys.map V.int)))
theorem ints_each' : ∀ {us : List Value} {ks : List Int}, us.length = ks.length → (∀ (j : Nat) (v : Value), us[j]? = some v → ∃ (x : Int) (t : _), ks[j]? = some x ∧ v = .int x t) → IntsAre us ks
  | [], [], _, _ => .nil
  | u :: us, k :: ks, hl, h => by
    obtain ⟨x, t, e1, e2⟩ := h 0 u rfl
    have e1' : k = x := Option.some.inj e1
    subst e1'
    subst e2
    refine .cons _ _ (ints_each' (by simpa using hl) fun j v e => ?_)
    obtain ⟨x, t, a, b⟩ := h (j + 1) v (by simpa using e)
    exact ⟨x, t, by simpa using a, b⟩
  | [], _ :: _, hl, _ => by simp at hl
  | _ :: _, [], hl, _ => by simp at hl
theorem cu_sortDict (hcalm : X.calm = true) : CallR X (.builtin "sorted") uSortDict := by
  intro pins s σ H xs us Q I r q
  obtain ⟨a, kvs, ks, rfl, hd, hks, q⟩ := q
  rw [Vals.ref1 r]
  obtain ⟨z, lo, vs, rel, dd⟩ := dk_rd I.hok (.inl hd)
  obtain ⟨ep, hat⟩ := dd.dictAt
  have hkeys : vs.map (·.1) = ks.map Sum.inl := rel.keys.symm.trans hks
  have hl : vs.length = ks.length := by
    have e := congrArg List.length hkeys
    rw [List.length_map, List.length_map] at e
    exact e
  have h16 : vs.length ≤ sizeLine := by rw [← rel.length]; exact z
  refine Calls.call_function_entry kind_sorted plain_sorted entry_sorted (args_sorted1 _) ?_
  unfold Builtin.«sorted»
  refine wpAny_bind (m := checkCount "sorted" 1 1 _) (wpAny_pure ?_)
  refine wpAny_bind (PySem.W.kdu_collect (A := X.A.in1) (PySem.W.kdl_dict (knd := mixKind X.prog X.w) (kvs := vs) (ep := ep) lo) (I.ok.hd hcalm) hat h16 fun h' tk acc hk hacc => ?_)
  have hal : acc.toList.length = ks.length := by rw [Array.length_toList, hacc.1, hl]
  have areI : IntsAre acc.toList ks := ints_each' hal fun j v e => by
    obtain ⟨k, x, e1, e2⟩ := hacc.2 j v (by rw [← Array.getElem?_toList]; exact e)
    have e3 : (vs.map (·.1))[j]? = some k := by rw [List.getElem?_map, e1]; rfl
    rw [hkeys, List.getElem?_map] at e3
    cases e4 : ks[j]? with
    | none => rw [e4] at e3; cases e3
    | some y =>
      rw [e4] at e3
      have e5 : Sum.inl y = k := Option.some.inj e3
      subst e5
      rcases keyIs_shape (show keyIs (Sum.inl y) v = true from e2) with ⟨i, t, ek, ev⟩ | ⟨z, t, ek, ev⟩
      · cases ek
        exact ⟨y, t, rfl, ev⟩
      · cases ek
  have I1 : Inv X pins σ H { s with heap := h', toks := tk } := I.kept hk
  have hal2 : acc.toList.length ≤ sizeLine := by rw [hal, ← hl]; exact h16
  refine wpAny_bind (wpAny_newList ?_ hal2)
  have at1 : (h'.push (seqObj "list" acc.toList.toArray 0)).get? h'.objs.size = some (seqObj "list" acc.toList.toArray 0) := Heap.get?_push_size _ rfl
  show wpAny _ _ _ _ _ { s with heap := h'.push (seqObj "list" acc.toList.toArray 0), toks := tk }
  refine wpAny_bind (wpAny_holding (wpAny_call_entry slot_list_sort ⟨_, at1, rfl⟩ entry_list_sort
    (SrtO.list_sort_ord SrtO.swo_int (s := { s with heap := h'.push (seqObj "list" acc.toList.toArray 0), toks := tk }) at1 hal2 (fun h2 => SrtO.ints_sortable areI h2) fun out z1 z2 => ⟨_, rfl, ?_⟩) (args_list_sort _)))
  obtain ⟨j1, j2, j3⟩ := SrtO.ints_out areI z1 z2
  obtain ⟨c, hc⟩ := sortedHeap_at (vs := acc.toList) (out := out.toArray) at1
  have hlen : ((out.map SrtO.iv).map V.int).length ≤ sizeLine := by
    rw [List.length_map, j2.length_eq, ← hl]; exact h16
  refine wpAny_pure ⟨_, rfl, .ref h'.objs.size, upd H h'.objs.size (.lst ((out.map SrtO.iv).map V.int)), I1.laid (t' := tk) (fun b u e => ?_) (Nat.le_refl _)
    (show ObjOk X.prog X.w _ _ _ (.lst ((out.map SrtO.iv).map V.int)) from ⟨hlen, out, c, vals_of_ints j1, hc⟩), rfl, q _ _ j2 j3 (I1.hok.fresh (Nat.le_refl _))⟩
  have hb : b < h'.objs.size := Heap.lt_size e
  rw [sortedHeap_old (Nat.ne_of_lt hb) (by rw [size_push']; exact Nat.lt_succ_of_lt hb)]
  exact Heap.get?_push_of_some _ e
end
end Hm

/-! F2: rules by syntax alone (each a choice by values), and their readings. -/
namespace Hm
open PySem PySem.Spec PyProof.Rows L2

/-! ### choices by values -/
def bAdd (K : PySem.W.Frag) : R2 := fun x y H Q => rI0 (fun i j => .int (i + j)) x y H Q ∨ rCat x y H Q ∨
  (∃ i j, x = .str i ∧ y = .str j ∧ i.length + j.length ≤ sizeLine ∧ Q (.str (i ++ j)) H) ∨ rCatA K x y H Q
def bSub : R2 := rI0 fun i j => .int (i - j)
def bMul : R2 := fun x y H Q => rI CMul (fun i j => .int (i * j)) x y H Q ∨ rI CMulW (fun i j => .int (i * j)) x y H Q ∨ rRep x y H Q
def bMod : R2 := rI (fun _ j => 0 < j) fun i j => .int (i % j)
def bDiv : R2 := fun x y H Q => rI CDiv (fun i j => .int (i / j)) x y H Q ∨ rI CDivW (fun i j => .int (i / j)) x y H Q
def bPow : R2 := rI CPow fun i j => .int (i ^ j.toNat)
def bAnd : R2 := rI0 fun i j => .int (Builtin.bitAnd i j)
def bXor : R2 := rI0 fun i j => .int (Builtin.bitXor i j)
def cEq (K : PySem.W.Frag) : R2 := fun x y H Q => rEq x y H Q ∨ rEqD K x y H Q
def cNe (K : PySem.W.Frag) : R2 := fun x y H Q => rNe x y H Q ∨ rNeD K x y H Q
def cLt (K : PySem.W.Frag) : R2 := fun x y H Q => rI0 (fun i j => .bl (decide (i < j))) x y H Q ∨
  (∃ i j, x = .str i ∧ y = .str j ∧ Q (.bl (decide (i.cps.toList < j.cps.toList))) H) ∨ rLtT K x y H Q
def cLe : R2 := rI0 fun i j => .bl (decide (i ≤ j))
def cGt : R2 := rI0 fun i j => .bl (decide (j < i))
def cGe : R2 := rI0 fun i j => .bl (decide (j ≤ i))
def cIs : R2 := fun x y H Q => (y = .non ∧ Q (.bl (decide (x = .non))) H) ∨ rIsB x y H Q
def cIsNot : R2 := fun x y H Q => (y = .non ∧ Q (.bl (!decide (x = .non))) H) ∨ rNotB x y H Q
def cIn (P : Program) (w : World) (K : PySem.W.Frag) : R2 := fun x y H Q => rIn K false x y H Q ∨ rInD K x y H Q ∨ rInS x y H Q ∨ uDIn false x y H Q ∨ uNIn P w false x y H Q
def cNotIn (P : Program) (w : World) (K : PySem.W.Frag) : R2 := fun x y H Q => rIn K true x y H Q ∨ rNotInD K x y H Q ∨ rNotInS x y H Q ∨ uDIn true x y H Q ∨ uNIn P w true x y H Q
def bIx (P : Program) (w : World) (K : PySem.W.Frag) : R2 := fun x y H Q => rIxL K x y H Q ∨ rIxT K x y H Q ∨ rIxS x y H Q ∨ uDIx x y H Q ∨ uNIx P w x y H Q
def bSet (P : Program) (w : World) : TSet := fun o i v H Q => rSetL o i v H Q ∨ uDSet o i v H Q ∨ uNSet P w o i v H Q
def kLen (K : PySem.W.Frag) : List V → Hp → VK → Prop := fun xs H Q => (∃ x n, xs = [x] ∧ LenV K x H n ∧ Q (.int n) H) ∨ (∃ a kvs, xs = [V.ref a] ∧ H a = some (.dK kvs) ∧ Q (.int kvs.length) H)
def kList (K : PySem.W.Frag) : List V → Hp → VK → Prop := fun xs H Q => (∃ p ys, xs = [.ref p] ∧ (SqL K H p ys ∨ SqT K H p ys) ∧ ∀ l, H l = none → Q (.ref l) (upd H l (.lst ys))) ∨ rListD xs H Q
def kTuple (K : PySem.W.Frag) : List V → Hp → VK → Prop := fun xs H Q => ∃ p ys, xs = [.ref p] ∧ ((SqL K H p ys ∧ ∀ l, H l = none → Q (.ref l) (upd H l (.tup ys))) ∨ (SqT K H p ys ∧ Q (.ref p) H))
def kSorted (K : PySem.W.Frag) (w : World) : List V → Hp → VK → Prop := fun xs H Q => rSortedI K xs H Q ∨ uSortSet w xs H Q ∨ rSortTup K xs H Q ∨ uSortDict xs H Q
def kMax (K : PySem.W.Frag) : List V → Hp → VK → Prop := fun xs H Q => (∃ i j, xs = [.int i, .int j] ∧ Q (.int (if j > i then j else i)) H) ∨ rMax K xs H Q
def kMin (K : PySem.W.Frag) : List V → Hp → VK → Prop := fun xs H Q => (∃ i j, xs = [.int i, .int j] ∧ Q (.int (if j < i then j else i)) H) ∨ rMin K xs H Q
def kAbs : List V → Hp → VK → Prop := fun xs H Q => ∃ i, xs = [.int i] ∧ Q (.int (if i < 0 then -i else i)) H
def kInt : List V → Hp → VK → Prop := fun xs H Q => (∃ i, xs = [.int i] ∧ Q (.int i) H) ∨ ∃ k, xs = [.bl k] ∧ Q (.int (if k then 1 else 0)) H
def tTru (K : PySem.W.Frag) (ta : TE) : TT := fun σ H Q => ta σ H fun x H' => ∃ k, TruV K x H' k ∧ Q k H'
def bSl (K : PySem.W.Frag) : V → Option Int → Option Int → Hp → VK → Prop := fun x lo hi H Q => rSlL K x lo hi H Q ∨ rSlA K x lo hi H Q
/-- (a, b) = a tuple or a list of that length -/
def gSeq (K : PySem.W.Frag) (n : Nat) (t : TGs) : TG := fun v σ H Q => gTup K n t v σ H Q ∨ gUnl K n t v σ H Q
def kInsert : V → List V → Hp → VK → Prop := fun x vs H Q => ∃ (l : Addr) (xs : List V) (i : Int) (y : V), x = .ref l ∧ vs = [.int i, y] ∧ H l = some (.lst xs) ∧ xs.length < sizeLine ∧ 0 ≤ i ∧ i < 2 ^ 63 ∧
    Q .non (upd H l (.lst (xs.take i.toNat ++ [y] ++ xs.drop i.toNat)))
def kIndex (K : PySem.W.Frag) : V → List V → Hp → VK → Prop := fun x xs H Q => rIndex K x xs H Q ∨ rIndexD K x xs H Q

def rTupIndex (K : PySem.W.Frag) : V → List V → Hp → VK → Prop := fun x xs H Q => ∃ p, ∃ ys : List Str, ∃ z j, x = .ref p ∧ xs = [.str z] ∧ SqT K H p (ys.map V.str) ∧ ys[j]? = some z ∧ (∀ m, m < j → ys[m]? ≠ some z) ∧ Q (.int (j : Nat)) H

section
variable {X : Cx}
theorem hu64 {k : Nat} {A : Around} (hr : Room k A) : A.units + 64 < cLine := hr.units
theorem hu1 {k : Nat} {A : Around} (hr : Room k A) : A.units + 1 < cLine := by have := hr.un; omega
theorem hu65 {k : Nat} {A : Around} (hr : Room k A) : A.units + 65 < cLine := by have := hr.un; omega
theorem o_add : OpR X (binaryOp .Add) (bAdd X.K) := op_add.or (op_cat.or (op_add_str.or op_catA))
theorem o_sub : OpR X (binaryOp .Sub) bSub := op_sub
theorem o_mul : OpR X (binaryOp .Mult) bMul := op_mul.or (op_mulW.or op_rep)
theorem o_mod : OpR X (binaryOp .Mod) bMod := op_mod
theorem o_div : OpR X (binaryOp .FloorDiv) bDiv := op_fdiv.or op_fdivW
theorem o_pow : OpR X (binaryOp .Pow) bPow := op_pow
theorem o_and : OpR X (binaryOp .BitAnd) bAnd := op_and
theorem o_xor : OpR X (binaryOp .BitXor) bXor := op_xor
theorem o_eq (hu : X.A.units + 64 < cLine) : OpR X (compareOp .Eq) (cEq X.K) := op_eq.or (op_eqD hu)
theorem o_ne (hu : X.A.units + 64 < cLine) : OpR X (compareOp .NotEq) (cNe X.K) := op_ne.or (op_neD hu)
theorem o_lt (hu : X.A.units + 64 < cLine) : OpR X (compareOp .Lt) (cLt X.K) := op_lt.or (op_lt_str.or (op_ltT (by omega)))
theorem o_le : OpR X (compareOp .LtE) cLe := op_le
theorem o_gt : OpR X (compareOp .Gt) cGt := op_gt
theorem o_ge : OpR X (compareOp .GtE) cGe := op_ge
theorem o_is : OpR X (compareOp .Is) cIs := op_isN.or op_isBl
theorem o_isnot : OpR X (compareOp .IsNot) cIsNot := op_notN.or op_notBl
theorem o_in (hu : X.A.units + 65 < cLine) : OpR X (compareOp .In) (cIn X.prog X.w X.K) := op_in_seq.or ((op_inD hu).or (op_inS.or ((ou_din (by omega)).or (ou_nin (by omega)))))
theorem o_notin (hu : X.A.units + 65 < cLine) : OpR X (compareOp .NotIn) (cNotIn X.prog X.w X.K) := op_notIn_seq.or ((op_notInD hu).or (op_notInS.or ((ou_dnotin (by omega)).or (ou_nnotin (by omega)))))
theorem x_ix (hu : X.A.units + 64 < cLine) : IxR X (bIx X.prog X.w X.K) := ix_list.or (ix_tup.or (ix_str.or ((ix_d hu).or (ix_nd hu))))
theorem s_set (hu : X.A.units + 64 < cLine) : PSet X (bSet X.prog X.w) := PSet.or set_list (PSet.or (set_d hu) (set_nd hu))
theorem k_len : CallR X (.builtin "len") (kLen X.K) := call_len.or call_lenD
theorem k_list (hc : X.calm = true) : CallR X (.type "list") (kList X.K) := call_list_of.or (call_list_dK hc)
theorem k_tuple : CallR X (.type "tuple") (kTuple X.K) := call_tuple_of
theorem k_sorted (hc : X.calm = true) : CallR X (.builtin "sorted") (kSorted X.K X.w) := cr_sortedI.or ((cu_sortSet hc).or (cu_sortTup.or (cu_sortDict hc)))
theorem k_set (hc : X.calm = true) : CallR X (.type "set") (uSetI X.K X.w) := cu_setI hc
theorem k_max (hc : X.calm = true) : CallR X (.builtin "max") (kMax X.K) := (call_max2 hc).or (cr_max hc)
theorem k_min (hc : X.calm = true) : CallR X (.builtin "min") (kMin X.K) := (call_min2 hc).or (cr_min hc)
theorem k_abs : CallR X (.builtin "abs") kAbs := call_abs
theorem k_int : CallR X (.type "int") kInt := call_int1
theorem k_isi : CallR X (.builtin "isinstance") (rIsi X.K) := call_isi
theorem p_tru {a : Expr} {ta : TE} (ha : PE X a ta) (he : ∀ whole, isTrue a X.env whole = (do let v ← whole; standAt a.pos; holding [v] (truthy v)) := by intro _; rfl) : PT X a (tTru X.K ta) := pt_truth ha he
theorem s_sl : SlR X (bSl X.K) := sl_list.or sl_tupA
theorem g_seq {es : List Expr} {k : Nat} {t : TGs} {n : Nat} {pos : Pos} (hc : X.calm = true) (h : PGs X es t)
    (hn : (assignEach es X.env).length = n := by rfl) (hst : (assignEach es X.env).findIdx? (·.1) = none := by rfl) : PG X (.Tuple es k pos) (gSeq X.K n t) := by
  refine ⟨fun pins s σ H v u Q I r hw => ?_⟩
  rcases hw with hw | hw
  · exact (pg_tup hc h hn hst).run pins s σ H v u Q I r hw
  · exact (pg_unl hc h hn hst).run pins s σ H v u Q I r hw
/-- what a for walks, by its value -/
def kIter (K : PySem.W.Frag) (x : V) (H : Hp) (R : It → Hp → Prop) : Prop := (∃ a, x = .ref a ∧ (∃ xs, SqL K H a xs) ∧ R (Itl K a) H) ∨ (∃ a, x = .ref a ∧ (∃ xs, SqT K H a xs) ∧ R (Itt K a) H) ∨ ∃ z, x = .str z ∧ R (Its z) H
def iAny (K : PySem.W.Frag) (tl : TE) : TI := fun σ H R => tl σ H fun x H1 => kIter K x H1 R
theorem pi_any {tg l : Expr} {tl : TE} (hl : PE X l tl) : PI X tg l (iAny X.K tl) := by
  refine ⟨fun pins s σ H R I h => thn (hl.run pins s σ H _ I h) fun v s1 ⟨x, H1, I1, r1, q1⟩ => ?_⟩
  have own : ∀ {Q : Hp}, Inv X pins σ Q s1 → ∀ b ∈ [s1.heap.objs.size], FpOk X pins Q b := fun J b hb => by
    cases List.mem_singleton.mp hb
    exact J.fpOk (Nat.le_refl _) (J.hok.fresh (Nat.le_refl _))
  rcases q1 with ⟨a, rfl, ⟨xs, hq⟩, q⟩ | ⟨a, rfl, ⟨xs, hq⟩, q⟩ | ⟨z, rfl, q⟩
  · cases r1
    obtain ⟨its, rv, p, hz⟩ := I1.list hq
    exact wpAny_pyIter_list p.isList ⟨_, [s1.heap.objs.size], _, _, H1, rfl, I1.kept (t' := s1.toks) fun b o e => Heap.get?_push_of_some _ e, turn_list a _, ⟨_, Heap.get?_push_size _ rfl, rfl, rfl⟩, own I1, q⟩
  · cases r1
    obtain ⟨its, rv, p, hz⟩ := I1.tuple hq
    exact wpAny_pyIter_tuple (show s1.heap.IsTuple a its.toArray from p) ⟨_, [s1.heap.objs.size], _, _, H1, rfl, I1.kept (t' := s1.toks) fun b o e => Heap.get?_push_of_some _ e, turn_tuple a _, ⟨_, Heap.get?_push_size _ rfl, rfl, rfl⟩, own I1, q⟩
  · obtain ⟨t, rfl⟩ := r1
    cases ha : z.cps.all (· < 128)
    · exact wpAny_pyIter_wide ha (pi_one (tk := s1.toks) I1 _ (turn_str _ z t "str_iterator" (.inr rfl)) ⟨_, Heap.get?_push_size _ rfl, rfl, rfl⟩ q)
    · exact wpAny_pyIter_ascii ha (pi_one (tk := s1.toks) I1 _ (turn_str _ z t "str_ascii_iterator" (.inl rfl)) ⟨_, Heap.get?_push_size _ rfl, rfl, rfl⟩ q)
theorem mt_kindex (hu : X.A.units + 65 < cLine) : MtR X "list.index" (kIndex X.K) := mt_index.or (mt_indexD hu)
end
/-! ### defs, methods, classes of the text, by their promises -/
structure Cal (P : Program) (w : World) (K : PySem.W.Frag) (mg : Str → Option Value) (base : Heap) (CX : CXT) (k : Nat) (x : Str) (sp : Sp) : Prop where
  ex : ∃ (f : Addr) (fd : FuncData) (ps : List Str), FnOk P w K mg base CX k f fd ps sp ∧ mg x = some (.ref f) ∧ PySem.W.keepIn K (.ref f) = true ∧ Binds K fd ps []
structure Met (P : Program) (w : World) (K : PySem.W.Frag) (mg : Str → Option Value) (base : Heap) (CX : CXT) (k : Nat) (C : Addr) (m : Str) (sp : Sp) : Prop where
  ex : ∃ (f : Addr) (fd : FuncData) (ps : List Str), Cls K C ∧ Meth K C m f ∧ FnOk P w K mg base CX k f fd ps sp ∧ Binds K fd ps []
structure Mak (P : Program) (w : World) (K : PySem.W.Frag) (mg : Str → Option Value) (base : Heap) (CX : CXT) (k : Nat) (x : Str) (C : Addr) (sp : Sp) : Prop where
  ex : ∃ (f : Addr) (fd : FuncData) (ps : List Str), Mk K C f ∧ FnOk P w K mg base CX k f fd ps sp ∧ mg x = some (.ref C) ∧ Binds K fd ps []
section
variable {X : Cx} {CX : CXT} {E : XK} {k j : Nat} {C : Addr} {x m : Str} {sp : Sp} {p pos apos : Pos} {e o : Expr} {es : List Expr} {ta : TE} {t : TA}
theorem e_call (c : Cal X.prog X.w X.K X.mg X.base CX k x sp) (hr : Room j X.A) (hk : k ≤ j) (hx : Passes CX X E) (hg : Gl X x) (ha : PA X (e :: es) t)
    (hdb : (x == ("__debug__" : Str)) = false := by decide) (he : starEach (e :: es) X.env = (false, eval e X.env) :: starEach es X.env := by rfl) (hpl : (backTo pos (starEach es X.env)).any (·.1) = false := by rfl) :
    PE X (.Call (.Name x p) (e :: es) [] pos) (tCall sp [] E t) := by
  obtain ⟨f, fd, ps, F, hm, kp, b⟩ := c.ex
  exact pe_call F (hr.mono hk) hg hm kp b .nil hx ha hdb he hpl
theorem e_call0 (c : Cal X.prog X.w X.K X.mg X.base CX k x sp) (hr : Room j X.A) (hk : k ≤ j) (hx : Passes CX X E) (hg : Gl X x) (hdb : (x == ("__debug__" : Str)) = false := by decide) :
    PE X (.Call (.Name x p) [] [] pos) (tCall sp [] E tNil) := by
  obtain ⟨f, fd, ps, F, hm, kp, b⟩ := c.ex
  exact pe_call0 F (hr.mono hk) hg hm kp b .nil hx hdb
theorem e_make (c : Mak X.prog X.w X.K X.mg X.base CX k x C sp) (hr : Room j X.A) (hk : k + 1 ≤ j) (hx : Passes CX X E) (hg : Gl X x) (ha : PA X (e :: es) t)
    (hdb : (x == ("__debug__" : Str)) = false := by decide) (he : starEach (e :: es) X.env = (false, eval e X.env) :: starEach es X.env := by rfl) (hpl : (backTo pos (starEach es X.env)).any (·.1) = false := by rfl) :
    PE X (.Call (.Name x p) (e :: es) [] pos) (tMake C sp [] E t) := by
  obtain ⟨f, fd, ps, M, F, hm, b⟩ := c.ex
  exact pe_make M F (hr.mono hk) hg hm b .nil hx ha hdb he hpl
theorem e_make0 (c : Mak X.prog X.w X.K X.mg X.base CX k x C sp) (hr : Room j X.A) (hk : k + 1 ≤ j) (hx : Passes CX X E) (hg : Gl X x) (hdb : (x == ("__debug__" : Str)) = false := by decide) :
    PE X (.Call (.Name x p) [] [] pos) (tMake C sp [] E tNil) := by
  obtain ⟨f, fd, ps, M, F, hm, b⟩ := c.ex
  exact pe_make0 M F (hr.mono hk) hg hm b .nil hx hdb
theorem e_meth {pl : Sem Bool} (c : Met X.prog X.w X.K X.mg X.base CX k C m sp) (hr : Room j X.A) (hk : k ≤ j) (hx : Passes CX X E) (he : PE X o ta) (ha : PA X (e :: es) t)
    (h1 : starEach (e :: es) X.env = (false, eval e X.env) :: starEach es X.env := by rfl) (h2 : (backTo pos (starEach es X.env)).any (·.1) = false := by rfl)
    (h3 : eval (.Call (.Attribute o m apos) (e :: es) [] pos) X.env = (do let ov ← eval o X.env; standAt apos.atName; let (f, first) ← holding [ov] (getMethod ov m pl)
                                                                          callWith pos f first (backTo pos (starEach (e :: es) X.env)) (backToKw pos (keywordEach [] X.env))) := by rfl) :
    PE X (.Call (.Attribute o m apos) (e :: es) [] pos) (tMeth C m sp [] E ta t) := by
  obtain ⟨f, fd, ps, hc, hm, F, b⟩ := c.ex
  exact pe_meth (pl := pl) he hc hm F (hr.mono hk) b .nil hx ha h1 h2 h3
theorem e_meth0 {pl : Sem Bool} (c : Met X.prog X.w X.K X.mg X.base CX k C m sp) (hr : Room j X.A) (hk : k ≤ j) (hx : Passes CX X E) (he : PE X o ta)
    (h3 : eval (.Call (.Attribute o m apos) [] [] pos) X.env = (do let ov ← eval o X.env; standAt apos.atName; let (f, first) ← holding [ov] (getMethod ov m pl)
                                                                   callWith pos f first (backTo pos (starEach [] X.env)) (backToKw pos (keywordEach [] X.env))) := by rfl) :
    PE X (.Call (.Attribute o m apos) [] [] pos) (tMeth C m sp [] E ta tNil) := by
  obtain ⟨f, fd, ps, hc, hm, F, b⟩ := c.ex
  exact pe_meth0 (pl := pl) he hc hm F (hr.mono hk) b .nil hx h3
end
end Hm

/-! F3: readings, one lemma a head. -/
namespace Hm
open PySem L2

/-! ### heaps -/
/-- what stood stands, but for the cells of M -/
def Keep (M : Addr → Prop) (H H' : Hp) : Prop := ∀ a o, ¬ M a → H a = some o → H' a = some o
abbrev Nil : Addr → Prop := fun _ => False
theorem Keep.refl {M : Addr → Prop} {H : Hp} : Keep M H H := fun _ _ _ h => h
theorem Keep.trans {M : Addr → Prop} {H H1 H2 : Hp} (a : Keep M H H1) (b : Keep M H1 H2) : Keep M H H2 := fun c o n h => b c o n (a c o n h)
theorem Keep.mono {M N : Addr → Prop} {H H' : Hp} (k : Keep M H H') (s : ∀ a, M a → N a) : Keep N H H' := fun a o n h => k a o (fun z => n (s a z)) h
theorem Keep.weak {M : Addr → Prop} {H H' : Hp} (k : Keep Nil H H') : Keep M H H' := k.mono fun _ z => z.elim
theorem Keep.new {M : Addr → Prop} {H H' : Hp} {p : Addr} {o : HO} (k : Keep M H H') (hp : H' p = none) : Keep M H (upd H' p o) := fun a u n h => by
  rw [upd_ne (ne_of_none (k a u n h) hp)]; exact k a u n h
theorem Keep.alloc {M : Addr → Prop} {H : Hp} {p : Addr} {o : HO} (hp : H p = none) : Keep M H (upd H p o) := Keep.refl.new hp
theorem Keep.set {M : Addr → Prop} {H H' : Hp} {p : Addr} {o : HO} (k : Keep M H H') (hp : M p) : Keep M H (upd H' p o) := fun a u n h => by
  rw [upd_ne (fun z => n (by rw [z]; exact hp))]; exact k a u n h
/-- a cell that was new at the start may be forgotten -/
theorem Keep.hide {M : Addr → Prop} {H H' : Hp} {l : Addr} (k : Keep (fun a => M a ∨ a = l) H H') (hl : H l = none) : Keep M H H' := fun a o n h =>
  k a o (fun z => z.elim n fun e => by rw [e, hl] at h; cases h) h
theorem Keep.setN {M : Addr → Prop} {H H' : Hp} {p : Addr} {o : HO} (k : Keep M H H') (hp : H p = none) : Keep M H (upd H' p o) := fun a u n h => by
  rw [upd_ne (fun z => by rw [z, hp] at h; cases h)]; exact k a u n h
theorem Keep.get {M : Addr → Prop} {H H' : Hp} {a : Addr} {o : HO} (k : Keep M H H') (n : ¬ M a) (h : H a = some o) : H' a = some o := k a o n h
theorem is_upd {H : Hp} {p a : Addr} {o : HO} {v : Option HO} (e : upd H p o a = v) : upd H p o a = v := e
theorem upd_at {H : Hp} {p : Addr} {o o' : HO} (e : o = o') : upd H p o p = some o' := by rw [upd_same, e]
theorem get_new {H : Hp} {a p : Addr} {o u : HO} (hp : H p = none) (h : H a = some o) : upd H p u a = some o := by rw [upd_ne (ne_of_none h hp)]; exact h
theorem get_set {H : Hp} {a p : Addr} {o u : HO} (n : a ≠ p) (h : H a = some o) : upd H p u a = some o := by rw [upd_ne n]; exact h
theorem get_setK {H : Hp} {a p : Addr} {o u u0 : HO} (hp : H p = some u0) (h : H a = some o) (d : o ≠ u0) : upd H p u a = some o := get_set (ne_of h hp d) h
theorem ne_old {H : Hp} {a p : Addr} {o : HO} (hp : H p = none) (h : H a = some o) : a ≠ p := ne_of_none h hp
theorem ne_new {H : Hp} {a p : Addr} {o : HO} (hp : H p = none) (h : H a = some o) : p ≠ a := (ne_of_none h hp).symm
theorem none_of_upd {H : Hp} {a p : Addr} {o : HO} (h : upd H p o a = none) : H a = none := by
  unfold upd at h; split at h
  · cases h
  · exact h
theorem none_ne {H : Hp} {a p : Addr} {o : HO} (h : upd H p o a = none) : a ≠ p := fun z => by rw [z, upd_same] at h; cases h
theorem none_ne' {H : Hp} {a p : Addr} {o : HO} (h : upd H p o a = none) : p ≠ a := (none_ne h).symm

theorem seq_keep {K : PySem.W.Frag} {H H' : Hp} {a : Addr} {xs : List V} (k : Keep Nil H H') (h : SqL K H a xs) : SqL K H' a xs := Same.seq (fun b o e => k b o (fun z => z) e) h
theorem seq_new {K : PySem.W.Frag} {H : Hp} {a p : Addr} {o : HO} {xs : List V} (hp : H p = none) (h : SqL K H a xs) : SqL K (upd H p o) a xs := seq_keep (Keep.alloc hp) h
theorem keep_none {H H' : Hp} {p : Addr} (k : Keep Nil H H') (h : H' p = none) : H p = none := by
  cases e : H p with
  | none => rfl
  | some o => rw [k p o (fun z => z) e] at h; cases h
section
variable {P : Program} {w : World} {K : PySem.W.Frag} {σ : St} {H : Hp} {Q : VK} {D : Ends} {C : Addr} {E : XK} {sp : Sp} {f m : Str}
variable {t u tb : TS} {te ta td tv : TE} {tt : TT} {tr : TA} {g : TG} {i j : Nat} {v x y : V} {r : R2}

/-! ### constants of the text -/
theorem gint {mg : Str → Option Value} {x : Str} {i : Int} (h : ∃ t, mg x = some (.int i t)) : ∃ u, mg x = some u ∧ RelV (.int i) u := by
  obtain ⟨t, e⟩ := h
  exact ⟨_, e, t, rfl⟩
theorem gstr {mg : Str → Option Value} {x z : Str} (h : ∃ t, mg x = some (.str z t)) : ∃ u, mg x = some u ∧ RelV (.str z) u := by
  obtain ⟨t, e⟩ := h
  exact ⟨_, e, t, rfl⟩
/-! ### statements -/
theorem absQ {S : Hp → Prop} {v : V} (h : S H) (k : ∀ HT, S HT → Q v HT) : Q v H := k H h
theorem absS {S : Hp → Prop} (h : S H) (k : ∀ HT, S HT → t D σ HT) : t D σ H := k H h

theorem absT {S : Hp → Prop} {R : Bool → Hp → Prop} (h : S H) (k : ∀ HT, S HT → tt σ HT R) : tt σ H R := k H h
theorem absE {S : Hp → Prop} (h : S H) (k : ∀ HT, S HT → te σ HT Q) : te σ H Q := k H h
theorem r_seq (h : t { D with nx := u D } σ H) : tSeq t u D σ H := h
theorem r_nx {n b c : L2.St → Hp → Prop} {rt : VK} (h : n σ H) : (Ends.mk n rt b c).nx σ H := h
theorem r_rt {n b c : L2.St → Hp → Prop} {rt : VK} (h : rt v H) : (Ends.mk n rt b c).rt v H := h
theorem r_bk {n b c : L2.St → Hp → Prop} {rt : VK} (h : b σ H) : (Ends.mk n rt b c).bk σ H := h
theorem r_ct {n b c : L2.St → Hp → Prop} {rt : VK} (h : c σ H) : (Ends.mk n rt b c).ct σ H := h
theorem r_next (h : D.nx σ H) : tNext D σ H := h
theorem r_asg (h : te σ H fun x H1 => g x σ H1 D.nx) : tAsg te g D σ H := h
theorem r_gname {Q : St → Hp → Prop} (h : Q (σ.set i (some v)) H) : gName i v σ H Q := h
theorem r_drop (h : te σ H fun _ H1 => D.nx σ H1) : tDrop te D σ H := h
theorem r_ret (h : te σ H D.rt) : tRet te D σ H := h
theorem r_if (h : tt σ H fun b H1 => if b = true then t D σ H1 else u D σ H1) : tIfS tt t u D σ H := h
theorem r_brk (h : D.bk σ H) : tBreak D σ H := h
theorem r_cont (h : D.ct σ H) : tCont D σ H := h
theorem r_par {tas : TA} (h : tas σ H fun vs H1 => ∃ v w, vs = [v, w] ∧ D.nx ((σ.set i (some v)).set j (some w)) H1) : tPar i j tas D σ H := h
theorem r_par2 {v w : V} {R : V → V → Prop} (h : R v w) : ∃ v' w', [v, w] = [v', w'] ∧ R v' w' := ⟨v, w, rfl, h⟩
/-! ### tests -/
def kB (x : V) (R : Bool → Prop) : Prop := ∃ k, x = .bl k ∧ R k
theorem r_test {R : Bool → Hp → Prop} (h : te σ H fun x H' => kB x fun k => R k H') : tTest te σ H R := h
theorem r_kB {b : Bool} {R : Bool → Prop} (h : R b) : kB (.bl b) R := ⟨b, rfl, h⟩
theorem r_and {t1 t2 : TT} {R : Bool → Hp → Prop} (h : t1 σ H fun c H1 => if c = true then t2 σ H1 R else R false H1) : tAnd t1 t2 σ H R := h
theorem r_or {t1 t2 : TT} {R : Bool → Hp → Prop} (h : t1 σ H fun c H1 => if c = true then R true H1 else t2 σ H1 R) : tOr t1 t2 σ H R := h
theorem r_not {t1 : TT} {R : Bool → Hp → Prop} (h : t1 σ H fun c H1 => R (!c) H1) : tNot t1 σ H R := h
theorem r_tru {R : Bool → Hp → Prop} (h : te σ H fun x H' => ∃ k, TruV K x H' k ∧ R k H') : tTru K te σ H R := h
theorem r_tru_bl {b : Bool} {R : Bool → Prop} (h : R b) : ∃ k, TruV K (.bl b) H k ∧ R k := ⟨b, rfl, h⟩
theorem r_ite_tt {A B : Prop} (h : A) : if true = true then A else B := by rw [if_pos rfl]; exact h
theorem r_ite_ff {A B : Prop} (h : B) : if false = true then A else B := by rw [if_neg Bool.false_ne_true]; exact h
theorem r_ite {p A B : Prop} [Decidable p] (h1 : p → A) (h2 : ¬ p → B) : if decide p = true then A else B := by
  by_cases h : p
  · rw [if_pos (decide_eq_true h)]; exact h1 h
  · rw [if_neg (by simp [h])]; exact h2 h
theorem r_iteT' {p A B : Prop} [Decidable p] (c : p) (h : A) : if decide p = true then A else B := by rw [if_pos (decide_eq_true c)]; exact h
theorem r_iteF' {p A B : Prop} [Decidable p] (c : ¬ p) (h : B) : if decide p = true then A else B := by rw [if_neg (by simp [c])]; exact h
theorem r_iteNT' {p A B : Prop} [Decidable p] (c : ¬ p) (h : A) : if (!decide p) = true then A else B := by rw [if_pos (by simp [c])]; exact h
theorem r_iteNF' {p A B : Prop} [Decidable p] (c : p) (h : B) : if (!decide p) = true then A else B := by rw [if_neg (by simp [c])]; exact h
theorem r_ite_nt {A B : Prop} (h : B) : if (!true) = true then A else B := by rw [if_neg (by simp)]; exact h
theorem r_ite_nf {A B : Prop} (h : A) : if (!false) = true then A else B := by rw [if_pos (by simp)]; exact h
theorem r_iteN {p A B : Prop} [Decidable p] (h1 : ¬ p → A) (h2 : p → B) : if (!decide p) = true then A else B := by
  by_cases h : p
  · rw [if_neg (by simp [h])]; exact h2 h
  · rw [if_pos (by simp [h])]; exact h1 h
theorem r_iteB {b : Bool} {A B : Prop} (h1 : b = true → A) (h2 : b = false → B) : if b = true then A else B := by
  cases b
  · exact r_ite_ff (h2 rfl)
  · exact r_ite_tt (h1 rfl)
theorem r_iteNB {b : Bool} {A B : Prop} (h1 : b = false → A) (h2 : b = true → B) : if (!b) = true then A else B := by
  cases b
  · exact r_ite_tt (h1 rfl)
  · exact r_ite_ff (h2 rfl)
theorem r_ite_if {b : Bool} {A B : Prop} (hb : b = true) (h : A) : if b = true then A else B := by rw [if_pos hb]; exact h
theorem r_ite_else {b : Bool} {A B : Prop} (hb : b = false) (h : B) : if b = true then A else B := by rw [hb, if_neg Bool.false_ne_true]; exact h
/-! ### values -/
theorem r_var (h : σ[i]? = some (some v)) (k : Q v H) : tVar i σ H Q := ⟨v, h, k⟩
theorem r_c (k : Q v H) : tC v σ H Q := k
theorem r_op (k : ta σ H fun x H1 => te σ H1 fun y H2 => r x y H2 Q) : tOp r ta te σ H Q := k
theorem r_un {q : V → Hp → VK → Prop} (k : ta σ H fun x H1 => q x H1 Q) : tUn q ta σ H Q := k
theorem r_rU {gI : Int → V} {z : Int} (k : Q (gI z) H) : rU gI (.int z) H Q := ⟨z, rfl, k⟩
theorem r_nil {R : List V → Hp → Prop} (k : R [] H) : tNil σ H R := k
theorem r_cons {R : List V → Hp → Prop} (k : te σ H fun x H1 => tr σ H1 fun xs H2 => R (x :: xs) H2) : tCons te tr σ H R := k
theorem r_cb {q : List V → Hp → VK → Prop} (k : tr σ H fun vs H1 => q vs H1 Q) : tCB q tr σ H Q := k
theorem r_call (k : tr σ H fun vs H1 => sp vs H1 Q E) : tCall sp [] E tr σ H Q := by
  have e : (fun vs H1 => sp (vs ++ []) H1 Q E) = fun vs H1 => sp vs H1 Q E := by funext vs H1; rw [List.append_nil]
  show tr σ H fun vs H1 => sp (vs ++ []) H1 Q E
  rw [e]; exact k
def kMeth (C : Addr) (m : Str) (sp : Sp) (E : XK) (tr : TA) (σ : St) (x : V) (H : Hp) (Q : VK) : Prop := ∃ a dx fs, x = .ref a ∧ H a = some (.ins C dx fs) ∧ fs.lookup m = none ∧ tr σ H fun vs H2 => sp (x :: vs) H2 Q E
theorem r_meth (k : ta σ H fun x H1 => kMeth C m sp E tr σ x H1 Q) : tMeth C m sp [] E ta tr σ H Q := by
  have e : ∀ x, (fun vs H1 => sp (x :: (vs ++ [])) H1 Q E) = fun vs H1 => sp (x :: vs) H1 Q E := fun x => by funext vs H1; rw [List.append_nil]
  show ta σ H fun x H1 => ∃ a dx fs, x = .ref a ∧ H1 a = some (.ins C dx fs) ∧ fs.lookup m = none ∧ tr σ H1 fun vs H2 => sp (x :: (vs ++ [])) H2 Q E
  simp only [e]; exact k
theorem r_kmeth {a dx : Addr} {fs : List (Str × V)} (h : H a = some (.ins C dx fs)) (l : fs.lookup m = none) (k : tr σ H fun vs H2 => sp (.ref a :: vs) H2 Q E) : kMeth C m sp E tr σ (.ref a) H Q := ⟨a, dx, fs, rfl, h, l, k⟩
theorem r_make (k : tr σ H fun vs H1 => ∀ x dx, H1 x = none → H1 dx = none → dx ≠ x → sp (.ref x :: vs) (upd (upd H1 dx (.own x)) x (.ins C dx [])) (fun v H2 => v = .non ∧ Q (.ref x) H2) E) : tMake C sp [] E tr σ H Q := by
  have e : ∀ (x : Addr) (S : VK), (fun vs H1 => sp (.ref x :: (vs ++ [])) H1 S E) = fun vs H1 => sp (.ref x :: vs) H1 S E := fun x S => by funext vs H1; rw [List.append_nil]
  show tr σ H fun vs H1 => ∀ x dx, H1 x = none → H1 dx = none → dx ≠ x → sp (.ref x :: (vs ++ [])) (upd (upd H1 dx (.own x)) x (.ins C dx [])) (fun v H2 => v = .non ∧ Q (.ref x) H2) E
  simp only [List.append_nil]; exact k
def kFld (K : PySem.W.Frag) (f : Str) (x : V) (H : Hp) (Q : VK) : Prop := ∃ a C dx fs v, x = .ref a ∧ H a = some (.ins C dx fs) ∧ Cls K C ∧ NoAttr K C f ∧ fs.lookup f = some v ∧ Q v H
theorem r_fld (k : ta σ H fun x H1 => kFld K f x H1 Q) : tFld K ta f σ H Q := k
theorem r_kfld {a dx : Addr} {fs : List (Str × V)} (h : H a = some (.ins C dx fs)) (c : Cls K C) (n : NoAttr K C f) (l : fs.lookup f = some v) (k : Q v H) : kFld K f (.ref a) H Q := ⟨a, C, dx, fs, v, rfl, h, c, n, l, k⟩
def kSFld (K : PySem.W.Frag) (f : Str) (x y : V) (H : Hp) (R : Hp → Prop) : Prop := ∃ a C dx fs, x = .ref a ∧ H a = some (.ins C dx fs) ∧ Cls K C ∧ NoAttr K C f ∧ fs.length < 1000 ∧ R (upd H a (.ins C dx (putF f y fs)))
theorem r_sfld (k : tv σ H fun y H1 => ta σ H1 fun x H2 => kSFld K f x y H2 fun H3 => D.nx σ H3) : sFld K ta tv f D σ H := k
theorem r_ksfld {a dx : Addr} {fs : List (Str × V)} {R : Hp → Prop} (h : H a = some (.ins C dx fs)) (c : Cls K C) (n : NoAttr K C f) (l : fs.length < 1000) (k : R (upd H a (.ins C dx (putF f y fs)))) : kSFld K f (.ref a) y H R := ⟨a, C, dx, fs, rfl, h, c, n, l, k⟩
def kTup (xs : List V) (H : Hp) (Q : VK) : Prop := xs.length ≤ sizeLine ∧ ∀ p, H p = none → Q (.ref p) (upd H p (.tup xs))
def kLst (xs : List V) (H : Hp) (Q : VK) : Prop := xs.length ≤ sizeLine ∧ ∀ p, H p = none → Q (.ref p) (upd H p (.lst xs))
theorem r_tup (k : tr σ H fun xs H1 => kTup xs H1 Q) : tTup tr σ H Q := k
theorem r_lst (k : tr σ H fun xs H1 => kLst xs H1 Q) : tLst tr σ H Q := k
theorem few {n : Nat} (h : n ≤ 100) : n ≤ sizeLine := by rw [sizeLine_eq]; omega
theorem few1 {n : Nat} (h : n ≤ 100000) : n < sizeLine := by rw [sizeLine_eq]; omega
theorem few2 {n : Nat} (h : n ≤ 100000) : n ≤ sizeLine := by rw [sizeLine_eq]; omega
theorem r_ktup {xs : List V} (l : xs.length ≤ 100) (k : ∀ p, H p = none → Q (.ref p) (upd H p (.tup xs))) : kTup xs H Q := ⟨few l, k⟩
theorem r_klst {xs : List V} (l : xs.length ≤ 100) (k : ∀ p, H p = none → Q (.ref p) (upd H p (.lst xs))) : kLst xs H Q := ⟨few l, k⟩
theorem r_sl {q : V → Option Int → Option Int → Hp → VK → Prop} {tl th : TO} (k : te σ H fun x H1 => tl σ H1 fun l H2 => th σ H2 fun u H3 => q x l u H3 Q) : tSl q te tl th σ H Q := k
theorem r_nopart {R : Option Int → Hp → Prop} (k : R none H) : tNoPart σ H R := k
def kI (x : V) (R : Int → Prop) : Prop := ∃ i, x = .int i ∧ R i
theorem r_part {R : Option Int → Hp → Prop} (k : te σ H fun x H1 => kI x fun i => R (some i) H1) : tPart te σ H R := k
theorem r_kI {z : Int} {R : Int → Prop} (h : R z) : kI (.int z) R := ⟨z, rfl, h⟩
def kBM (K : PySem.W.Frag) (T : String) (q : V → List V → Hp → VK → Prop) (tr : TA) (σ : St) (x : V) (H : Hp) (Q : VK) : Prop := tyV K T x H ∧ tr σ H fun xs H2 => q x xs H2 Q
theorem r_bm {T : String} {q : V → List V → Hp → VK → Prop} (k : ta σ H fun x H1 => kBM K T q tr σ x H1 Q) : tBM K T q ta tr σ H Q := k
theorem r_bm0 {T : String} {q : V → List V → Hp → VK → Prop} (k : ta σ H fun x H1 => kBM K T q tNil σ x H1 Q) : tBM0 K T q ta σ H Q := k
theorem r_kbm_l {q : V → List V → Hp → VK → Prop} {l : Addr} {xs : List V} (h : H l = some (.lst xs)) (k : tr σ H fun xs H2 => q (.ref l) xs H2 Q) : kBM K "list" q tr σ (.ref l) H Q := ⟨.inl ⟨rfl, xs, SqL.of h⟩, k⟩
theorem r_revL {l : Addr} {xs : List V} (k : te σ H fun x H1 => x = .ref l ∧ H1 l = some (.lst xs) ∧ ∀ p, H1 p = none → Q (.ref p) (upd H1 p (.lst xs.reverse))) (mono : ∀ S S' : VK, (∀ x H, S x H → S' x H) → te σ H S → te σ H S') : tRevL K te σ H Q :=
  mono _ _ (fun x H1 h => ⟨l, xs, h.1, SqL.of h.2.1, h.2.2⟩) k
def kRev (K : PySem.W.Frag) (x : V) (H : Hp) (Q : VK) : Prop := ∃ a xs, x = .ref a ∧ SqL K H a xs ∧ ∀ p, H p = none → Q (.ref p) (upd H p (.lst xs.reverse))
theorem r_rev (k : te σ H fun x H1 => kRev K x H1 Q) : tRevL K te σ H Q := k
theorem r_krev {l : Addr} {xs : List V} (h : H l = some (.lst xs)) (k : ∀ p, H p = none → Q (.ref p) (upd H p (.lst xs.reverse))) : kRev K (.ref l) H Q := ⟨l, xs, rfl, SqL.of h, k⟩
def kNotV (x : V) (R : Bool → Prop) : Prop := kB x R
theorem r_notV (k : ta σ H fun x H1 => kB x fun b => Q (.bl (!b)) H1) : tNotV ta σ H Q := k
theorem r_andV (k : ta σ H fun x H1 => kB x fun b => if b = true then te σ H1 Q else Q (.bl false) H1) : tAndV ta te σ H Q := k
theorem r_orV (k : ta σ H fun x H1 => kB x fun b => if b = true then Q (.bl true) H1 else te σ H1 Q) : tOrV ta te σ H Q := k
theorem r_chain {r' : R2} {tc : TE} (k : ta σ H fun x H1 => te σ H1 fun y H2 => r x y H2 fun z H3 => kB z fun b => if b = true then tc σ H3 fun w' H4 => r' y w' H4 Q else Q (.bl false) H3) : tChain r r' ta te tc σ H Q := k
theorem r_gsub {tsv : TSet} {R : St → Hp → Prop} (k : ta σ H fun o H1 => te σ H1 fun i H2 => tsv o i v H2 fun H3 => R σ H3) : gSub ta te tsv v σ H R := k
/-! ### operators by values -/
variable {a b : Int} {l l' p q : Addr} {xs zs : List V}
theorem v_add (k : Q (.int (a + b)) H) : bAdd K (.int a) (.int b) H Q := .inl ⟨a, b, rfl, rfl, k⟩
theorem v_addL (h1 : H l = some (.lst xs)) (h2 : H l' = some (.lst zs)) (n : xs.length + zs.length ≤ sizeLine) (k : ∀ p, H p = none → Q (.ref p) (upd H p (.lst (xs ++ zs)))) : bAdd K (.ref l) (.ref l') H Q := .inr (.inl ⟨l, l', xs, zs, rfl, rfl, h1, h2, n, k⟩)
theorem v_addS {s z : Str} (n : s.length + z.length ≤ sizeLine) (k : Q (.str (s ++ z)) H) : bAdd K (.str s) (.str z) H Q := .inr (.inr (.inl ⟨s, z, rfl, rfl, n, k⟩))
theorem v_addT (h1 : H l = some (.tup xs)) (h2 : H l' = some (.tup zs)) (n : xs.length + zs.length ≤ sizeLine) (k : ∀ p H', H' p = some (.tup (xs ++ zs)) → Keep Nil H H' → Q (.ref p) H') : bAdd K (.ref l) (.ref l') H Q := by
  refine .inr (.inr (.inr ⟨l, l', xs, zs, rfl, rfl, SqT.of h1, SqT.of h2, n, fun e => ?_, fun _ e => ?_, fun _ _ p hp => k p _ upd_same (Keep.alloc hp)⟩))
  · subst e; exact k l' H (by simpa using h2) Keep.refl
  · subst e; exact k l H (by simpa using h1) Keep.refl
theorem v_sub (k : Q (.int (a - b)) H) : bSub (.int a) (.int b) H Q := ⟨a, b, rfl, rfl, k⟩
theorem v_mul (n : -(2 ^ 64) < a ∧ a < 2 ^ 64) (k : Q (.int (a * b)) H) : bMul (.int a) (.int b) H Q := .inl ⟨a, b, rfl, rfl, .inl n, k⟩
theorem v_mulR (n : -(2 ^ 64) < b ∧ b < 2 ^ 64) (k : Q (.int (a * b)) H) : bMul (.int a) (.int b) H Q := .inl ⟨a, b, rfl, rfl, .inr n, k⟩
theorem v_mulW (n : CMulW a b) (k : Q (.int (a * b)) H) : bMul (.int a) (.int b) H Q := .inr (.inl ⟨a, b, rfl, rfl, n, k⟩)
theorem v_mulL (h : H l = some (.lst xs)) (n : -(2 ^ 63) ≤ a ∧ a < 2 ^ 63 ∧ xs.length * a.toNat ≤ sizeLine) (k : ∀ p, H p = none → Q (.ref p) (upd H p (.lst (List.replicate a.toNat xs).flatten))) : bMul (.ref l) (.int a) H Q :=
  .inr (.inr ⟨l, a, xs, rfl, rfl, h, n.1, n.2.1, n.2.2, k⟩)
theorem v_mod (n : 0 < b) (k : Q (.int (a % b)) H) : bMod (.int a) (.int b) H Q := ⟨a, b, rfl, rfl, n, k⟩
theorem v_div (n : 0 < b ∧ b < 1073741824) (k : Q (.int (a / b)) H) : bDiv (.int a) (.int b) H Q := .inl ⟨a, b, rfl, rfl, n, k⟩
theorem v_divW (n : CDivW a b) (k : Q (.int (a / b)) H) : bDiv (.int a) (.int b) H Q := .inr ⟨a, b, rfl, rfl, n, k⟩
theorem v_pow (n : CPow a b) (k : Q (.int (a ^ b.toNat)) H) : bPow (.int a) (.int b) H Q := ⟨a, b, rfl, rfl, n, k⟩
theorem v_eq (k : Q (.bl (decide (a = b))) H) : cEq K (.int a) (.int b) H Q := .inl ⟨rfl, by
  have e : decide (V.int a = V.int b) = decide (a = b) := by
    by_cases h : a = b
    · subst h; simp
    · rw [decide_eq_false h, decide_eq_false (fun z => h (V.int.inj z))]
  rw [e]; exact k⟩
theorem v_eqS {s z : Str} (k : Q (.bl (decide (s = z))) H) : cEq K (.str s) (.str z) H Q := .inl ⟨rfl, by
  have e : decide (V.str s = V.str z) = decide (s = z) := by
    by_cases h : s = z
    · subst h; simp
    · rw [decide_eq_false h, decide_eq_false (fun z => h (V.str.inj z))]
  rw [e]; exact k⟩
theorem v_ne (k : Q (.bl (!decide (a = b))) H) : cNe K (.int a) (.int b) H Q := .inl ⟨rfl, by
  have e : decide (V.int a = V.int b) = decide (a = b) := by
    by_cases h : a = b
    · subst h; simp
    · rw [decide_eq_false h, decide_eq_false (fun z => h (V.int.inj z))]
  rw [e]; exact k⟩
theorem v_neS {s z : Str} (k : Q (.bl (!decide (s = z))) H) : cNe K (.str s) (.str z) H Q := .inl ⟨rfl, by
  have e : decide (V.str s = V.str z) = decide (s = z) := by
    by_cases h : s = z
    · subst h; simp
    · rw [decide_eq_false h, decide_eq_false (fun z => h (V.str.inj z))]
  rw [e]; exact k⟩
theorem v_eqD {d e : PyData} (h1 : Dp K H x d) (h2 : Dp K H y e) (s1 : SeqAt.shaped d = true) (s2 : SeqAt.shaped e = true) (k : Q (.bl (PyData.eqv d e)) H) : cEq K x y H Q := .inr ⟨d, e, h1, h2, s1, s2, k⟩
theorem v_neD {d e : PyData} (h1 : Dp K H x d) (h2 : Dp K H y e) (s1 : SeqAt.shaped d = true) (s2 : SeqAt.shaped e = true) (k : Q (.bl (!PyData.eqv d e)) H) : cNe K x y H Q := .inr ⟨d, e, h1, h2, s1, s2, k⟩
theorem v_lt (k : Q (.bl (decide (a < b))) H) : cLt K (.int a) (.int b) H Q := .inl ⟨a, b, rfl, rfl, k⟩
theorem v_le (k : Q (.bl (decide (a ≤ b))) H) : cLe (.int a) (.int b) H Q := ⟨a, b, rfl, rfl, k⟩
theorem v_gt (k : Q (.bl (decide (b < a))) H) : cGt (.int a) (.int b) H Q := ⟨a, b, rfl, rfl, k⟩
theorem v_ge (k : Q (.bl (decide (b ≤ a))) H) : cGe (.int a) (.int b) H Q := ⟨a, b, rfl, rfl, k⟩
theorem v_isN (k : Q (.bl (decide (x = .non))) H) : cIs x .non H Q := .inl ⟨rfl, k⟩
theorem v_notN (k : Q (.bl (!decide (x = .non))) H) : cIsNot x .non H Q := .inl ⟨rfl, k⟩
theorem v_isB {c d : Bool} (k : Q (.bl (decide (c = d))) H) : cIs (.bl c) (.bl d) H Q := .inr ⟨c, d, rfl, rfl, k⟩
theorem v_notB {c d : Bool} (k : Q (.bl (!decide (c = d))) H) : cIsNot (.bl c) (.bl d) H Q := .inr ⟨c, d, rfl, rfl, k⟩
theorem v_ixL (h : H l = some (.lst xs)) (n : atI xs a = some v) (k : Q v H) : bIx P w K (.ref l) (.int a) H Q := .inl ⟨l, xs, a, v, rfl, rfl, SqL.of h, n, k⟩
theorem v_ixK (h : SqL K H l xs) (n : atI xs a = some v) (k : Q v H) : bIx P w K (.ref l) (.int a) H Q := .inl ⟨l, xs, a, v, rfl, rfl, h, n, k⟩
theorem v_ixT (h : H l = some (.tup xs)) (n : atI xs a = some v) (k : Q v H) : bIx P w K (.ref l) (.int a) H Q := .inr (.inl ⟨l, xs, a, v, rfl, rfl, SqT.of h, n, k⟩)
theorem v_setL {R : Hp → Prop} {jj : Nat} (h : H l = some (.lst xs)) (n : ixN xs.length a = some jj) (k : R (upd H l (.lst (xs.set jj v)))) : bSet P w (.ref l) (.int a) v H R := .inl ⟨l, xs, a, jj, rfl, rfl, h, n, k⟩
theorem v_lenL (h : H l = some (.lst xs)) (k : Q (.int xs.length) H) : kLen K [.ref l] H Q := .inl ⟨.ref l, xs.length, rfl, .inl ⟨xs, SqL.of h, rfl⟩, k⟩
theorem v_lenK (h : SqL K H l xs) (k : Q (.int xs.length) H) : kLen K [.ref l] H Q := .inl ⟨.ref l, xs.length, rfl, .inl ⟨xs, h, rfl⟩, k⟩
theorem v_lenT (h : H l = some (.tup xs)) (k : Q (.int xs.length) H) : kLen K [.ref l] H Q := .inl ⟨.ref l, xs.length, rfl, .inr ⟨xs, SqT.of h, rfl⟩, k⟩
theorem v_int (k : Q (.int a) H) : kInt [.int a] H Q := .inl ⟨a, rfl, k⟩
theorem v_intB {c : Bool} (k : Q (.int (if c then 1 else 0)) H) : kInt [.bl c] H Q := .inr ⟨c, rfl, k⟩
theorem v_max (k : Q (.int (if b > a then b else a)) H) : kMax K [.int a, .int b] H Q := .inl ⟨a, b, rfl, k⟩
theorem v_min (k : Q (.int (if b < a then b else a)) H) : kMin K [.int a, .int b] H Q := .inl ⟨a, b, rfl, k⟩
theorem v_maxL {ns : List Int} (h : H l = some (.lst (ns.map V.int))) (n : 0 < ns.length) (k : ∀ m, m ∈ ns → (∀ y, y ∈ ns → y ≤ m) → Q (.int m) H) : kMax K [.ref l] H Q := .inr ⟨l, ns, rfl, SqL.of h, n, k⟩
theorem v_abs (k : Q (.int (if a < 0 then -a else a)) H) : kAbs [.int a] H Q := ⟨a, rfl, k⟩
theorem v_listL (h : H l = some (.lst xs)) (k : ∀ p, H p = none → Q (.ref p) (upd H p (.lst xs))) : kList K [.ref l] H Q := .inl ⟨l, xs, rfl, .inl (SqL.of h), k⟩
theorem v_listT (h : H l = some (.tup xs)) (k : ∀ p, H p = none → Q (.ref p) (upd H p (.lst xs))) : kList K [.ref l] H Q := .inl ⟨l, xs, rfl, .inr (SqT.of h), k⟩
theorem v_tupleL (h : H l = some (.lst xs)) (k : ∀ p, H p = none → Q (.ref p) (upd H p (.tup xs))) : kTuple K [.ref l] H Q := ⟨l, xs, rfl, .inl ⟨SqL.of h, k⟩⟩
theorem v_sortedL {ns : List Int} (h : H l = some (.lst (ns.map V.int))) (k : ∀ (ns' : List Int) (p : Addr), ns'.Perm ns → ns'.Pairwise (· ≤ ·) → H p = none → Q (.ref p) (upd H p (.lst (ns'.map V.int)))) : kSorted K w [.ref l] H Q := .inl ⟨l, ns, rfl, SqL.of h, k⟩
theorem v_sortedS {S : Int → Bool} {n : Nat} (h : H l = some (SetO w l S n)) (k : ∀ (ns : List Int) (p : Addr), ns.Pairwise (· < ·) → (∀ z : Int, z ∈ ns ↔ S z = true) → ns.length = n → H p = none → Q (.ref p) (upd H p (.lst (ns.map V.int)))) : kSorted K w [.ref l] H Q := .inr (.inl ⟨l, S, n, rfl, h, k⟩)
theorem v_sortedT {ns : List Int} (h : H l = some (.tup (ns.map V.int))) (k : ∀ (ns' : List Int) (p : Addr), ns'.Perm ns → ns'.Pairwise (· ≤ ·) → H p = none → Q (.ref p) (upd H p (.lst (ns'.map V.int)))) : kSorted K w [.ref l] H Q := .inr (.inr (.inl ⟨l, ns, rfl, SqT.of h, k⟩))
theorem v_sortedD {kvs : List (L2.Key × V)} {ks : List Int} (h : H l = some (.dK kvs)) (e : kvs.map (·.1) = ks.map Sum.inl) (k : ∀ (ns' : List Int) (p : Addr), ns'.Perm ks → ns'.Pairwise (· ≤ ·) → H p = none → Q (.ref p) (upd H p (.lst (ns'.map V.int)))) : kSorted K w [.ref l] H Q := .inr (.inr (.inr ⟨l, kvs, ks, rfl, h, e, k⟩))
theorem v_set {ns : List Int} (h : H l = some (.lst (ns.map V.int))) (n : ns.length ≤ 4000) (k : ∀ (p : Addr) (c : Nat), H p = none → c ≤ ns.length → Q (.ref p) (upd H p (SetO w p (fun j => decide (j ∈ ns)) c))) : uSetI K w [.ref l] H Q := ⟨l, ns, rfl, SqL.of h, n, k⟩
theorem v_append (h : H l = some (.lst xs)) (n : xs.length < sizeLine) (k : Q .non (upd H l (.lst (xs ++ [v])))) : rAppend (.ref l) [v] H Q := ⟨l, xs, v, rfl, rfl, h, n, k⟩
theorem v_clear (h : H l = some (.lst xs)) (k : Q .non (upd H l (.lst []))) : rClear (.ref l) [] H Q := ⟨l, xs, rfl, rfl, h, k⟩
theorem v_insert (h : H l = some (.lst xs)) (n : xs.length < sizeLine) (z : 0 ≤ a ∧ a < 2 ^ 63) (k : Q .non (upd H l (.lst (xs.take a.toNat ++ [v] ++ xs.drop a.toNat)))) : kInsert (.ref l) [.int a, v] H Q := ⟨l, xs, a, v, rfl, rfl, h, n, z.1, z.2, k⟩
theorem v_slL {lo hi : Option Int} (h : H l = some (.lst xs)) (k : ∀ p, H p = none → Q (.ref p) (upd H p (.lst (cutV xs lo hi)))) : bSl K (.ref l) lo hi H Q := .inl ⟨l, xs, rfl, SqL.of h, k⟩
theorem v_isi {t u : Value} {c : V} {b : Bool} (c1 : ClsV c u) (c2 : TyX K H x t) (e : PySem.W.kitOne K t u = some b) (k : Q (.bl b) H) : rIsi K [x, c] H Q := ⟨x, c, t, u, b, rfl, c1, c2, e, k⟩
theorem v_isiI {n : String} {b : Bool} (e : kitB "int" n = some b) (k : Q (.bl b) H) : rIsi K [.int a, .ty n] H Q := v_isi (.ty n) (.base (.int _)) (kit_ty e) k
theorem v_isiB {n : String} {c b : Bool} (e : kitB "bool" n = some b) (k : Q (.bl b) H) : rIsi K [.bl c, .ty n] H Q := v_isi (.ty n) (.base (.bl _)) (kit_ty e) k
theorem v_isiL {n : String} {b : Bool} (h : H l = some (.lst xs)) (e : kitB "list" n = some b) (k : Q (.bl b) H) : rIsi K [.ref l, .ty n] H Q := v_isi (.ty n) (.base (.lst h)) (kit_ty e) k
theorem v_isiT {n : String} {b : Bool} (h : H l = some (.tup xs)) (e : kitB "tuple" n = some b) (k : Q (.bl b) H) : rIsi K [.ref l, .ty n] H Q := v_isi (.ty n) (.base (.tup h)) (kit_ty e) k
theorem v_isiS {n : String} {s : Str} {b : Bool} (e : kitB "str" n = some b) (k : Q (.bl b) H) : rIsi K [.str s, .ty n] H Q := v_isi (.ty n) (.base (.str _)) (kit_ty e) k
theorem kit_int_int : kitB "int" "int" = some true := by decide +kernel
theorem kit_int_bool : kitB "int" "bool" = some false := by decide +kernel
theorem kit_int_list : kitB "int" "list" = some false := by decide +kernel
theorem kit_int_tuple : kitB "int" "tuple" = some false := by decide +kernel
theorem kit_int_str : kitB "int" "str" = some false := by decide +kernel
theorem kit_bool_int : kitB "bool" "int" = some true := by decide +kernel
theorem kit_bool_bool : kitB "bool" "bool" = some true := by decide +kernel
theorem kit_bool_list : kitB "bool" "list" = some false := by decide +kernel
theorem kit_bool_tuple : kitB "bool" "tuple" = some false := by decide +kernel
theorem kit_bool_str : kitB "bool" "str" = some false := by decide +kernel
theorem kit_list_int : kitB "list" "int" = some false := by decide +kernel
theorem kit_list_bool : kitB "list" "bool" = some false := by decide +kernel
theorem kit_list_list : kitB "list" "list" = some true := by decide +kernel
theorem kit_list_tuple : kitB "list" "tuple" = some false := by decide +kernel
theorem kit_list_str : kitB "list" "str" = some false := by decide +kernel
theorem kit_tuple_int : kitB "tuple" "int" = some false := by decide +kernel
theorem kit_tuple_bool : kitB "tuple" "bool" = some false := by decide +kernel
theorem kit_tuple_list : kitB "tuple" "list" = some false := by decide +kernel
theorem kit_tuple_tuple : kitB "tuple" "tuple" = some true := by decide +kernel
theorem kit_tuple_str : kitB "tuple" "str" = some false := by decide +kernel
theorem kit_str_int : kitB "str" "int" = some false := by decide +kernel
theorem kit_str_bool : kitB "str" "bool" = some false := by decide +kernel
theorem kit_str_list : kitB "str" "list" = some false := by decide +kernel
theorem kit_str_tuple : kitB "str" "tuple" = some false := by decide +kernel
theorem kit_str_str : kitB "str" "str" = some true := by decide +kernel
theorem kit_NoneType_int : kitB "NoneType" "int" = some false := by decide +kernel
theorem kit_NoneType_bool : kitB "NoneType" "bool" = some false := by decide +kernel
theorem kit_NoneType_list : kitB "NoneType" "list" = some false := by decide +kernel
theorem kit_NoneType_tuple : kitB "NoneType" "tuple" = some false := by decide +kernel
theorem kit_NoneType_str : kitB "NoneType" "str" = some false := by decide +kernel
theorem kit_dict_int : kitB "dict" "int" = some false := by decide +kernel
theorem kit_dict_bool : kitB "dict" "bool" = some false := by decide +kernel
theorem kit_dict_list : kitB "dict" "list" = some false := by decide +kernel
theorem kit_dict_tuple : kitB "dict" "tuple" = some false := by decide +kernel
theorem kit_dict_str : kitB "dict" "str" = some false := by decide +kernel
/-! ### loops -/
def kFor (J : It) (g : TG) (tb : TS) (D : Ends) (σ : St) (H : Hp) : Prop := ∃ W : Nat → Nat → St → Hp → Prop, (∃ m, W 0 m σ H) ∧ ∀ i m σ H, W i m σ H →
  (J.stop i H ∧ D.nx σ H) ∨ (J.go i H ∧ ∃ N : St → Hp → Prop, (∀ σ' H', N σ' H' → ∃ m', m' < m ∧ W (i + 1) m' σ' H') ∧ ∀ x H', J.yld i H x H' → g x σ H' fun σ2 H2 => tb { D with nx := N, ct := N, bk := D.nx } σ2 H2)
theorem r_for {wi : TI} (k : wi σ H fun J H1 => kFor J g tb D σ H1) : tFor wi g tb D σ H := k
def kRng1 (vs : List V) (H : Hp) (R : It → Hp → Prop) : Prop := ∃ j : Int, vs = [.int j] ∧ -(2 ^ 62) ≤ j ∧ j < 2 ^ 62 ∧ R (Itr 0 j.toNat) H
theorem r_rng1 {R : It → Hp → Prop} (k : tr σ H fun vs H1 => kRng1 vs H1 R) : iRng1 tr σ H R := k
theorem r_krng1 {R : It → Hp → Prop} (n : -(2 ^ 62) ≤ a ∧ a < 2 ^ 62) (k : R (Itr 0 a.toNat) H) : kRng1 [.int a] H R := ⟨a, rfl, n.1, n.2, k⟩
theorem r_iany {R : It → Hp → Prop} (k : te σ H fun x H1 => kIter K x H1 R) : iAny K te σ H R := k
theorem r_kiterL {R : It → Hp → Prop} (h : H l = some (.lst xs)) (k : R (Itl K l) H) : kIter K (.ref l) H R := .inl ⟨l, rfl, ⟨xs, SqL.of h⟩, k⟩
theorem r_kiterT {R : It → Hp → Prop} (h : H l = some (.tup xs)) (k : R (Itt K l) H) : kIter K (.ref l) H R := .inr (.inl ⟨l, rfl, ⟨xs, SqT.of h⟩, k⟩)
def kLc (J : It) (g : TG) (tt : TT) (te : TE) (vs : List Nat) (σ : St) (H1 : Hp) (Q : VK) : Prop := ∀ D, H1 D = none → ∃ W : Nat → Nat → Hp → Prop, (∃ m, W 0 m (upd H1 D (.lst []))) ∧ ∀ i m H, W i m H →
  (J.stop i H ∧ Q (.ref D) H) ∨ (J.go i H ∧ ∃ Nx : Hp → Prop, (∀ H', Nx H' → ∃ m', m' < m ∧ W (i + 1) m' H') ∧ ∀ x H', J.yld i H x H' → g x (wipe σ vs) H' fun σ2 H2 => wipe σ2 vs = wipe σ vs ∧ tt σ2 H2 fun b H3 =>
    if b = true then te σ2 H3 fun y H4 => ∃ acc, H4 D = some (.lst acc) ∧ acc.length < sizeLine ∧ Nx (upd H4 D (.lst (acc ++ [y]))) else Nx H3)
theorem r_lc {wi : TI} {vs : List Nat} (k : wi σ H fun J H1 => kLc J g tt te vs σ H1 Q) : tLc wi g tt te vs σ H Q := k
def kRg (x : V) (H : Hp) (R : Int → Int → Hp → Prop) : Prop := ∃ n, x = .int n ∧ R 0 n H
theorem r_lstRg1 (k : te σ H fun x H1 => kRg x H1 fun c d H2 => RgOk c d ∧ ∀ q, H2 q = none → Q (.ref q) (upd H2 q (.lst (rgV c d)))) : tLstRg (tRg1 te) σ H Q := k
theorem r_krg {R : Int → Int → Hp → Prop} (k : R 0 a H) : kRg (.int a) H R := ⟨a, rfl, k⟩
theorem absF {J : It} {S : Hp → Prop} (h : S H) (k : ∀ HT, S HT → kFor J g tb D σ HT) : kFor J g tb D σ H := k H h
theorem r_yes {R : Bool → Hp → Prop} (k : R true H) : tYes σ H R := k
theorem r_seqT {n : Nat} {ts : TGs} {R : St → Hp → Prop} (h : H l = some (.tup xs)) (e : xs.length = n) (k : ts xs σ H R) : gSeq K n ts (.ref l) σ H R := .inl ⟨l, xs, rfl, SqT.of h, e, k⟩
theorem r_seqL {n : Nat} {ts : TGs} {R : St → Hp → Prop} (h : H l = some (.lst xs)) (e : xs.length = n) (k : ts xs σ H R) : gSeq K n ts (.ref l) σ H R := .inr ⟨l, xs, rfl, SqL.of h, e, k⟩
theorem r_gcons {ts : TGs} {R : St → Hp → Prop} (k : g v σ H fun σ' H' => ts xs σ' H' R) : gCons g ts (v :: xs) σ H R := ⟨v, xs, rfl, k⟩
theorem r_gnil {R : St → Hp → Prop} (k : R σ H) : gNil [] σ H R := ⟨rfl, k⟩
end
end Hm

/-! F4: a caught error held as a value behind its suite; isinstance of it. -/
namespace Hm
open PySem PySem.Spec PyProof.Rows L2
/-- an error of the class cls at a -/
def ExV (cls : Value) (a : Addr) : HO := .ext fun h => ∃ (oe : Obj) (vs : Array Value), h.get? a = some oe ∧ Zc cls none oe ∧ oe.data = .fields vs
theorem exV_ok {P : Program} {w : World} {H : Hp} {h : Heap} {a : Addr} {cls : Value} {oe : Obj} {vs : Array Value} (e : h.get? a = some oe) (z : Zc cls none oe) (d : oe.data = .fields vs) : ObjOk P w H h a (ExV cls a) :=
  ⟨⟨oe, vs, e, z, d⟩, ⟨oe, e⟩, fun _ _ ⟨o, v, q, r⟩ k => ⟨o, v, k o q, r⟩⟩
section
variable {X : Cx} {pins : List (Addr × Obj)} {σ : L2.St} {H : Hp} {s : Shared}
/-- an object of ours, not told of yet, is told of -/
theorem show_ {a : Addr} {φ : Heap → Prop} (I : Inv X pins σ H s) (ha : H a = none) (h0 : X.s_0.heap.get? a = none) (hL : X.env.locals ≠ a) (hc : ∀ x c, X.env.cells.lookup x = some c → c ≠ a) (hp : ∀ p ∈ X.pn ++ pins, p.1 ≠ a)
    (new : ObjOk X.prog X.w (upd H a (.ext φ)) s.heap a (.ext φ)) : Inv X pins σ (upd H a (.ext φ)) s := by
  have old : ∀ b o, H b = some o → upd H a (.ext φ) b = some o := fun b o e => by rw [upd_ne (ne_of_none e ha)]; exact e
  refine ⟨I.ok, I.os, I.bare, ⟨I.base.keep, I.base.slot, fun b o e n hx => ?_, I.base.there, fun b xs e => old _ _ (I.base.tups b xs e), fun b o u e => old _ _ (I.base.frzs b o u e), fun b ps e => ?_⟩, I.loc, I.cell, ?_, fun x c e => ?_, fun p hpp => ?_, fun b u e => ?_, I.len⟩
  · rw [upd_ne (fun z => by rw [z, h0] at e; cases e)]
    exact I.base.free b o e n hx
  · obtain ⟨more, q⟩ := I.base.tbls b ps e
    exact ⟨more, old _ _ q⟩
  · rw [upd_ne hL]; exact I.free
  · rw [upd_ne (hc x c e)]; exact I.freeC x c e
  · obtain ⟨q1, q2, q3⟩ := I.pin p hpp
    exact ⟨q1, by rw [upd_ne (hp p hpp)]; exact q2, q3⟩
  · by_cases hb : b = a
    · subst hb
      rw [upd_same] at e
      cases e
      exact new
    · rw [upd_ne hb] at e
      exact (I.hok b u e).stay (fun _ _ _ q => q) (fun c q => old _ _ q) fun c xs q => old _ _ q
end
/-- what a clause «except c as n» wishes, the error kept: slot i is n's -/
def wVal (K : PySem.W.Frag) (c : Value) (i : Nat) (ts : Addr → Value → TS) (Wout : WX) (D : Ends) : WX := fun cls d σ H =>
  d = none ∧ ∃ b, PySem.W.exmOne K cls c = some b ∧
    (b = true → ∀ a, H a = none → ts a cls { nx := fun σ' H' => D.nx (σ'.set i none) (upd H' a (ExV cls a)), rt := D.rt, bk := fun _ _ => False, ct := fun _ _ => False } (σ.set i (some (.ref a))) H) ∧ (b = false → Wout cls d σ H)
section
variable {X : Cx} {x n : Str} {c : Value} {i : Nat} {body suite : List Stmt} {b₀ : Stmt} {np pos pos' : Pos} {tb : WX → TS} {ts : Addr → Value → TS} {Wout : WX}
/-- try: body, except x as n: suite; what is caught stays an object that is known -/
theorem ps_try_val (hs : X.stack = X.env :: X.outer) (hf : X.env.frame = some X.env.locals) (hN : X.N.Nodup) (hi : X.N[i]? = some n) (hln : X.env.kindOf n = some .local) (hc : Names X x c) (tk : Takes X Wout) (hex : X.ex = [])
    (hb : ∀ (W : WX) (pn : List (Addr × Obj)) (xe : Value → Shared → Prop), Takes (X.tr pn xe) W → PassesOwn (model X.prog X.w) X.A X.env xe → PSs (X.tr pn xe) body (tb W))
    (hsu : ∀ (a : Addr) (oe : Obj) (cls : Value) (pn : List (Addr × Obj)), PSs (X.suite a ((a, oe) :: pn)) (b₀ :: suite) (ts a cls)) :
    PS X (.Try body [.ExceptHandler (some (.Name x np)) (some n) (b₀ :: suite) pos'] [] [] pos) (fun D σ H => tb (wVal X.K c i ts Wout D) D σ H) := by
  refine ⟨fun pins s σ H D I h => wpAny_Try_except ?_⟩
  have ok := I.ok
  have hfr : X.A.frames = some (X.env :: X.outer) := by rw [ok.frames, hs]
  have run := (hb (wVal X.K c i ts Wout D) (X.pn ++ pins) (fun e s₁ => wpAny (model X.prog X.w) X.A (noteFrame e X.env) (fun _ s₂ => wpAny (model X.prog X.w) X.A (setFlight e none)
    (fun _ s₃ => wpAny (model X.prog X.w) X.A (handleBy e X.env [.ExceptHandler (some (.Name x np)) (some n) (b₀ :: suite) pos']) (SP X pins D) X.xe s₃) X.xe s₂) X.xe s₁) ?_ PassesOwn.looking).run [] s σ H D (I.toTry _) h
  · refine wpAny_mono run (fun f s1 hsp => ?_) fun _ _ z => z
    cases f with
    | next => obtain ⟨σ', H', J', q⟩ := hsp; exact wpAny_execs_nil ⟨σ', H', J'.ofTry ok, q⟩
    | brk => obtain ⟨σ', H', J', q⟩ := hsp; exact ⟨σ', H', J'.ofTry ok, q⟩
    | cont => obtain ⟨σ', H', J', q⟩ := hsp; exact ⟨σ', H', J'.ofTry ok, q⟩
    | ret u => obtain ⟨v, σ', H', J', r, q⟩ := hsp; exact ⟨v, σ', H', J'.ofTry ok, r, q⟩
  rintro u s' ⟨a, B, sI, pins', σ', H', cls, d, rfl, J', nb, up, sky, na, os, ag, rfl, b, hb1, hyes, hno⟩
  have J : Inv X pins σ' H' sI := J'.ofTry ok
  have air : Sky B (X.env :: X.outer) a (Zc cls none) X.env.locals s'.heap := by rw [← hs]; exact sky
  show wpAny (model X.prog X.w) X.A (noteFrame (.ref a) X.env) _ _ _
  refine Sky.land Zc.steady hfr hf air fun h3 fl3 up3 => ?_
  have J3 : Inv X pins σ' H' { s' with heap := h3 } := J.landed nb fl3.1 (up.trans up3) os ag
  obtain ⟨oe3, vs3, he3, hz3, hd3⟩ := fl3.there
  have aside : a ∉ frs (X.env :: X.outer) := fun hm => by
    obtain ⟨_, o', e', hnf⟩ := fl3.2.2.1.mem hm
    rw [he3] at e'; cases e'
    exact hnf _ hd3
  have gI : sI.heap.get? a = none := by
    cases e : sI.heap.get? a with
    | none => rfl
    | some o =>
      have q := nb a o e (by show a ∉ frs X.stack; rw [hs]; exact aside)
      rw [fl3.2.1] at q; cases q
  have nL : a ≠ X.env.locals := fun z => aside (List.mem_filterMap.mpr ⟨X.env, List.mem_cons_self, by rw [hf, z]⟩)
  have nF : a ∉ X.fs := fun hm => by
    obtain ⟨e, he, q⟩ := List.mem_filterMap.mp hm
    exact aside (List.mem_filterMap.mpr ⟨e, List.mem_cons_of_mem _ he, q⟩)
  have h00 : X.s_0.heap.get? a = none := by
    cases e : X.s_0.heap.get? a with
    | none => rfl
    | some o =>
      obtain ⟨o', q⟩ := J.base.there a o e (by rw [hex]; exact List.not_mem_nil)
      rw [gI] at q; cases q
  have noCell : ∀ y k, X.env.cells.lookup y = some k → k ≠ a := fun y k e z => by
    obtain ⟨v, o, q, _⟩ := J.cell y k e
    rw [z, gI] at q; cases q
  have noPin : ∀ p ∈ X.pn ++ pins, p.1 ≠ a := fun p hp z => by
    have q := (J.pin p hp).1
    rw [z, gI] at q; cases q
  have S3 := J3.suite he3 hd3 na nL nF
  refine wpAny_handleBy_cons (codeAny_handlers_test ?_) (by intro q; cases q)
  have LT : PySem.W.Looks (model X.prog X.w) h3 (typeOf (.ref a)) cls := fun A Q E s k q => wpAny_typeOf_ref (k _ _ he3) (by rw [hz3.1]; exact q)
  have LM := PySem.W.exm_one (M := model X.prog X.w) (J3.kIn) LT hb1
  have test : ∀ {Q : Value → Shared → Prop} {E : Value → Shared → Prop}, Q c { s' with heap := h3 } → wpAny (model X.prog X.w) (X.A.mark (some (.ref a))) (eval (.Name x np) X.env) Q E { s' with heap := h3 } := fun {Q E} q => by
    obtain ⟨hg, hdbg, hm | ⟨hm, hv, hnn⟩⟩ := hc
    · exact ld_glob (X := X.suite a ((a, oe3) :: (X.pn ++ pins))) S3 hg hm q hdbg
    · exact ld_blt (X := X.suite a ((a, oe3) :: (X.pn ++ pins))) S3 hg hm hv q hnn hdbg
  refine test (LM.here ?_)
  cases b with
  | false =>
    show wpAny _ X.A (handleBy (.ref a) X.env []) _ _ _
    refine wpAny_handleBy_nil ?_
    obtain ⟨k1, k2, k3, oe, vs, T, oT, ts', he, hz, hd, h1, hr⟩ := id fl3
    unfold PySem.passOn
    refine wpAny_bind (wpAny_field he hd h1 ?_)
    rw [if_neg (show ¬ ((Value.ref T == Value.none) = true) from by simp)]
    have fin : wpAny (model X.prog X.w) X.A (setFlight (.ref a) X.env.frame) (fun _ s4 => wpAny (model X.prog X.w) X.A (throw (.ref a) : Sem Flow) (SP X pins D) X.xe s4) X.xe { s' with heap := h3 } := by
      rw [hf]
      refine HandSPX.setFlight_upZ fl3 fun h4 hh4 up4 => wpAny_throw (tk _ _ ?_)
      exact ⟨a, B, sI, pins, σ', H', cls, none, rfl, J, nb, (up.trans up3).trans up4, .inr (.inr (by rw [hs]; exact hh4)), na, os, ag, hno rfl⟩
    first
      | exact wpAny_bind (wpAny_pure (wpAny_bind fin))
      | exact wpAny_bind fin
  | true =>
    refine codeAny_handlers_suite_as (HandSPX.lands_againZ fl3 fun h4 fl4 up4 => ?_)
    have J4 : Inv X pins σ' H' { s' with heap := h4 } := J.landed nb fl4.1 ((up.trans up3).trans up4) os ag
    obtain ⟨oe4, vs4, he4, hz4, hd4⟩ := fl4.there
    have S4 := J4.suite he4 hd4 na nL nF
    refine store_ok (X := X.suite a ((a, oe4) :: (X.pn ++ pins))) (v := .ref a) S4 hN hi (.inl hln) rfl (fun s5 S5 => ?_) (.inr hln)
    refine wpAny_mono ((hsu a oe4 cls (X.pn ++ pins)).run [] s5 _ H' _ S5 (hyes rfl a na)) (fun f s6 hsp => ?_) (fun _ _ z => False.elim z)
    cases f with
    | next =>
      obtain ⟨σ6, H6, S6, q6⟩ := hsp
      obtain ⟨e6, n6, _⟩ := S6.pin (a, oe4) (List.mem_append_left _ List.mem_cons_self)
      have J6 : Inv X pins σ6 H6 s6 := S6.unsuite ok
      have J7 := show_ (φ := fun h => ∃ (oe : Obj) (vs : Array Value), h.get? a = some oe ∧ Zc cls none oe ∧ oe.data = .fields vs) J6 n6 h00 nL.symm noCell noPin (exV_ok e6 hz4 hd4)
      exact gone_ok J7 hN hi hln fun s7 J8 => ⟨_, _, J8, q6⟩
    | brk => obtain ⟨σ6, H6, S6, q6⟩ := hsp; exact q6.elim
    | cont => obtain ⟨σ6, H6, S6, q6⟩ := hsp; exact q6.elim
    | ret u =>
      obtain ⟨v6, σ6, H6, S6, r6, q6⟩ := hsp
      exact gone_ok (S6.unsuite ok) hN hi hln fun s7 J7 => ⟨_, _, _, J7, r6, q6⟩
end
/-- isinstance(e, C), e an error that is known -/
def uIsV (K : PySem.W.Frag) : List V → Hp → VK → Prop := fun xs H Q => ∃ (a D : Addr) (c : V) (u : Value) (b : Bool), xs = [.ref a, c] ∧ H a = some (ExV (.ref D) a) ∧ ExcC K D ∧ ClsV c u ∧ PySem.W.kitOne K (.ref D) u = some b ∧ Q (.bl b) H
theorem k_isV {X : Cx} : CallR X (.builtin "isinstance") (uIsV X.K) := by
  intro pins s σ H xs us Q I r h
  obtain ⟨a, D, c, u, b, rfl, ha, C, hc, e, q⟩ := h
  obtain ⟨u1, u2, rfl, r1, r2⟩ := vals2 r
  have e2 := hc.eq r2
  subst e2
  cases r1
  obtain ⟨⟨oe, vs, hg, hz, hv⟩, _⟩ := I.hok a _ ha
  have J : PySem.W.InstAt s.heap a oe D none := by
    obtain ⟨oc, od, oda, osl⟩ := oe
    obtain ⟨h1, h2⟩ := hz
    dsimp only at h1 h2 hv
    subst h1 h2 hv
    exact ⟨hg, rfl, rfl, trivial⟩
  exact PySem.W.kia_one (PySem.W.handS_kitx_exc C.hg C.hk C.hs C.hd C.ha C.hn C.ht C.hm) I.kIn J e (fun z => nomatch z) fun tk => ⟨.bl b, H, I.tok tk, rfl, q⟩
/-! ### defs that raise, called within a try -/
section
variable {X : Cx} {k j : Nat} {C : Addr} {x m : Str} {sp : Sp} {p pos apos : Pos} {e o : Expr} {es : List Expr} {ta : TE} {t : TA} {W : WX}
def tMethS (C : Addr) (m : Str) (sp : Sp) (W : WX) (ta : TE) (t : TA) : TE := fun σ H Q => tMeth C m sp [] (fun cls d H => W cls d σ H) ta t σ H Q
theorem r_methS {σ : L2.St} {H : Hp} {Q : VK} (h : tMeth C m sp [] (fun cls d H => W cls d σ H) ta t σ H Q) : tMethS C m sp W ta t σ H Q := h
def tCallW (sp : Sp) (W : WX) (t : TA) : TE := fun σ H Q => tCall sp [] (fun cls d H => W cls d σ H) t σ H Q
theorem r_callW {σ : L2.St} {H : Hp} {Q : VK} (h : tCall sp [] (fun cls d H => W cls d σ H) t σ H Q) : tCallW sp W t σ H Q := h
theorem e_callS (c : Cal X.prog X.w X.K X.mg X.base (L2.CX X.prog X.w) k x sp) (hr : Room j X.A) (hk : k ≤ j) (tk : Takes X W) (hg : Gl X x) (ha : PA X (e :: es) t)
    (hdb : (x == ("__debug__" : Str)) = false := by decide) (he : starEach (e :: es) X.env = (false, eval e X.env) :: starEach es X.env := by rfl) (hpl : (backTo pos (starEach es X.env)).any (·.1) = false := by rfl) :
    PE X (.Call (.Name x p) (e :: es) [] pos) (tCallW sp W t) := by
  obtain ⟨f, fd, ps, F, hm, kp, b⟩ := c.ex
  refine ⟨fun pins s σ H Q I h => ?_⟩
  refine (pe_callS (E := WE W) F (hr.mono hk) hg hm kp b (fun σ => passAt tk σ) ha hdb he hpl).run pins s σ H Q I ?_
  have h' : t σ H fun vs H1 => sp (vs ++ []) H1 Q (fun cls d H => W cls d σ H) := h
  show t σ H fun vs H1 => sp vs H1 Q (fun cls d H => W cls d σ H)
  simpa only [List.append_nil] using h'
theorem e_methS {pl : Sem Bool} (c : Met X.prog X.w X.K X.mg X.base (L2.CX X.prog X.w) k C m sp) (hr : Room j X.A) (hk : k ≤ j) (tk : Takes X W) (he : PE X o ta) (ha : PA X (e :: es) t)
    (h1 : starEach (e :: es) X.env = (false, eval e X.env) :: starEach es X.env := by rfl) (h2 : (backTo pos (starEach es X.env)).any (·.1) = false := by rfl)
    (h3 : eval (.Call (.Attribute o m apos) (e :: es) [] pos) X.env = (do let ov ← eval o X.env; standAt apos.atName; let (f, first) ← holding [ov] (getMethod ov m pl)
                                                                          callWith pos f first (backTo pos (starEach (e :: es) X.env)) (backToKw pos (keywordEach [] X.env))) := by rfl) :
    PE X (.Call (.Attribute o m apos) (e :: es) [] pos) (tMethS C m sp W ta t) := by
  obtain ⟨f, fd, ps, hc, hm, F, b⟩ := c.ex
  refine ⟨fun pins s σ H Q I h => PySem.W.methodCall_KW (pl := pl) (thn (he.run pins s σ H _ I h) fun u s1 ⟨y, H1, I1, rx, a, dx, fs, ey, ea, l, q⟩ => ?_) h3⟩
  subst ey
  obtain rfl : u = Value.ref a := rx
  refine getmeth_ok I1 ea hc hm l (PySem.W.callWith_K (first := [.ref a]) (h₀ := X.base) I.ok.mod.kin hm.kp (thn (ha.run pos pins s1 σ H1 _ I1 q) fun us s2 ⟨vs, H2, I2, r, q2⟩ => ⟨I2.kIn, ?_⟩) h1 h2)
  refine run_fnS (E := WE W) (us := .ref a :: us) (vs := .ref a :: vs) F (hr.mono hk) b (fun _ _ _ e s' I c => tk e s' (XE.of_call I (fun _ _ _ h => h) c)) I2 (.cons rfl r) ?_
  have q' : sp (.ref a :: vs ++ []) H2 Q (fun cls d H => W cls d σ H) := q2
  simpa only [List.append_nil] using q'
end
/-! ### raise -/
def tRaiseC (C : Addr) (W : WX) : TS := fun _ σ H => W (.ref C) none σ H
def tRaiseE (C : Addr) (W : WX) (te : TE) : TS := fun _ σ H => te σ H fun _ H1 => W (.ref C) none σ H1
theorem r_raiseC {C : Addr} {W : WX} {D : Ends} {σ : L2.St} {H : Hp} (h : W (.ref C) none σ H) : tRaiseC C W D σ H := h
theorem r_raiseE {C : Addr} {W : WX} {te : TE} {D : Ends} {σ : L2.St} {H : Hp} (h : te σ H fun _ H1 => W (.ref C) none σ H1) : tRaiseE C W te D σ H := h
/-- what stands of a refusal's class -/
structure XCl (K : PySem.W.Frag) (mg : Str → Option Value) (x : Str) (C : Addr) : Prop where
  g : mg x = some (.ref C)
  x : PySem.W.excIn K C [.type "ValueError", .type "Exception", .type "BaseException", .type "object"] "ValueError.__new__" = true
  k : PySem.W.keepIn K (.ref C) = true
  b : PySem.W.subIn K (.ref C) (.type "BaseException") = some true
  t : PySem.W.typeIn K (.ref C) = some (.type "type")
section
variable {X : Cx} {C : Addr} {x m : Str} {p p2 pos pos' : Pos} {jj : Nat} {e : Expr} {ta : TE} {W : WX}
theorem ps_raiseC (hc : X.calm = true) (tk : Takes X W) (c : XCl X.K X.mg x C) (hg : Gl X x) (hdb : (x == ("__debug__" : Str)) = false := by decide) : PS X (.Raise (some (.Call (.Name x p) [.Constant (.str m) jj p2] [] pos)) none pos') (tRaiseC C W) :=
  ps_raise hc tk (pmk_own PySem.F.excBase_ValueError c.x c.g c.k (raises_own c.b c.t) hg hdb)
theorem ps_raiseE (hc : X.calm = true) (tk : Takes X W) (c : XCl X.K X.mg x C) (hg : Gl X x) (he : PE X e ta) (hs : starEach [e] X.env = (false, eval e X.env) :: starEach [] X.env := by rfl) (hdb : (x == ("__debug__" : Str)) = false := by decide) :
    PS X (.Raise (some (.Call (.Name x p) [e] [] pos)) none pos') (tRaiseE C W ta) :=
  ps_raise hc tk (SkE.pmk_own1 PySem.F.excBase_ValueError c.x c.g c.k (raises_own c.b c.t) hg he hs hdb)
end
/-! ### try -/
def tTryV (K : PySem.W.Frag) (c : Value) (i : Nat) (ts : TS) (tb : WX → TS) : TS := fun D σ H => tb (wVal K c i (fun _ _ => ts) (fun _ _ _ _ => False) D) D σ H
theorem r_tryV {K : PySem.W.Frag} {c : Value} {i : Nat} {ts : TS} {tb : WX → TS} {D : Ends} {σ : L2.St} {H : Hp} (h : tb (wVal K c i (fun _ _ => ts) (fun _ _ _ _ => False) D) D σ H) : tTryV K c i ts tb D σ H := h
theorem w_val {K : PySem.W.Frag} {c cls : Value} {i : Nat} {ts : TS} {D : Ends} {σ : L2.St} {H : Hp} (hm : PySem.W.exmOne K cls c = some true)
    (h : ∀ a, H a = none → ts { nx := fun σ' H' => D.nx (σ'.set i none) (upd H' a (ExV cls a)), rt := D.rt, bk := fun _ _ => False, ct := fun _ _ => False } (σ.set i (some (.ref a))) H) : wVal K c i (fun _ _ => ts) (fun _ _ _ _ => False) D cls none σ H :=
  ⟨rfl, true, hm, fun _ a ha => h a ha, fun z => nomatch z⟩
section
variable {X : Cx} {x n : Str} {c : Value} {i : Nat} {body suite : List Stmt} {b₀ : Stmt} {np pos pos' : Pos} {tb : WX → TS} {ts : TS}
theorem ps_tryV (hs : X.stack = X.env :: X.outer) (hf : X.env.frame = some X.env.locals) (hN : X.N.Nodup) (hi : X.N[i]? = some n) (hln : X.env.kindOf n = some .local) (hc : Names X x c) (hex : X.ex = [])
    (hb : ∀ (W : WX) (pn : List (Addr × Obj)) (xe : Value → Shared → Prop), Takes (X.tr pn xe) W → PassesOwn (model X.prog X.w) X.A X.env xe → PSs (X.tr pn xe) body (tb W))
    (hsu : ∀ (a : Addr) (oe : Obj) (pn : List (Addr × Obj)), PSs (X.suite a ((a, oe) :: pn)) (b₀ :: suite) ts) :
    PS X (.Try body [.ExceptHandler (some (.Name x np)) (some n) (b₀ :: suite) pos'] [] [] pos) (tTryV X.K c i ts tb) :=
  ps_try_val (tb := tb) (ts := fun _ _ => ts) hs hf hN hi hln hc takes0 hex (fun W pn xe tk po => hb W pn xe tk po) fun a oe _ pn => hsu a oe pn
end
theorem v_isiN {K : PySem.W.Frag} {H : Hp} {Q : VK} {n : String} {b : Bool} (e : kitB "NoneType" n = some b) (k : Q (.bl b) H) : rIsi K [.non, .ty n] H Q := v_isi (.ty n) (.base .non) (kit_ty e) k
theorem v_isV {K : PySem.W.Frag} {a D : Addr} {c : V} {u : Value} {b : Bool} {H : Hp} {Q : VK} (h : H a = some (ExV (.ref D) a)) (d : ExcC K D) (hc : ClsV c u) (e : PySem.W.kitOne K (.ref D) u = some b) (q : Q (.bl b) H) : uIsV K [.ref a, c] H Q := ⟨a, D, c, u, b, rfl, h, d, hc, e, q⟩
/-! ### list(d.values()), xs.remove(k) -/
/-- a view of the values of the dict at a -/
def ValO (a p : Addr) : HO := .ext fun h => h.IsValuesView p a
def rDVals : V → List V → Hp → VK → Prop := fun x xs H Q => ∃ (a : Addr) (kvs : List (L2.Key × V)), x = .ref a ∧ xs = [] ∧ H a = some (.dK kvs) ∧ ∀ p, H p = none → Q (.ref p) (upd H p (ValO a p))
def rListV : List V → Hp → VK → Prop := fun xs H Q => ∃ (a p : Addr) (kvs : List (L2.Key × V)), xs = [.ref p] ∧ H p = some (ValO a p) ∧ H a = some (.dK kvs) ∧ ∀ q, H q = none → Q (.ref q) (upd H q (.lst (kvs.map (·.2))))
section
variable {X : Cx}
theorem mt_dvals : MtR X "dict.values" rDVals := by
  intro pins s σ H x xs v us Q I rx r h
  obtain ⟨a, kvs, rfl, rfl, ha, q⟩ := h
  obtain rfl : v = Value.ref a := rx
  cases r
  obtain ⟨_, hsys, vs, rel, dof⟩ := dk_of I.hok ha
  obtain ⟨ep, dat⟩ := dof.dictAt
  obtain ⟨ob, es, ho, ex, hdat, hko, hpr, hnd⟩ := id dat
  refine call_meetsIn F.slot_dict_values ⟨ob, ho, ex.1⟩ F.entry_dict_values (F.args_dict_values_1 _) (meets_dict_values (mixKind X.prog X.w) a hsys) ⟨⟨vs, dof⟩, ?_⟩
  exact ⟨.ref s.heap.objs.size, upd H s.heap.objs.size (ValO a s.heap.objs.size), I.laid (t' := s.toks) (fun b u e => Heap.get?_push_of_some _ e) (Nat.le_refl _) ⟨⟨_, Heap.get?_push_size _ rfl, rfl, rfl⟩, ⟨_, Heap.get?_push_size _ rfl⟩, fun _ _ ⟨o, e, z⟩ k => ⟨o, k o e, z⟩⟩, rfl, q _ (I.hok.fresh (Nat.le_refl _))⟩
theorem k_listV (hc : X.calm = true) : CallR X (.type "list") rListV := by
  intro pins s σ H xs us Q I r h
  obtain ⟨a, p, kvs, rfl, hp, ha, q⟩ := h
  obtain ⟨u, rfl, rx⟩ := vals1 r
  obtain rfl : u = Value.ref p := rx
  obtain ⟨view, _⟩ := I.hok p _ hp
  obtain ⟨z, hsys, vs, rel, dof⟩ := dk_of I.hok ha
  obtain ⟨ep, dat⟩ := dof.dictAt
  have hl : kvs.length = vs.length := KV.length rel
  refine PySem.W.kdl_call (PySem.W.kdl_values (knd := mixKind X.prog X.w) (kvs := vs) (ep := ep)) (I.ok.hd hc) ⟨view, dat⟩ (by rw [← hl]; exact z) fun h' tk acc' c' hkeep hS hacc => ?_
  refine ⟨.ref s.heap.objs.size, upd H s.heap.objs.size (.lst (kvs.map (·.2))), I.laid (t' := tk) hkeep (Nat.le_refl _) (show ObjOk X.prog X.w _ _ _ (.lst (kvs.map (·.2))) from ⟨by rw [List.length_map]; exact z, acc'.toList, c', ?_, by rw [Array.toArray_toList]; exact hS⟩), rfl, q _ (I.hok.fresh (Nat.le_refl _))⟩
  have el : acc'.toList.length = acc'.size := by simp
  refine vals_of_at (by rw [List.length_map, el, hacc.1, hl]) fun j x w h1 h2 => ?_
  obtain ⟨k, hk⟩ := hacc.2 j w (by rw [← Array.getElem?_toList]; exact h2)
  obtain ⟨x', e1, e2⟩ := KV.at' rel hk
  rw [List.getElem?_map, e1] at h1
  cases h1
  exact e2
end
theorem v_dvals {a : Addr} {kvs : List (L2.Key × V)} {H : Hp} {Q : VK} (h : H a = some (.dK kvs)) (k : ∀ p, H p = none → Q (.ref p) (upd H p (ValO a p))) : rDVals (.ref a) [] H Q := ⟨a, kvs, rfl, rfl, h, k⟩
theorem r_dvals {K : PySem.W.Frag} {a : Addr} {kvs : List (L2.Key × V)} {H : Hp} {Q : VK} {σ : L2.St} (h : H a = some (.dK kvs)) (k : ∀ p, H p = none → Q (.ref p) (upd H p (ValO a p))) : kBM K "dict" rDVals tNil σ (.ref a) H Q := ⟨.inr (.inr (.inl ⟨rfl, .inl ⟨kvs, h⟩⟩)), v_dvals h k⟩
theorem v_listV {a p : Addr} {kvs : List (L2.Key × V)} {H : Hp} {Q : VK} (h : H p = some (ValO a p)) (h2 : H a = some (.dK kvs)) (k : ∀ q, H q = none → Q (.ref q) (upd H q (.lst (kvs.map (·.2))))) : rListV [.ref p] H Q := ⟨a, p, kvs, rfl, h, h2, k⟩
theorem r_remX {K : PySem.W.Frag} {W : WX} {to te : TE} {σ : L2.St} {H : Hp} {Q : VK} (h : to σ H fun x H1 => tyV K "list" x H1 ∧ te σ H1 fun y H2 => ∃ (l : Addr) (ns : List Int) (k : Int), x = .ref l ∧ y = .int k ∧ H2 l = some (.lst (ns.map V.int)) ∧
  (k ∈ ns → Q .non (upd H2 l (.lst ((ns.erase k).map V.int)))) ∧ (k ∉ ns → ∀ d, W (.type "ValueError") d σ H2)) : tRemX K W to te σ H Q := h
end Hm

/-! F5: values. Rp W H v d: v is the data d, all its objects outside of W. -/
namespace Hm
open PySem PySem.Spec PyProof.Rows L2
mutual
inductive Rp (W : Addr → Prop) (H : Hp) : V → PyData → Prop
  | non : Rp W H .non .none
  | bl (b : Bool) : Rp W H (.bl b) (.bool b)
  | int (i : Int) : Rp W H (.int i) (.int i)
  | str (x : Str) : Rp W H (.str x) (.str x)
  | lst {a : Addr} {xs : List V} {ds : List PyData} : H a = some (.lst xs) → ¬ W a → RpA W H xs ds → Rp W H (.ref a) (.list ds)
  | tup {a : Addr} {xs : List V} {ds : List PyData} : H a = some (.tup xs) → ¬ W a → RpA W H xs ds → Rp W H (.ref a) (.tuple ds)
inductive RpA (W : Addr → Prop) (H : Hp) : List V → List PyData → Prop
  | nil : RpA W H [] []
  | cons {v : V} {vs : List V} {d : PyData} {ds : List PyData} : Rp W H v d → RpA W H vs ds → RpA W H (v :: vs) (d :: ds)
end
section
variable {W W' : Addr → Prop} {H H' : Hp} {K : PySem.W.Frag}
mutual
theorem Rp.move (f : ∀ a o, ¬ W a → H a = some o → H' a = some o ∧ ¬ W' a) : ∀ (d : PyData) (v : V), Rp W H v d → Rp W' H' v d
  | .none, _, h => by cases h; exact .non
  | .bool b, _, h => by cases h; exact .bl b
  | .int i, _, h => by cases h; exact .int i
  | .str x, _, h => by cases h; exact .str x
  | .list ds, _, h => by
    cases h with
    | lst e n r => exact .lst (f _ _ n e).1 (f _ _ n e).2 (RpA.move f ds _ r)
  | .tuple ds, _, h => by
    cases h with
    | tup e n r => exact .tup (f _ _ n e).1 (f _ _ n e).2 (RpA.move f ds _ r)
  | .dict _, _, h => by cases h
theorem RpA.move (f : ∀ a o, ¬ W a → H a = some o → H' a = some o ∧ ¬ W' a) : ∀ (ds : List PyData) (vs : List V), RpA W H vs ds → RpA W' H' vs ds
  | [], _, h => by cases h; exact .nil
  | d :: ds, _, h => by
    cases h with
    | cons r s => exact .cons (Rp.move f d _ r) (RpA.move f ds _ s)
end
mutual
theorem Rp.dp : ∀ (d : PyData) (v : V), Rp W H v d → Dp K H v d
  | .none, _, h => by cases h; exact .non
  | .bool b, _, h => by cases h; exact .bl b
  | .int i, _, h => by cases h; exact .int i
  | .str x, _, h => by cases h; exact .str x
  | .list ds, _, h => by
    cases h with
    | lst e n r => exact .lst (SqL.of e) (RpA.dp ds _ r)
  | .tuple ds, _, h => by
    cases h with
    | tup e n r => exact .tup (SqT.of e) (RpA.dp ds _ r)
  | .dict _, _, h => by cases h
theorem RpA.dp : ∀ (ds : List PyData) (vs : List V), RpA W H vs ds → DpAll K H vs ds
  | [], _, h => by cases h; exact .nil
  | d :: ds, _, h => by
    cases h with
    | cons r s => exact .cons (Rp.dp d _ r) (RpA.dp ds _ s)
end
theorem Rp.keep {v : V} {d : PyData} (h : Rp W H v d) (k : Keep W H H') : Rp W H' v d := Rp.move (fun a o n e => ⟨k a o n e, n⟩) d v h
theorem RpA.keep {v : List V} {d : List PyData} (h : RpA W H v d) (k : Keep W H H') : RpA W H' v d := RpA.move (fun a o n e => ⟨k a o n e, n⟩) d v h
theorem Rp.same {v : V} {d : PyData} (h : Rp W H v d) (k : Keep Nil H H') : Rp W H' v d := h.keep k.weak
theorem RpA.same {v : List V} {d : List PyData} (h : RpA W H v d) (k : Keep Nil H H') : RpA W H' v d := h.keep k.weak
theorem Rp.sub {v : V} {d : PyData} (h : Rp W H v d) (s : ∀ x, W' x → W x) : Rp W' H v d := Rp.move (fun a o n e => ⟨e, fun z => n (s _ z)⟩) d v h
theorem RpA.sub {v : List V} {d : List PyData} (h : RpA W H v d) (s : ∀ x, W' x → W x) : RpA W' H v d := RpA.move (fun a o n e => ⟨e, fun z => n (s _ z)⟩) d v h
/-- a new cell may be marked as one that changes -/
theorem Rp.own {v : V} {d : PyData} {p : Addr} (h : Rp W H v d) (hp : H p = none) : Rp (fun x => W x ∨ x = p) H v d :=
  Rp.move (fun a o n e => ⟨e, fun z => z.elim n (ne_of_none e hp)⟩) d v h
theorem RpA.own {v : List V} {d : List PyData} {p : Addr} (h : RpA W H v d) (hp : H p = none) : RpA (fun x => W x ∨ x = p) H v d :=
  RpA.move (fun a o n e => ⟨e, fun z => z.elim n (ne_of_none e hp)⟩) d v h
/-- W' is W and cells that are new at H -/
theorem Rp.grow {v : V} {d : PyData} (h : Rp W H v d) (s : ∀ x, W' x → W x ∨ H x = none) : Rp W' H v d :=
  Rp.move (fun a o n e => ⟨e, fun z => (s _ z).elim n fun w => by rw [e] at w; cases w⟩) d v h
theorem RpA.grow {v : List V} {d : List PyData} (h : RpA W H v d) (s : ∀ x, W' x → W x ∨ H x = none) : RpA W' H v d :=
  RpA.move (fun a o n e => ⟨e, fun z => (s _ z).elim n fun w => by rw [e] at w; cases w⟩) d v h
theorem Rp.list_ {v : V} {ds : List PyData} (h : Rp W H v (.list ds)) : ∃ a xs, v = .ref a ∧ H a = some (.lst xs) ∧ ¬ W a ∧ RpA W H xs ds := by
  cases h with
  | lst e n r => exact ⟨_, _, rfl, e, n, r⟩
theorem Rp.tuple_ {v : V} {ds : List PyData} (h : Rp W H v (.tuple ds)) : ∃ a xs, v = .ref a ∧ H a = some (.tup xs) ∧ ¬ W a ∧ RpA W H xs ds := by
  cases h with
  | tup e n r => exact ⟨_, _, rfl, e, n, r⟩
theorem Rp.int_ {v : V} {i : Int} (h : Rp W H v (.int i)) : v = .int i := by cases h; rfl
theorem Rp.str_ {v : V} {i : Str} (h : Rp W H v (.str i)) : v = .str i := by cases h; rfl
theorem Rp.bool_ {v : V} {i : Bool} (h : Rp W H v (.bool i)) : v = .bl i := by cases h; rfl
theorem Rp.none_ {v : V} (h : Rp W H v .none) : v = .non := by cases h; rfl
theorem RpA.nil_ {vs : List V} (h : RpA W H vs []) : vs = [] := by cases h; rfl
theorem RpA.cons_ {vs : List V} {d : PyData} {ds : List PyData} (h : RpA W H vs (d :: ds)) : ∃ v r, vs = v :: r ∧ Rp W H v d ∧ RpA W H r ds := by
  cases h with
  | cons r s => exact ⟨_, _, rfl, r, s⟩
theorem Rp.two {v : V} {d e : PyData} (h : Rp W H v (.tuple [d, e])) : ∃ a x y, v = .ref a ∧ H a = some (.tup [x, y]) ∧ ¬ W a ∧ Rp W H x d ∧ Rp W H y e := by
  obtain ⟨a, xs, rfl, e, n, r⟩ := h.tuple_
  obtain ⟨x, _, rfl, r1, r⟩ := r.cons_
  obtain ⟨y, _, rfl, r2, r⟩ := r.cons_
  cases r.nil_
  exact ⟨a, x, y, rfl, e, n, r1, r2⟩
theorem Rp.mk2 {a : Addr} {x y : V} {d e : PyData} (h : H a = some (.tup [x, y])) (n : ¬ W a) (r1 : Rp W H x d) (r2 : Rp W H y e) : Rp W H (.ref a) (.tuple [d, e]) := .tup h n (.cons r1 (.cons r2 .nil))
theorem RpA.len : ∀ {ds : List PyData} {vs : List V}, RpA W H vs ds → vs.length = ds.length
  | [], _, h => by rw [h.nil_]; rfl
  | d :: ds, _, h => by
    obtain ⟨v, r, rfl, _, h⟩ := h.cons_
    rw [List.length_cons, List.length_cons, h.len]
theorem RpA.at_ : ∀ {ds : List PyData} {vs : List V} {i : Nat} {d : PyData}, RpA W H vs ds → ds[i]? = some d → ∃ v, vs[i]? = some v ∧ Rp W H v d
  | [], _, _, _, _, e => by simp at e
  | d :: ds, _, i, x, h, e => by
    obtain ⟨v, r, rfl, h1, h⟩ := h.cons_
    cases i with
    | zero => simp at e; subst e; exact ⟨v, rfl, h1⟩
    | succ i =>
      obtain ⟨w, e1, e2⟩ := h.at_ (i := i) (by simpa using e)
      exact ⟨w, by simpa using e1, e2⟩
theorem RpA.at' {ds : List PyData} {vs : List V} {i : Nat} {v : V} (h : RpA W H vs ds) (e : vs[i]? = some v) : ∃ d, ds[i]? = some d ∧ Rp W H v d := by
  have hi : i < ds.length := by rw [← h.len]; exact (List.getElem?_eq_some_iff.mp e).1
  obtain ⟨w, e1, e2⟩ := h.at_ (List.getElem?_eq_getElem hi)
  rw [e] at e1; cases e1
  exact ⟨_, List.getElem?_eq_getElem hi, e2⟩
theorem RpA.app : ∀ {ds es : List PyData} {vs us : List V}, RpA W H vs ds → RpA W H us es → RpA W H (vs ++ us) (ds ++ es)
  | [], _, _, _, h, k => by rw [h.nil_]; exact k
  | d :: ds, _, _, _, h, k => by
    obtain ⟨v, r, rfl, h1, h⟩ := h.cons_
    exact .cons h1 (h.app k)
theorem RpA.snoc {ds : List PyData} {vs : List V} {v : V} {d : PyData} (h : RpA W H vs ds) (k : Rp W H v d) : RpA W H (vs ++ [v]) (ds ++ [d]) := h.app (.cons k .nil)
theorem RpA.take : ∀ (n : Nat) {ds : List PyData} {vs : List V}, RpA W H vs ds → RpA W H (vs.take n) (ds.take n)
  | 0, _, _, _ => by simp; exact .nil
  | n + 1, [], _, h => by rw [h.nil_]; simp; exact .nil
  | n + 1, d :: ds, _, h => by
    obtain ⟨v, r, rfl, h1, h⟩ := h.cons_
    exact .cons h1 (h.take n)
theorem RpA.drop : ∀ (n : Nat) {ds : List PyData} {vs : List V}, RpA W H vs ds → RpA W H (vs.drop n) (ds.drop n)
  | 0, _, _, h => h
  | n + 1, [], _, h => by rw [h.nil_]; simp; exact .nil
  | n + 1, d :: ds, _, h => by
    obtain ⟨v, r, rfl, h1, h⟩ := h.cons_
    exact h.drop n
theorem RpA.rev : ∀ {ds : List PyData} {vs : List V}, RpA W H vs ds → RpA W H vs.reverse ds.reverse
  | [], _, h => by rw [h.nil_]; exact .nil
  | d :: ds, _, h => by
    obtain ⟨v, r, rfl, h1, h⟩ := h.cons_
    rw [List.reverse_cons, List.reverse_cons]
    exact h.rev.snoc h1
theorem RpA.ints_ : ∀ {l : List Int} {vs : List V}, RpA W H vs (l.map .int) → vs = l.map V.int
  | [], _, h => h.nil_
  | x :: l, _, h => by
    obtain ⟨v, r, rfl, h1, h⟩ := h.cons_
    rw [h1.int_, h.ints_]; rfl
theorem RpA.ints : ∀ (l : List Int), RpA W H (l.map V.int) (l.map .int)
  | [] => .nil
  | x :: l => .cons (.int x) (RpA.ints l)
theorem RpA.strs_ : ∀ {l : List Str} {vs : List V}, RpA W H vs (l.map .str) → vs = l.map V.str
  | [], _, h => h.nil_
  | x :: l, _, h => by
    obtain ⟨v, r, rfl, h1, h⟩ := h.cons_
    rw [h1.str_, h.strs_]; rfl
theorem RpA.strs : ∀ (l : List Str), RpA W H (l.map V.str) (l.map .str)
  | [] => .nil
  | x :: l => .cons (.str x) (RpA.strs l)
end
/-- data of ints -/
abbrev dI (l : List Int) : PyData := .list (l.map PyData.int)
theorem Rp.ints_ {W : Addr → Prop} {H : Hp} {v : V} {l : List Int} (h : Rp W H v (dI l)) : ∃ a, v = .ref a ∧ H a = some (.lst (l.map V.int)) ∧ ¬ W a := by
  obtain ⟨a, xs, rfl, e, n, r⟩ := h.list_
  rw [r.ints_] at e
  exact ⟨a, rfl, e, n⟩
theorem Rp.ints {W : Addr → Prop} {H : Hp} {a : Addr} {l : List Int} (h : H a = some (.lst (l.map V.int))) (n : ¬ W a) : Rp W H (.ref a) (dI l) := .lst h n (RpA.ints l)
/-! ### data that Python tells apart as we do -/
mutual
def pl : PyData → Bool
  | .none => true
  | .int _ => true
  | .str x => (PyData.str x).canLay0
  | .bool _ => false
  | .dict _ => false
  | .list ds => plA ds
  | .tuple ds => plA ds
def plA : List PyData → Bool
  | [] => true
  | d :: ds => pl d && plA ds
end
mutual
theorem eqv_iff : ∀ (d e : PyData), pl d = true → pl e = true → (PyData.eqv d e = true ↔ d = e)
  | .none, e, _, _ => by cases e <;> simp [PyData.eqv]
  | .int i, e, _, h => by cases e <;> simp [PyData.eqv] <;> simp [pl] at h
  | .str i, e, _, _ => by cases e <;> simp [PyData.eqv]
  | .bool _, _, h, _ => by simp [pl] at h
  | .dict _, _, h, _ => by simp [pl] at h
  | .list ds, e, h, k => by
    cases e <;> simp [PyData.eqv]
    exact eqvA_iff ds _ (by simpa [pl] using h) (by simpa [pl] using k)
  | .tuple ds, e, h, k => by
    cases e <;> simp [PyData.eqv]
    exact eqvA_iff ds _ (by simpa [pl] using h) (by simpa [pl] using k)
theorem eqvA_iff : ∀ (ds es : List PyData), plA ds = true → plA es = true → (PyData.eqvAll ds es = true ↔ ds = es)
  | [], es, _, _ => by cases es <;> simp [PyData.eqvAll]
  | d :: ds, es, h, k => by
    cases es with
    | nil => simp [PyData.eqvAll]
    | cons e es =>
      rw [plA, Bool.and_eq_true] at h k
      simp only [PyData.eqvAll, Bool.and_eq_true, List.cons.injEq]
      rw [eqv_iff d e h.1 k.1, eqvA_iff ds es h.2 k.2]
end
theorem plA_mem : ∀ {ds : List PyData}, plA ds = true ↔ ∀ d ∈ ds, pl d = true
  | [] => by simp [plA]
  | d :: ds => by simp [plA, plA_mem (ds := ds)]
theorem plA_map {α : Type} {f : α → PyData} {l : List α} (h : ∀ x, pl (f x) = true) : plA (l.map f) = true := plA_mem.mpr fun d hd => by
  obtain ⟨x, _, rfl⟩ := List.mem_map.mp hd
  exact h x
open Classical in
theorem eqv_dec {d e : PyData} (h : pl d = true) (k : pl e = true) : PyData.eqv d e = decide (d = e) := by
  by_cases z : d = e
  · rw [decide_eq_true z]; exact (eqv_iff d e h k).mpr z
  · rw [decide_eq_false z]
    cases q : PyData.eqv d e with
    | false => rfl
    | true => exact absurd ((eqv_iff d e h k).mp q) z
theorem eqv_inj {α : Type} [DecidableEq α] {f : α → PyData} (hp : ∀ x, pl (f x) = true) (inj : ∀ x y, f x = f y → x = y) (a b : α) : PyData.eqv (f a) (f b) = decide (a = b) := by
  by_cases z : a = b
  · subst z; rw [decide_eq_true rfl]; exact (eqv_iff _ _ (hp _) (hp _)).mpr rfl
  · rw [decide_eq_false z]
    cases q : PyData.eqv (f a) (f b) with
    | false => rfl
    | true => exact absurd (inj _ _ ((eqv_iff _ _ (hp _) (hp _)).mp q)) z
mutual
theorem lay_pl : ∀ d : PyData, pl d = true → d.canLay0 = true
  | .none, _ => rfl
  | .int _, _ => rfl
  | .str _, h => by simpa [pl] using h
  | .bool _, h => by simp [pl] at h
  | .dict _, h => by simp [pl] at h
  | .list ds, h => by simp only [PyData.canLay0]; exact layA_pl ds (by simpa [pl] using h)
  | .tuple ds, h => by simp only [PyData.canLay0]; exact layA_pl ds (by simpa [pl] using h)
theorem layA_pl : ∀ ds : List PyData, plA ds = true → PyData.canLayAll0 ds = true
  | [], _ => by simp [PyData.canLayAll0]
  | d :: ds, h => by
    rw [plA, Bool.and_eq_true] at h
    simp [PyData.canLayAll0, lay_pl d h.1, layA_pl ds h.2]
end
theorem sh_pl {d : PyData} (h : pl d = true) (k : d.depth ≤ 64) : SeqAt.shaped d = true := by
  show (d.canLay0 && decide (d.depth ≤ 64)) = true
  rw [Bool.and_eq_true]
  exact ⟨lay_pl d h, decide_eq_true k⟩
theorem depthA_le {n : Nat} : ∀ {ds : List PyData}, (∀ d ∈ ds, d.depth ≤ n) → PyData.depthAll ds ≤ n
  | [], _ => by simp [PyData.depthAll]
  | d :: ds, h => by
    have h1 := h d List.mem_cons_self
    have h2 := depthA_le fun x hx => h x (List.mem_cons_of_mem _ hx)
    simp only [PyData.depthAll]; omega
theorem depth_list {n : Nat} {ds : List PyData} (h : ∀ d ∈ ds, d.depth ≤ n) : (PyData.list ds).depth ≤ n + 1 := by
  have := depthA_le h
  simp only [PyData.depth]; omega
theorem depth_tup {n : Nat} {ds : List PyData} (h : ∀ d ∈ ds, d.depth ≤ n) : (PyData.tuple ds).depth ≤ n + 1 := by
  have := depthA_le h
  simp only [PyData.depth]; omega
theorem depth_ints (l : List Int) : (PyData.list (l.map PyData.int)).depth ≤ 64 := by
  have := depth_list (n := 1) (ds := l.map PyData.int) fun d hd => by
    obtain ⟨x, _, rfl⟩ := List.mem_map.mp hd
    simp [PyData.depth]
  omega
theorem pl_ints (l : List Int) : pl (.list (l.map PyData.int)) = true := by
  show plA _ = true
  exact plA_map fun x => rfl
theorem sh_ints (l : List Int) : SeqAt.shaped (.list (l.map PyData.int)) = true := sh_pl (pl_ints l) (depth_ints l)
/-! ### what is new is none of what changes -/
def Al (W : Addr → Prop) (H : Hp) : Prop := ∀ x, H x = none → ¬ W x
theorem Al.same {W : Addr → Prop} {H H' : Hp} (a : Al W H) (k : Keep Nil H H') : Al W H' := fun x hx => a x (keep_none k hx)
theorem Al.nil {H : Hp} : Al Nil H := fun _ _ z => z
theorem Al.or {W V : Addr → Prop} {H : Hp} (a : Al W H) (b : Al V H) : Al (fun x => W x ∨ V x) H := fun x hx z => z.elim (a x hx) (b x hx)
theorem Al.one {W : Addr → Prop} {H : Hp} {p : Addr} {o : HO} (a : Al W H) (h : H p = some o) : Al (fun x => W x ∨ x = p) H := fun x hx z => z.elim (a x hx) fun e => by rw [e, h] at hx; cases hx
section
variable {W : Addr → Prop} {H : Hp} {K : PySem.W.Frag} {P : Program} {w : World} {Q : VK} {x y : V} {d e : PyData}
theorem v_addV {ds es : List PyData} (al : Al W H) (h1 : Rp W H x (.list ds)) (h2 : Rp W H y (.list es)) (few : ds.length + es.length ≤ 100000) (k : ∀ (p : Addr) (H' : Hp), Keep Nil H H' → Rp W H' (.ref p) (.list (ds ++ es)) → Q (.ref p) H') : bAdd K x y H Q := by
  obtain ⟨a, xs, rfl, e1, n1, r1⟩ := h1.list_
  obtain ⟨b, ys, rfl, e2, n2, r2⟩ := h2.list_
  refine v_addL e1 e2 (few2 (by rw [r1.len, r2.len]; exact few)) fun p hp => k p _ (Keep.alloc hp) ?_
  have kk : Keep Nil H (upd H p (.lst (xs ++ ys))) := Keep.alloc hp
  exact .lst upd_same (al p hp) ((r1.same kk).app (r2.same kk))
theorem v_eqV (h1 : Rp W H x d) (h2 : Rp W H y e) (s1 : SeqAt.shaped d = true) (s2 : SeqAt.shaped e = true) (k : Q (.bl (PyData.eqv d e)) H) : cEq K x y H Q := .inr ⟨d, e, Rp.dp _ _ h1, Rp.dp _ _ h2, s1, s2, k⟩
theorem v_neV (h1 : Rp W H x d) (h2 : Rp W H y e) (s1 : SeqAt.shaped d = true) (s2 : SeqAt.shaped e = true) (k : Q (.bl (!PyData.eqv d e)) H) : cNe K x y H Q := .inr ⟨d, e, Rp.dp _ _ h1, Rp.dp _ _ h2, s1, s2, k⟩
theorem v_inV {ds : List PyData} (h1 : Rp W H x d) (h2 : Rp W H y (.list ds)) (s1 : SeqAt.shaped d = true) (s2 : SeqAt.shaped (.list ds) = true) (k : Q (.bl (ds.any fun z => PyData.eqv z d)) H) : cIn P w K x y H Q := .inr (.inl ⟨d, ds, Rp.dp _ _ h1, Rp.dp _ _ h2, s1, s2, k⟩)
theorem v_ninV {ds : List PyData} (h1 : Rp W H x d) (h2 : Rp W H y (.list ds)) (s1 : SeqAt.shaped d = true) (s2 : SeqAt.shaped (.list ds) = true) (k : Q (.bl (!ds.any fun z => PyData.eqv z d)) H) : cNotIn P w K x y H Q := .inr (.inl ⟨d, ds, Rp.dp _ _ h1, Rp.dp _ _ h2, s1, s2, k⟩)
end
/-! ### len(set(..)) -/
def kLenS (w : World) : List V → Hp → VK → Prop := fun xs H Q => ∃ (a : Addr) (S : Int → Bool) (n : Nat), xs = [.ref a] ∧ H a = some (SetO w a S n) ∧ ∀ es : List Int, es.Nodup → (∀ z : Int, S z = true ↔ z ∈ es) → es.length = n → Q (.int n) H
theorem k_lenS {X : Cx} : CallR X (.builtin "len") (kLenS X.w) := by
  intro pins s σ H xs us Q I r h
  obtain ⟨a, S, n, rfl, ha, q⟩ := h
  obtain ⟨o, es, ep, t, ho, hex, hd, good, nd, mem, few, fits, num, _⟩ := setO_get I ha
  rw [Vals.ref1 r]
  have hs : scanBound = 4096 := rfl
  refine call_len_set ho hex hd fits (by omega) ?_
  rw [num]
  exact ⟨.int n, H, (I.tok _).tok _, ⟨_, rfl⟩, q (es.toList.map keyOf) nd mem (by rw [List.length_map, Array.length_toList]; exact num)⟩
theorem v_lenS {w : World} {a : Addr} {ns : List Int} {n : Nat} {H : Hp} {Q : VK} (h : H a = some (SetO w a (fun j => decide (j ∈ ns)) n)) (k : ∀ es : List Int, es.Nodup → (∀ z : Int, z ∈ es ↔ z ∈ ns) → Q (.int es.length) H) : kLenS w [.ref a] H Q :=
  ⟨a, _, n, rfl, h, fun es nd m l => l ▸ k es nd fun z => by rw [← m z, decide_eq_true_iff]⟩
/-! ### walks -/
/-- the walk J yields the data ds, outside of W, whatever of N changes -/
structure Yv (N W : Addr → Prop) (J : It) (H0 : Hp) (ds : List PyData) : Prop where
  go : ∀ (H : Hp) (i : Nat), Keep N H0 H → i < ds.length → J.go i H
  stop : ∀ (H : Hp), Keep N H0 H → J.stop ds.length H
  yld : ∀ (H H' : Hp) (i : Nat) (x : V) (d : PyData), Keep N H0 H → ds[i]? = some d → J.yld i H x H' → Keep Nil H H' ∧ Rp W H' x d
theorem yv_list {N W : Addr → Prop} {K : PySem.W.Frag} {H : Hp} {a : Addr} {xs : List V} {ds : List PyData} (h : H a = some (.lst xs)) (n : ¬ N a) (r : RpA W H xs ds) (s : ∀ x, N x → W x) : Yv N W (Itl K a) H ds := by
  refine ⟨fun H1 i k hi => ⟨xs, xs[i]'(by rw [r.len]; exact hi), SqL.of (k _ _ n h), List.getElem?_eq_getElem _⟩, fun H1 k => ⟨xs, SqL.of (k _ _ n h), by rw [r.len]; exact Nat.le_refl _⟩, fun H1 H2 i x d k e y => ?_⟩
  obtain ⟨rfl, y⟩ := y
  obtain ⟨v, e1, e2⟩ := r.at_ e
  have := y xs (SqL.of (k _ _ n h))
  rw [e1] at this; cases this
  exact ⟨Keep.refl, e2.keep (k.mono s)⟩
theorem yv_ints {N W : Addr → Prop} {K : PySem.W.Frag} {H : Hp} {a : Addr} {l : List Int} (h : H a = some (.lst (l.map V.int))) (n : ¬ N a) : Yv N W (Itl K a) H (l.map PyData.int) := by
  have y := yv_list (N := N) (W := N) (K := K) h n (RpA.ints l) (fun _ z => z)
  refine ⟨y.go, y.stop, fun H1 H2 i x d k e q => ?_⟩
  obtain ⟨k2, r⟩ := y.yld H1 H2 i x d k e q
  rw [List.getElem?_map] at e
  obtain ⟨z, _, rfl⟩ := Option.map_eq_some_iff.mp e
  rw [r.int_]
  exact ⟨k2, .int _⟩
theorem yv_tup {N W : Addr → Prop} {K : PySem.W.Frag} {H : Hp} {a : Addr} {xs : List V} {ds : List PyData} (h : H a = some (.tup xs)) (n : ¬ N a) (r : RpA W H xs ds) (s : ∀ x, N x → W x) : Yv N W (Itt K a) H ds := by
  refine ⟨fun H1 i k hi => ⟨xs, xs[i]'(by rw [r.len]; exact hi), SqT.of (k _ _ n h), List.getElem?_eq_getElem _⟩, fun H1 k => ⟨xs, SqT.of (k _ _ n h), by rw [r.len]; exact Nat.le_refl _⟩, fun H1 H2 i x d k e y => ?_⟩
  obtain ⟨rfl, y⟩ := y
  obtain ⟨v, e1, e2⟩ := r.at_ e
  have := y xs (SqT.of (k _ _ n h))
  rw [e1] at this; cases this
  exact ⟨Keep.refl, e2.keep (k.mono s)⟩
def rng (lo : Int) (n : Nat) : List PyData := (List.range n).map fun i => PyData.int (lo + (i : Nat))
theorem rng_len (lo : Int) (n : Nat) : (rng lo n).length = n := by unfold rng; rw [List.length_map, List.length_range]
theorem rng_get {lo : Int} {n i : Nat} {d : PyData} (h : (rng lo n)[i]? = some d) : i < n ∧ d = .int (lo + (i : Nat)) := by
  have hi : i < n := by have := (List.getElem?_eq_some_iff.mp h).1; rw [rng_len] at this; exact this
  unfold rng at h
  rw [List.getElem?_map, List.getElem?_range hi] at h
  exact ⟨hi, by simpa using h.symm⟩
theorem yv_rng {N W : Addr → Prop} {H : Hp} {lo : Int} {n : Nat} : Yv N W (Itr lo n) H (rng lo n) := by
  refine ⟨fun H1 i k hi => by rw [rng_len] at hi; exact hi, fun H1 k => by rw [rng_len]; exact Nat.le_refl _, fun H1 H2 i x d k e y => ?_⟩
  obtain ⟨rfl, rfl⟩ := y
  obtain ⟨_, rfl⟩ := rng_get e
  exact ⟨Keep.refl, .int _⟩
def signs (x : Str) : List PyData := x.cps.toList.map fun c => PyData.str ⟨#[c]⟩
theorem yv_str {N W : Addr → Prop} {H : Hp} {x : Str} : Yv N W (Its x) H (signs x) := by
  have len : (signs x).length = x.cps.size := by unfold signs; rw [List.length_map, Array.length_toList]
  refine ⟨fun H1 i k hi => by rw [len] at hi; exact hi, fun H1 k => by rw [len]; exact Nat.le_refl _, fun H1 H2 i v d k e y => ?_⟩
  obtain ⟨rfl, c, hc, rfl⟩ := y
  unfold signs at e
  rw [List.getElem?_map, Array.getElem?_toList, hc] at e
  cases e
  exact ⟨Keep.refl, .str _⟩
section
variable {J : It} {g : TG} {tt : TT} {te : TE} {vs : List Nat} {σ : L2.St} {H : Hp} {Q : VK}
/-- a comprehension that reads and makes new things alone -/
theorem lcT {α : Type} (W : Addr → Prop) (enc : α → PyData) (l : List α) (p : α → Bool) (f : α → PyData) (al : Al W H) (few : l.length < sizeLine) (Y : ∀ D, H D = none → Yv Nil (fun x => W x ∨ x = D) J H (l.map enc))
    (body : ∀ (D : Addr) (i : Nat) (x : V) (d : α) (H1 : Hp) (R : VK) (N : Hp → Prop), H D = none → l[i]? = some d → Keep Nil H H1 → Al (fun x => W x ∨ x = D) H1 → Rp (fun x => W x ∨ x = D) H1 x (enc d) →
      (∀ y H4, Keep Nil H1 H4 → Rp (fun x => W x ∨ x = D) H4 y (f d) → p d = true → R y H4) → (∀ H3, Keep Nil H1 H3 → p d = false → N H3) →
      g x (wipe σ vs) H1 fun σ2 H2 => wipe σ2 vs = wipe σ vs ∧ tt σ2 H2 fun b H3 => if b = true then te σ2 H3 R else N H3)
    (cont : ∀ (D : Addr) (H' : Hp), H D = none → Keep Nil H H' → Rp W H' (.ref D) (.list ((l.filter p).map f)) → Q (.ref D) H') : kLc J g tt te vs σ H Q := by
  intro D hD
  refine ⟨fun i m H' => m = l.length - i ∧ i ≤ l.length ∧ ∃ us, H' D = some (.lst us) ∧ RpA (fun x => W x ∨ x = D) H' us (((l.take i).filter p).map f) ∧ Keep Nil H H', ⟨_, rfl, Nat.zero_le _, [], upd_same, by simp; exact .nil, Keep.alloc hD⟩, ?_⟩
  rintro i m H1 ⟨rfl, hi, us, eD, ru, k1⟩
  have nD : ¬ W D := al D hD
  by_cases lt : i < l.length
  · refine .inr ⟨(Y D hD).go H1 i k1 (by rw [List.length_map]; exact lt), fun H' => ∃ us, H' D = some (.lst us) ∧ RpA (fun x => W x ∨ x = D) H' us (((l.take (i + 1)).filter p).map f) ∧ Keep Nil H H', fun H' h => ⟨l.length - (i + 1), by omega, rfl, lt, h⟩, fun x H2 hy => ?_⟩
    have hd := List.getElem?_eq_getElem lt
    obtain ⟨k2, rx⟩ := (Y D hD).yld H1 H2 i x (enc l[i]) k1 (by rw [List.getElem?_map, hd]; rfl) hy
    have k12 := k1.trans k2
    have eD2 := k2.get (fun z => z) eD
    have tk : l.take (i + 1) = l.take i ++ [l[i]] := by rw [List.take_succ, hd]; rfl
    refine body D i x _ H2 _ _ hD hd k12 ((al.same k12).one eD2) rx (fun y H5 k5 r5 hp => ?_) fun H4 k4 hp => ?_
    · have eD5 := k5.get (fun z => z) eD2
      have ru5 := ru.same (k2.trans k5)
      have kD : Keep (fun x => W x ∨ x = D) H5 (upd H5 D (.lst (us ++ [y]))) := Keep.refl.set (.inr rfl)
      refine ⟨us, eD5, ?_, us ++ [y], upd_same, ?_, (k12.trans k5).setN hD⟩
      · have h1 := ru.len
        have h2 := List.length_filter_le p (l.take i)
        rw [List.length_map] at h1
        rw [List.length_take] at h2
        omega
      · rw [tk, List.filter_append, List.map_append]
        have : [l[i]].filter p = [l[i]] := by simp [hp]
        rw [this]
        exact (ru5.keep kD).snoc (r5.keep kD)
    · refine ⟨us, k4.get (fun z => z) eD2, ?_, k12.trans k4⟩
      rw [tk, List.filter_append, List.map_append]
      have : [l[i]].filter p = [] := by simp [hp]
      rw [this, List.map_nil, List.append_nil]
      exact ru.same (k2.trans k4)
  · have e : i = l.length := by omega
    subst e
    rw [List.take_of_length_le (Nat.le_refl _)] at ru
    have st := (Y D hD).stop H1 k1
    rw [List.length_map] at st
    exact .inl ⟨st, cont D H1 hD k1 (.lst eD nD (ru.sub fun x h => .inl h))⟩
theorem filter_tt {α : Type} (l : List α) : (l.filter fun _ => true) = l := by simp
/-- a comprehension that changes W, by what is told of S; without a test -/
theorem lcS (W : Addr → Prop) (ds : List PyData) (S : Nat → List PyData → Hp → Prop) (few : ds.length < sizeLine) (al : Al W H) (Y : ∀ D, H D = none → Yv W (fun x => W x ∨ x = D) J H ds)
    (als : ∀ i out H1, S i out H1 → Al W H1)
    (S0 : S 0 [] H) (stab : ∀ D i out H1 H2, H D = none → Keep (fun x => x = D) H1 H2 → (∀ o, H1 D = some o → ∃ l, o = .lst l) → S i out H1 → S i out H2)
    (body : ∀ (D : Addr) (i : Nat) (x : V) (d : PyData) (out : List PyData) (H1 : Hp) (R : VK) (N : Hp → Prop), H D = none → ds[i]? = some d → out.length = i → Keep W H H1 → Al (fun x => W x ∨ x = D) H1 → Rp (fun x => W x ∨ x = D) H1 x d → S i out H1 →
      (∀ y H4 e, Keep W H1 H4 → Rp (fun x => W x ∨ x = D) H4 y e → S (i + 1) (out ++ [e]) H4 → R y H4) →
      g x (wipe σ vs) H1 fun σ2 H2 => wipe σ2 vs = wipe σ vs ∧ tYes σ2 H2 fun b H3 => if b = true then te σ2 H3 R else N H3)
    (cont : ∀ (D : Addr) (H' : Hp) (out : List PyData), H D = none → out.length = ds.length → Keep W H H' → S ds.length out H' → Rp W H' (.ref D) (.list out) → Q (.ref D) H') : kLc J g tYes te vs σ H Q := by
  intro D hD
  have nD : ¬ W D := al D hD
  refine ⟨fun i m H' => m = ds.length - i ∧ i ≤ ds.length ∧ ∃ us out, H' D = some (.lst us) ∧ out.length = i ∧ RpA (fun x => W x ∨ x = D) H' us out ∧ Keep W H H' ∧ S i out H',
    ⟨_, rfl, Nat.zero_le _, [], [], upd_same, rfl, .nil, Keep.alloc hD, stab D 0 [] H _ hD (Keep.refl.set rfl) (fun o e => by rw [hD] at e; cases e) S0⟩, ?_⟩
  rintro i m H1 ⟨rfl, hi, us, out, eD, lo, ru, k1, s1⟩
  by_cases lt : i < ds.length
  · refine .inr ⟨(Y D hD).go H1 i k1 lt, fun H' => ∃ us out, H' D = some (.lst us) ∧ out.length = i + 1 ∧ RpA (fun x => W x ∨ x = D) H' us out ∧ Keep W H H' ∧ S (i + 1) out H', fun H' h => ⟨ds.length - (i + 1), by omega, rfl, lt, h⟩, fun x H2 hy => ?_⟩
    have hd := List.getElem?_eq_getElem lt
    obtain ⟨k2, rx⟩ := (Y D hD).yld H1 H2 i x _ k1 hd hy
    have k12 := k1.trans k2.weak
    have eD2 := k2.get (fun z => z) eD
    have s2 := stab D i out H1 H2 hD k2.weak (fun o e => by rw [eD] at e; exact ⟨_, (Option.some.inj e).symm⟩) s1
    refine body D i x _ out H2 _ _ hD hd lo k12 ((als _ _ _ s2).one eD2) rx s2 fun y H5 e k5 r5 s5 => ?_
    have eD5 := k5 _ _ nD eD2
    have ru2 := ru.same k2
    have kD : Keep (fun x => x = D) H5 (upd H5 D (.lst (us ++ [y]))) := Keep.refl.set rfl
    have kW : Keep (fun x => W x ∨ x = D) H5 (upd H5 D (.lst (us ++ [y]))) := kD.mono fun _ h => .inr h
    refine ⟨us, eD5, ?_, us ++ [y], out ++ [e], upd_same, by rw [List.length_append, lo]; rfl, ?_, (k12.trans k5).setN hD, stab D _ _ _ _ hD kD (fun o q => by rw [eD5] at q; exact ⟨_, (Option.some.inj q).symm⟩) s5⟩
    · have h1 := ru.len
      omega
    · exact ((ru2.keep (k5.mono fun _ h => .inl h)).keep kW).snoc (r5.keep kW)
  · have e : i = ds.length := by omega
    subst e
    exact .inl ⟨(Y D hD).stop H1 k1, cont D H1 out hD lo k1 s1 (.lst eD nD (ru.sub fun x h => .inl h))⟩
end
end Hm

/-! F6: dicts keyed by pairs of ints: sorted(d). -/
namespace Hm
open PySem PySem.Spec PyProof.Rows L2
abbrev TX := List L2.Key × V
def pk (p : Int × Int) : List L2.Key := [Sum.inl p.1, Sum.inl p.2]
theorem pk_inj {p q : Int × Int} (h : pk p = pk q) : p = q := by
  unfold pk at h
  injection h with h1 h2
  injection h2 with h2 _
  injection h1 with h1
  injection h2 with h2
  exact Prod.ext h1 h2
/-- a list of pairs, sorted as Python sorts tuples -/
def RisP (l : List (Int × Int)) : Prop := l.Pairwise fun p q => SrtO.lexB q p = false
theorem risP_eq {l m : List (Int × Int)} (p : l.Perm m) (h1 : RisP l) (h2 : RisP m) : l = m :=
  List.Perm.eq_of_pairwise (fun a b _ _ h h' => by
    have h := SrtO.lexB_no.mp h
    have h' := SrtO.lexB_no.mp h'
    exact Prod.ext (by omega) (by omega)) h1 h2 p
def kH (H : Hp) (v : Value) : Int × Int := match v with
  | .ref a => match H a with
    | some (.tup [.int i, .int j]) => (i, j)
    | _ => (0, 0)
  | _ => (0, 0)
def adr (v : Value) : Addr := match v with
  | .ref a => a
  | _ => default
def PrT (H : Hp) (t : Addr) (p : Int × Int) : Prop := H t = some (.tup [.int p.1, .int p.2])
def uSortDictP : List V → Hp → VK → Prop := fun xs H Q => ∃ (a : Addr) (kvs : List TX) (ks : List (Int × Int)), xs = [.ref a] ∧ H a = some (.dT kvs) ∧ kvs.map (·.1) = ks.map pk ∧
  ∀ (bs : List Addr) (ys : List (Int × Int)) (p : Addr), ys.Perm ks → RisP ys → Paired (PrT H) bs ys → H p = none → Q (.ref p) (upd H p (.lst (bs.map V.ref)))
section
variable {X : Cx}
theorem cu_sortDictP (hcalm : X.calm = true) : CallR X (.builtin "sorted") uSortDictP := by
  intro pins s σ H xs us Q I r q
  obtain ⟨a, kvs, ks, rfl, hd, hks, q⟩ := q
  rw [Vals.ref1 r]
  obtain ⟨z, hs, kr, pr, o, es, ep, ho, hx, hdt, he, hn⟩ := (show ObjOk X.prog X.w H s.heap a (.dT kvs) from (Rd.of hd).ok I.hok)
  have l1 : es.size = kr.length := size_of_entries he
  have l2 : kvs.length = kr.length := Paired.length pr
  have hkr : kr.map (fun x => kH H (.ref x.2.1)) = ks ∧ ∀ x ∈ kr, H x.2.1 = some (.tup [.int (kH H (.ref x.2.1)).1, .int (kH H (.ref x.2.1)).2]) := by
    clear q hn he l1 l2 hd z
    induction pr generalizing ks with
    | nil =>
      cases ks with
      | nil => exact ⟨rfl, fun _ h => nomatch h⟩
      | cons _ _ => simp at hks
    | @cons p q ps qs h t ih =>
      cases ks with
      | nil => simp at hks
      | cons k ks =>
        rw [List.map_cons, List.map_cons] at hks
        injection hks with e1 e2
        obtain ⟨i1, i2⟩ := ih ks e2
        have hq : H q.2.1 = some (.tup [.int k.1, .int k.2]) := by rw [h.2.1, e1]; rfl
        have ek : kH H (.ref q.2.1) = k := by unfold kH; simp only [hq]
        refine ⟨by rw [List.map_cons, i1, ek], fun x hx => ?_⟩
        rcases List.mem_cons.mp hx with rfl | hx
        · rw [ek]; exact hq
        · exact i2 x hx
  obtain ⟨hk1, hk2⟩ := hkr
  refine Calls.call_function_entry kind_sorted plain_sorted entry_sorted (args_sorted1 _) ?_
  unfold Builtin.«sorted»
  refine wpAny_bind (m := checkCount "sorted" 1 1 _) (wpAny_pure ?_)
  refine wpAny_bind (PySem.W.kdu_collect (A := X.A.in1) (kdl_raw hs hx hdt) (I.ok.hd hcalm) ho (by omega) fun h' tk acc hk hacc => ?_)
  have ea : acc.toList = kr.map fun x => Value.ref x.2.1 := by
    have hl : acc.toList.length = kr.length := by rw [Array.length_toList, hacc.1]; exact l1
    apply List.ext_getElem?
    intro j
    rw [List.getElem?_map]
    cases hj : acc.toList[j]? with
    | none =>
      have h1 := List.getElem?_eq_none_iff.mp hj
      rw [List.getElem?_eq_none (by omega)]
      all_goals rfl
    | some v =>
      obtain ⟨en, hen, hv⟩ := hacc.2 j v (by rw [← Array.getElem?_toList]; exact hj)
      have qe := entry_at he j
      rw [hen] at qe
      cases hb : kr[j]? with
      | none =>
        rw [hb] at qe
        exact nomatch (show some en = none from qe)
      | some b =>
        rw [hb] at qe
        have e2 : en = entryOfKey (tupleKind (mixKind X.prog X.w)) b := Option.some.inj qe
        rw [hv, e2]
        all_goals rfl
  have I1 : Inv X pins σ H { s with heap := h', toks := tk } := I.kept hk
  have hal2 : acc.toList.length ≤ sizeLine := by rw [ea, List.length_map]; omega
  refine wpAny_bind (wpAny_newList ?_ hal2)
  have at1 : (h'.push (seqObj "list" acc.toList.toArray 0)).get? h'.objs.size = some (seqObj "list" acc.toList.toArray 0) := Heap.get?_push_size _ rfl
  show wpAny _ _ _ _ _ { s with heap := h'.push (seqObj "list" acc.toList.toArray 0), toks := tk }
  have isp : ∀ v ∈ acc.toList, Srt.IsPair (h'.push (seqObj "list" acc.toList.toArray 0)) v (kH H v).1 (kH H v).2 := fun v hv => by
    rw [ea] at hv
    obtain ⟨x, hx, rfl⟩ := List.mem_map.mp hv
    obtain ⟨_, its2, r2, o, ho, hc, n, hd⟩ := I1.hok _ _ (hk2 x hx)
    obtain ⟨u1, u2, rfl, ri, rj⟩ := vals2 r2
    obtain ⟨t1, rfl⟩ := ri
    obtain ⟨t2, rfl⟩ := rj
    exact ⟨x.2.1, o, t1, t2, n, rfl, Heap.get?_push_of_some _ ho, hc, hd⟩
  refine wpAny_bind (wpAny_holding (wpAny_call_entry slot_list_sort ⟨_, at1, rfl⟩ entry_list_sort
    (SrtO.list_sort_ord (SrtO.swo_lex (kH H)) (s := { s with heap := h'.push (seqObj "list" acc.toList.toArray 0), toks := tk }) at1 hal2 (fun h2 => SrtO.pairs_sortableO (by omega) isp fun o e => ?_) fun out z1 z2 => ⟨_, rfl, ?_⟩) (args_list_sort _)))
  · have e' : some o = some (seqObj "list" acc.toList.toArray 0) := e.symm.trans at1
    cases e'
    intro c
    exact absurd (Value.type.inj c) (by decide)
  obtain ⟨c, hc⟩ := sortedHeap_at (vs := acc.toList) (out := out.toArray) at1
  have outr : ∀ v ∈ out, ∃ x ∈ kr, v = Value.ref x.2.1 := fun v hv => by
    have := z2.perm.mem_iff.mp hv
    rw [ea] at this
    obtain ⟨x, hx, rfl⟩ := List.mem_map.mp this
    exact ⟨x, hx, rfl⟩
  have eo : out.map (fun v => Value.ref (adr v)) = out := by
    have : out.map (fun v => Value.ref (adr v)) = out.map id := List.map_congr_left fun v hv => by
      obtain ⟨x, _, rfl⟩ := outr v hv
      rfl
    rw [this, List.map_id]
  have hlen : ((out.map adr).map V.ref).length ≤ sizeLine := by
    rw [List.length_map, List.length_map, z2.perm.length_eq]; exact hal2
  have rv : Vals ((out.map adr).map V.ref) out := by
    have := vals_refs (out.map adr)
    rw [List.map_map (f := adr) (g := Value.ref), show (Value.ref ∘ adr) = fun v => Value.ref (adr v) from rfl, eo] at this
    exact this
  have pys : (out.map (kH H)).Perm ks := by
    have := z2.perm.map (kH H)
    rw [ea, List.map_map] at this
    rw [← hk1]; exact this
  have pp : Paired (PrT H) (out.map adr) (out.map (kH H)) := by
    clear pys rv hlen eo hc z1 z2 q
    induction out with
    | nil => exact .nil
    | cons v l ih =>
      refine .cons ?_ (ih fun v hv => outr v (List.mem_cons_of_mem _ hv))
      obtain ⟨x, hx, rfl⟩ := outr v List.mem_cons_self
      exact hk2 x hx
  refine wpAny_pure ⟨_, rfl, .ref h'.objs.size, upd H h'.objs.size (.lst ((out.map adr).map V.ref)), I1.laid (t' := tk) (fun b u e => ?_) (Nat.le_refl _)
    (show ObjOk X.prog X.w _ _ _ (.lst ((out.map adr).map V.ref)) from ⟨hlen, out, c, rv, hc⟩), rfl, q _ _ _ pys (List.pairwise_map.mpr z1) pp (I1.hok.fresh (Nat.le_refl _))⟩
  have hb : b < h'.objs.size := Heap.lt_size e
  rw [sortedHeap_old (Nat.ne_of_lt hb) (by rw [size_push']; exact Nat.lt_succ_of_lt hb)]
  exact Heap.get?_push_of_some _ e
end
theorem v_sortedP {a : Addr} {kvs : List TX} {ks : List (Int × Int)} {H : Hp} {Q : VK} (h : H a = some (.dT kvs)) (e : kvs.map (·.1) = ks.map pk) (k : ∀ (bs : List Addr) (ys : List (Int × Int)) (p : Addr), ys.Perm ks → RisP ys → Paired (PrT H) bs ys → H p = none → Q (.ref p) (upd H p (.lst (bs.map V.ref)))) : uSortDictP [.ref a] H Q :=
  ⟨a, kvs, ks, rfl, h, e, k⟩
/-- {k: v} with one flat tuple for a key -/
def uDispT (tk tv : TE) : TE := fun σ H Q => ∀ p, H p = none → tk σ (upd H p (.dT [])) fun x H1 => tv σ H1 fun y H2 =>
  ∃ (k : List L2.Key) (b : Addr), x = .ref b ∧ H2 p = some (.dT []) ∧ H2 b = some (.tup (k.map kV)) ∧ Q (.ref p) (upd H2 p (.dT [(k, y)]))
theorem pe_dispT {X : Cx} {ke ve : Expr} {tk tv : TE} {pos : Pos} (hu : X.A.units + 64 < cLine) (hk : PE X ke tk) (hv : PE X ve tv)
    (shape : (evalEachOpt [some ke] X.env).zip ((evalEach [ve] X.env).map fun v => do let x ← v; standAt pos; pure x) = [(eval ke X.env, (do let x ← eval ve X.env; standAt pos; pure x))].map fun p => (some p.1, p.2) := by rfl) :
    PE X (.Dict [some ke] [ve] pos) (uDispT tk tv) := by
  refine ⟨fun pins s σ H Q I h => ?_⟩
  have hn := I.hok.fresh (Nat.le_refl s.heap.objs.size)
  have I1 := I.laid (a := s.heap.objs.size) (o := .dT []) (h' := s.heap.push { cls := .type "dict", data := .dict #[] }) (t' := s.toks) (fun _ _ q => Heap.get?_push_of_some _ q) (Nat.le_refl _) (dt_empty s.heap I.big)
  have h1 : PPs X pos [some ke] [ve] [(tk, tv)] := pps_cons hk hv pps_nil
  have trees : pairTrees [some ke] [ve] X.env pos = [(eval ke X.env, (do let x ← eval ve X.env; standAt pos; pure x))] := by rfl
  have run := h1.run pins _ σ _ (fun ps H2 => match ps with
    | [(x, y)] => ∃ (k : List L2.Key) (b : Addr), x = .ref b ∧ H2 s.heap.objs.size = some (.dT []) ∧ H2 b = some (.tup (k.map kV)) ∧ Q (.ref s.heap.objs.size) (upd H2 s.heap.objs.size (.dT [(k, y)]))
    | _ => False) I1 (h _ hn)
  rw [trees] at run
  rw [arm_eval_Dict, shape, dictDisplay_pairs _ (by simp) (by simp)]
  refine wpAny_bind (wpAny_standAt (wpAny_bind (wpAny_subDictH (knd := tupleKind (mixKind X.prog X.w)) (show X.A.units < cLine by omega) (by simp) (thn run fun vs s2 hh => ?_))))
  obtain ⟨ps, H2, I2, rel, q⟩ := hh
  split at q
  · rename_i x y
    obtain ⟨k, b, rfl, e, eb, q⟩ := q
    cases rel with
    | @cons p1 q1 ps qs rr t =>
    cases t
    obtain ⟨u1, u2⟩ := q1
    obtain ⟨r1, r2⟩ := rr
    cases (show u1 = Value.ref b from r1)
    obtain ⟨z, hd, xs, rr, D⟩ := dt_of I2.hok e
    cases rr
    refine ⟨[(k, b, u2)], ⟨rfl, rfl, key_of I2.hok eb, True.intro⟩, D, fun h' tk' D' hs => wpAny_pure ⟨.ref s.heap.objs.size, _, ?_, rfl, q⟩⟩
    obtain ⟨q', es, ep, hq, h2, h3, h4, _, h5⟩ := id D'
    refine d_write I2 (by rw [e]; exact True.intro) hs ⟨q', hq⟩ ⟨by rw [sizeLine_eq]; exact (by decide : (1 : Nat) ≤ 16777216), hd, [(k, b, u2)], .cons ⟨rfl, ?_, r2⟩ .nil, q', es, ep, hq, h2, h3, h4, h5⟩
    show upd H2 _ _ b = _
    rw [upd_ne (ne_of eb e (fun z => nomatch z))]
    exact eb
  · exact q.elim
/-! ### loops that change one slot -/
section
variable {K : PySem.W.Frag} {a : Addr} {tb : TS} {D : Ends} {σ : L2.St} {H : Hp} {i : Nat}
theorem forI {l : List Int} (Pv : Nat → Hp → Prop) (hl : ∀ j H', Pv j H' → H' a = some (.lst (l.map V.int))) (o0 : Option V) (e0 : σ.set i o0 = σ) (h0 : Pv 0 H)
    (hs : ∀ j z H', l[j]? = some z → Pv j H' → tb { D with nx := fun s h => ∃ o, s = σ.set i o ∧ Pv (j + 1) h, ct := fun s h => ∃ o, s = σ.set i o ∧ Pv (j + 1) h, bk := D.nx } (σ.set i (some (.int z))) H')
    (hd : ∀ o H', Pv l.length H' → D.nx (σ.set i o) H') : kFor (Itl K a) (gName i) tb D σ H := by
  refine for_list (xs := l.map V.int) (fun j s H' => ∃ o, s = σ.set i o ∧ Pv j H') ⟨o0, e0.symm, h0⟩ (fun j s H' _ ⟨_, _, h⟩ => SqL.of (hl j H' h)) ?_ ?_
  · rintro j x s H' hj ⟨o, rfl, h⟩
    rw [List.getElem?_map] at hj
    obtain ⟨z, hz, rfl⟩ := Option.map_eq_some_iff.mp hj
    refine r_gname ?_
    rw [List.set_set]
    exact hs j z H' hz h
  · rintro s H' ⟨o, rfl, h⟩
    rw [List.length_map] at h
    exact hd o H' h
end
theorem forI2 {K : PySem.W.Frag} {a : Addr} {tb : TS} {D : Ends} {σ : L2.St} {H : Hp} {i k : Nat} {l : List Int} (Pv : Nat → Hp → Prop) (hl : ∀ j H', Pv j H' → H' a = some (.lst (l.map V.int))) (o0 p0 : Option V) (e0 : (σ.set i o0).set k p0 = σ) (hik : i ≠ k) (h0 : Pv 0 H)
    (hs : ∀ j z H' (p : Option V), l[j]? = some z → Pv j H' → tb { D with nx := fun s h => ∃ o p, s = (σ.set i o).set k p ∧ Pv (j + 1) h, ct := fun s h => ∃ o p, s = (σ.set i o).set k p ∧ Pv (j + 1) h, bk := D.nx } ((σ.set i (some (.int z))).set k p) H')
    (hd : ∀ o p H', Pv l.length H' → D.nx ((σ.set i o).set k p) H') : kFor (Itl K a) (gName i) tb D σ H := by
  refine for_list (xs := l.map V.int) (fun j s H' => ∃ o p, s = (σ.set i o).set k p ∧ Pv j H') ⟨o0, p0, e0.symm, h0⟩ (fun j s H' _ ⟨_, _, _, h⟩ => SqL.of (hl j H' h)) ?_ ?_
  · rintro j x s H' hj ⟨o, p, rfl, h⟩
    rw [List.getElem?_map] at hj
    obtain ⟨z, hz, rfl⟩ := Option.map_eq_some_iff.mp hj
    refine r_gname ?_
    rw [List.set_comm _ _ (Ne.symm hik), List.set_set]
    exact hs j z H' p hz h
  · rintro s H' ⟨o, p, rfl, h⟩
    rw [List.length_map] at h
    exact hd o p H' h
theorem r_ikeysT {td : TE} {σ : L2.St} {H : Hp} {R : It → Hp → Prop} (k : td σ H fun x H1 => ∃ d o, x = .ref d ∧ ((∃ kvs, H1 d = some (.frz o (.dK kvs)) ∧ R (Itk d o kvs) H1) ∨ ∃ kvs, H1 d = some (.frz o (.dT kvs)) ∧ R (Itkt d o kvs) H1)) : iKeys td σ H R := k
/-- a walk over the keys of a dict that is locked for it -/
theorem forT {d : Addr} {o : Obj} {kvs : List TX} {ks : List (Int × Int)} {g : TG} {tb : TS} {D : Ends} {σ : L2.St} {H : Hp} (ke : kvs.map (·.1) = ks.map pk) (Pv : Nat → L2.St → Hp → Prop) (h0 : Pv 0 σ H) (hl : ∀ j σ H, Pv j σ H → H d = some (.frz o (.dT kvs)))
    (hs : ∀ j z q σ H, ks[j]? = some z → Pv j σ H → PrT H q z → g (.ref q) σ H fun σ2 H2 => tb { D with nx := Pv (j + 1), ct := Pv (j + 1), bk := D.nx } σ2 H2)
    (hd : ∀ σ H, Pv ks.length σ H → D.nx σ H) : kFor (Itkt d o kvs) g tb D σ H := by
  have len : kvs.length = ks.length := by have := congrArg List.length ke; rw [List.length_map, List.length_map] at this; exact this
  refine ⟨fun i m σ H => m = ks.length - i ∧ i ≤ ks.length ∧ Pv i σ H, ⟨_, rfl, Nat.zero_le _, h0⟩, ?_⟩
  rintro i m σ H ⟨rfl, hi, p⟩
  by_cases lt : i < ks.length
  · refine .inr ⟨⟨hl _ _ _ p, by omega⟩, Pv (i + 1), fun σ' H' p' => ⟨ks.length - (i + 1), by omega, rfl, lt, p'⟩, fun x H' y => ?_⟩
    obtain ⟨rfl, k, v, q, e1, rfl, e2⟩ := y
    have hz := List.getElem?_eq_getElem lt
    have e3 : (kvs.map (·.1))[i]? = some k := by rw [List.getElem?_map, e1]; rfl
    rw [ke, List.getElem?_map, hz] at e3
    cases e3
    exact hs i _ q σ _ hz p e2
  · have e : i = ks.length := by omega
    subst e
    exact .inl ⟨⟨hl _ _ _ p, by omega⟩, hd σ H p⟩
theorem lock_keep {M : Addr → Prop} {H H' : Hp} {d : Addr} {u f : HO} (h : H d = some u) (k : Keep M (upd H d f) H') : Keep M H (upd H' d u) := fun a o n e => by
  by_cases z : a = d
  · subst z
    rw [h] at e; rw [upd_same]; exact e
  · rw [upd_ne z]
    exact k a o n (by rw [upd_ne z]; exact e)
theorem find_at {α : Type} {p : α → Bool} {l : List α} {j : Nat} {x : α} (h : l[j]? = some x) (n : ∀ y ∈ l.take j, p y = false) (hx : p x = true) : l.find? p = some x := by
  have e : l = l.take j ++ x :: l.drop (j + 1) := by
    obtain ⟨hl, rfl⟩ := List.getElem?_eq_some_iff.mp h
    rw [List.getElem_cons_drop, List.take_append_drop]
  rw [e, List.find?_append, List.find?_eq_none.mpr (fun y hy => by simp [n y hy]), Option.none_or, List.find?_cons_of_pos hx]
theorem find_no {α : Type} {p : α → Bool} {l : List α} (n : ∀ y ∈ l, p y = false) : l.find? p = none := List.find?_eq_none.mpr fun y hy => by simp [n y hy]
theorem take_snoc {α : Type} {l : List α} {j : Nat} {x : α} (h : l[j]? = some x) {P : α → Prop} (a : ∀ y ∈ l.take j, P y) (b : P x) : ∀ y ∈ l.take (j + 1), P y := fun y hy => by
  rw [List.take_succ, h] at hy
  rcases List.mem_append.mp hy with q | q
  · exact a y q
  · cases List.mem_singleton.mp q; exact b
/-! ### a text among texts -/
theorem inV_str {z : Str} (os : List Str) : inV (.str z) (os.map V.str) = decide (z ∈ os) := by
  unfold inV
  rw [List.any_map]
  by_cases h : z ∈ os
  · rw [decide_eq_true h]
    exact List.any_eq_true.mpr ⟨z, h, by simp [Function.comp, eqV]⟩
  · rw [decide_eq_false h]
    exact List.any_eq_false.mpr fun y hy => by
      simp only [Function.comp, eqV, beq_iff_eq]
      exact fun e => h (e ▸ hy)
theorem flat_strs : ∀ os : List Str, (os.map V.str).all flatV = true
  | [] => rfl
  | x :: r => by rw [List.map_cons, List.all_cons, flat_strs r]; rfl
theorem v_ninSt {P : Program} {w : World} {K : PySem.W.Frag} {H : Hp} {Q : VK} {l : Addr} {os : List Str} {z : Str} (h : H l = some (.tup (os.map V.str))) (q : Q (.bl (!decide (z ∈ os))) H) : cNotIn P w K (.str z) (.ref l) H Q :=
  .inl ⟨l, os.map V.str, rfl, .inr (SqT.of h), rfl, flat_strs os, by rw [if_pos rfl, inV_str]; exact q⟩
theorem v_inSt {P : Program} {w : World} {K : PySem.W.Frag} {H : Hp} {Q : VK} {l : Addr} {os : List Str} {z : Str} (h : H l = some (.tup (os.map V.str))) (q : Q (.bl (decide (z ∈ os))) H) : cIn P w K (.str z) (.ref l) H Q :=
  .inl ⟨l, os.map V.str, rfl, .inr (SqT.of h), rfl, flat_strs os, by rw [if_neg (by decide), inV_str]; exact q⟩
theorem v_ninSl {P : Program} {w : World} {K : PySem.W.Frag} {H : Hp} {Q : VK} {l : Addr} {os : List Str} {z : Str} (h : H l = some (.lst (os.map V.str))) (q : Q (.bl (!decide (z ∈ os))) H) : cNotIn P w K (.str z) (.ref l) H Q :=
  .inl ⟨l, os.map V.str, rfl, .inl (SqL.of h), rfl, flat_strs os, by rw [if_pos rfl, inV_str]; exact q⟩
theorem v_inSl {P : Program} {w : World} {K : PySem.W.Frag} {H : Hp} {Q : VK} {l : Addr} {os : List Str} {z : Str} (h : H l = some (.lst (os.map V.str))) (q : Q (.bl (decide (z ∈ os))) H) : cIn P w K (.str z) (.ref l) H Q :=
  .inl ⟨l, os.map V.str, rfl, .inl (SqL.of h), rfl, flat_strs os, by rw [if_neg (by decide), inV_str]; exact q⟩
theorem RpA.bools_ {W : Addr → Prop} {H : Hp} : ∀ {l : List Bool} {vs : List V}, RpA W H vs (l.map .bool) → vs = l.map V.bl
  | [], _, h => h.nil_
  | x :: l, _, h => by
    obtain ⟨v, r, rfl, h1, h⟩ := h.cons_
    rw [h1.bool_, RpA.bools_ h]; rfl
theorem inV_bl {z : Bool} (os : List Bool) : inV (.bl z) (os.map V.bl) = decide (z ∈ os) := by
  unfold inV
  rw [List.any_map]
  by_cases h : z ∈ os
  · rw [decide_eq_true h]
    exact List.any_eq_true.mpr ⟨z, h, by simp [Function.comp, eqV]⟩
  · rw [decide_eq_false h]
    exact List.any_eq_false.mpr fun y hy => by
      simp only [Function.comp, eqV, beq_iff_eq]
      exact fun e => h (e ▸ hy)
theorem flat_bls : ∀ os : List Bool, (os.map V.bl).all flatV = true
  | [] => rfl
  | x :: r => by rw [List.map_cons, List.all_cons, flat_bls r]; rfl
theorem v_inBl {P : Program} {w : World} {K : PySem.W.Frag} {H : Hp} {Q : VK} {W : Addr → Prop} {x : V} {os : List Bool} {z : Bool} (h : Rp W H x (.list (os.map .bool))) (q : Q (.bl (decide (z ∈ os))) H) : cIn P w K (.bl z) x H Q := by
  obtain ⟨l, xs, rfl, e, _, r⟩ := h.list_
  rw [r.bools_] at e
  exact .inl ⟨l, os.map V.bl, rfl, .inl (SqL.of e), rfl, flat_bls os, by rw [if_neg (by decide), inV_bl]; exact q⟩
theorem v_ninBl {P : Program} {w : World} {K : PySem.W.Frag} {H : Hp} {Q : VK} {W : Addr → Prop} {x : V} {os : List Bool} {z : Bool} (h : Rp W H x (.list (os.map .bool))) (q : Q (.bl (!decide (z ∈ os))) H) : cNotIn P w K (.bl z) x H Q := by
  obtain ⟨l, xs, rfl, e, _, r⟩ := h.list_
  rw [r.bools_] at e
  exact .inl ⟨l, os.map V.bl, rfl, .inl (SqL.of e), rfl, flat_bls os, by rw [if_pos rfl, inV_bl]; exact q⟩
/-! ### dicts keyed by pairs, truths in them -/
def BlV (kvs : List TX) : Prop := ∀ k v, valV kvs k = some v → ∃ b, v = .bl b
def gK (kvs : List TX) (x y : Int) : Bool := match valV kvs (pk (x, y)) with
  | some (.bl b) => b
  | _ => false
theorem gK_get {kvs : List TX} (h : BlV kvs) (x y : Int) : (valV kvs (pk (x, y))).getD (.bl false) = .bl (gK kvs x y) := by
  unfold gK
  cases e : valV kvs (pk (x, y)) with
  | none => rfl
  | some v =>
    obtain ⟨b, rfl⟩ := h _ v e
    rfl
theorem r_dg2 {td ty tx : TE} {σ : L2.St} {H : Hp} {Q : VK} (k : td σ H fun x H1 => ∃ a, x = .ref a ∧ IsD H1 a ∧ ty σ H1 fun y H2 => tx σ H2 fun z H3 => ∃ o, DGet H3 a y o ∧ Q (o.getD z) H3) : tDGet2 td ty tx σ H Q := k
/-- d.get((x, y), False), x and y in slots -/
theorem r_getP {ik ia ib : Nat} {kn : Addr} {kvs : List TX} {x y : Int} {σ : L2.St} {H : Hp} {Q : VK} (hk : σ[ik]? = some (some (.ref kn))) (ha : σ[ia]? = some (some (.int x))) (hb : σ[ib]? = some (some (.int y))) (e : Rd H kn (.dT kvs)) (bl : BlV kvs)
    (q : ∀ H', Keep Nil H H' → Q (.bl (gK kvs x y)) H') : tDGet2 (tVar ik) (tTup (tCons (tVar ia) (tCons (tVar ib) tNil))) (tC (.bl false)) σ H Q := by
  refine r_dg2 (r_var hk ⟨kn, rfl, .inr ⟨kvs, e⟩, r_tup (r_cons (r_var ha (r_cons (r_var hb (r_nil (r_ktup (by simp) fun p hp => r_c ?_))))))⟩)
  have kp : Keep Nil H (upd H p (.tup [.int x, .int y])) := Keep.alloc hp
  have e' : Rd (upd H p (.tup [.int x, .int y])) kn (.dT kvs) := e.imp (fun z => kp.get (fun z => z) z) fun ⟨o, z⟩ => ⟨o, kp.get (fun z => z) z⟩
  have g : DGet (upd H p (.tup [.int x, .int y])) kn (.ref p) (valV kvs (pk (x, y))) := .inr ⟨kvs, pk (x, y), p, e', rfl, upd_same, rfl⟩
  exact ⟨_, g, by rw [gK_get bl]; exact q _ kp⟩
end Hm

/-! F7: an except suite in which the error is known: isinstance of it there, calls of defs there. -/
namespace Hm
open PySem PySem.Spec PyProof.Rows L2
section
variable {X : Cx} {pins : List (Addr × Obj)} {σ : L2.St} {H : Hp} {s : Shared}
theorem suiteM (I : Inv X pins σ H s) (a : Addr) : Inv (X.suite a (X.pn ++ pins)) [] σ H s :=
  ⟨I.ok.suite _ _, I.os, I.bare, I.base, I.loc, I.cell, I.free, I.freeC, fun p hp => I.pin p (by rw [List.append_nil] at hp; exact hp), I.hok, I.len⟩
theorem unsuiteM {a : Addr} {pn' : List (Addr × Obj)} (I : Inv (X.suite a (X.pn ++ pins)) pn' σ H s) (ok : X.Ok) : Inv X pins σ H s :=
  ⟨ok, I.os, I.bare, I.base, I.loc, I.cell, I.free, I.freeC, fun p hp => I.pin p (List.mem_append_left _ hp), I.hok, I.len⟩
end
/-- what a clause «except c as n» wishes, the error known in its suite -/
def wValW (K : PySem.W.Frag) (c : Value) (i : Nat) (ts : Addr → Value → TS) (Wout : WX) (D : Ends) : WX := fun cls d σ H =>
  d = none ∧ ∃ b, PySem.W.exmOne K cls c = some b ∧
    (b = true → ∀ a, H a = none → ts a cls { nx := fun σ' H' => D.nx (σ'.set i none) H', rt := D.rt, bk := fun _ _ => False, ct := fun _ _ => False } (σ.set i (some (.ref a))) (upd H a (ExV cls a))) ∧ (b = false → Wout cls d σ H)
section
variable {X : Cx} {x n : Str} {c : Value} {i : Nat} {body suite : List Stmt} {b₀ : Stmt} {np pos pos' : Pos} {tb : WX → TS} {ts : Addr → Value → TS} {Wout : WX}
/-- try: body, except x as n: suite; what is caught stays an object that is known -/
theorem ps_try_valW (hs : X.stack = X.env :: X.outer) (hf : X.env.frame = some X.env.locals) (hN : X.N.Nodup) (hi : X.N[i]? = some n) (hln : X.env.kindOf n = some .local) (hc : Names X x c) (tk : Takes X Wout) (hex : X.ex = [])
    (hb : ∀ (W : WX) (pn : List (Addr × Obj)) (xe : Value → Shared → Prop), Takes (X.tr pn xe) W → PassesOwn (model X.prog X.w) X.A X.env xe → PSs (X.tr pn xe) body (tb W))
    (hsu : ∀ (a : Addr) (cls : Value) (pn : List (Addr × Obj)), PSs (X.suite a pn) (b₀ :: suite) (ts a cls)) :
    PS X (.Try body [.ExceptHandler (some (.Name x np)) (some n) (b₀ :: suite) pos'] [] [] pos) (fun D σ H => tb (wValW X.K c i ts Wout D) D σ H) := by
  refine ⟨fun pins s σ H D I h => wpAny_Try_except ?_⟩
  have ok := I.ok
  have hfr : X.A.frames = some (X.env :: X.outer) := by rw [ok.frames, hs]
  have run := (hb (wValW X.K c i ts Wout D) (X.pn ++ pins) (fun e s₁ => wpAny (model X.prog X.w) X.A (noteFrame e X.env) (fun _ s₂ => wpAny (model X.prog X.w) X.A (setFlight e none)
    (fun _ s₃ => wpAny (model X.prog X.w) X.A (handleBy e X.env [.ExceptHandler (some (.Name x np)) (some n) (b₀ :: suite) pos']) (SP X pins D) X.xe s₃) X.xe s₂) X.xe s₁) ?_ PassesOwn.looking).run [] s σ H D (I.toTry _) h
  · refine wpAny_mono run (fun f s1 hsp => ?_) fun _ _ z => z
    cases f with
    | next => obtain ⟨σ', H', J', q⟩ := hsp; exact wpAny_execs_nil ⟨σ', H', J'.ofTry ok, q⟩
    | brk => obtain ⟨σ', H', J', q⟩ := hsp; exact ⟨σ', H', J'.ofTry ok, q⟩
    | cont => obtain ⟨σ', H', J', q⟩ := hsp; exact ⟨σ', H', J'.ofTry ok, q⟩
    | ret u => obtain ⟨v, σ', H', J', r, q⟩ := hsp; exact ⟨v, σ', H', J'.ofTry ok, r, q⟩
  rintro u s' ⟨a, B, sI, pins', σ', H', cls, d, rfl, J', nb, up, sky, na, os, ag, rfl, b, hb1, hyes, hno⟩
  have J : Inv X pins σ' H' sI := J'.ofTry ok
  have air : Sky B (X.env :: X.outer) a (Zc cls none) X.env.locals s'.heap := by rw [← hs]; exact sky
  show wpAny (model X.prog X.w) X.A (noteFrame (.ref a) X.env) _ _ _
  refine Sky.land Zc.steady hfr hf air fun h3 fl3 up3 => ?_
  have J3 : Inv X pins σ' H' { s' with heap := h3 } := J.landed nb fl3.1 (up.trans up3) os ag
  obtain ⟨oe3, vs3, he3, hz3, hd3⟩ := fl3.there
  have aside : a ∉ frs (X.env :: X.outer) := fun hm => by
    obtain ⟨_, o', e', hnf⟩ := fl3.2.2.1.mem hm
    rw [he3] at e'; cases e'
    exact hnf _ hd3
  have gI : sI.heap.get? a = none := by
    cases e : sI.heap.get? a with
    | none => rfl
    | some o =>
      have q := nb a o e (by show a ∉ frs X.stack; rw [hs]; exact aside)
      rw [fl3.2.1] at q; cases q
  have nL : a ≠ X.env.locals := fun z => aside (List.mem_filterMap.mpr ⟨X.env, List.mem_cons_self, by rw [hf, z]⟩)
  have nF : a ∉ X.fs := fun hm => by
    obtain ⟨e, he, q⟩ := List.mem_filterMap.mp hm
    exact aside (List.mem_filterMap.mpr ⟨e, List.mem_cons_of_mem _ he, q⟩)
  have h00 : X.s_0.heap.get? a = none := by
    cases e : X.s_0.heap.get? a with
    | none => rfl
    | some o =>
      obtain ⟨o', q⟩ := J.base.there a o e (by rw [hex]; exact List.not_mem_nil)
      rw [gI] at q; cases q
  have noCell : ∀ y k, X.env.cells.lookup y = some k → k ≠ a := fun y k e z => by
    obtain ⟨v, o, q, _⟩ := J.cell y k e
    rw [z, gI] at q; cases q
  have noPin : ∀ p ∈ X.pn ++ pins, p.1 ≠ a := fun p hp z => by
    have q := (J.pin p hp).1
    rw [z, gI] at q; cases q
  have S3 := J3.suite he3 hd3 na nL nF
  refine wpAny_handleBy_cons (codeAny_handlers_test ?_) (by intro q; cases q)
  have LT : PySem.W.Looks (model X.prog X.w) h3 (typeOf (.ref a)) cls := fun A Q E s k q => wpAny_typeOf_ref (k _ _ he3) (by rw [hz3.1]; exact q)
  have LM := PySem.W.exm_one (M := model X.prog X.w) (J3.kIn) LT hb1
  have test : ∀ {Q : Value → Shared → Prop} {E : Value → Shared → Prop}, Q c { s' with heap := h3 } → wpAny (model X.prog X.w) (X.A.mark (some (.ref a))) (eval (.Name x np) X.env) Q E { s' with heap := h3 } := fun {Q E} q => by
    obtain ⟨hg, hdbg, hm | ⟨hm, hv, hnn⟩⟩ := hc
    · exact ld_glob (X := X.suite a ((a, oe3) :: (X.pn ++ pins))) S3 hg hm q hdbg
    · exact ld_blt (X := X.suite a ((a, oe3) :: (X.pn ++ pins))) S3 hg hm hv q hnn hdbg
  refine test (LM.here ?_)
  cases b with
  | false =>
    show wpAny _ X.A (handleBy (.ref a) X.env []) _ _ _
    refine wpAny_handleBy_nil ?_
    obtain ⟨k1, k2, k3, oe, vs, T, oT, ts', he, hz, hd, h1, hr⟩ := id fl3
    unfold PySem.passOn
    refine wpAny_bind (wpAny_field he hd h1 ?_)
    rw [if_neg (show ¬ ((Value.ref T == Value.none) = true) from by simp)]
    have fin : wpAny (model X.prog X.w) X.A (setFlight (.ref a) X.env.frame) (fun _ s4 => wpAny (model X.prog X.w) X.A (throw (.ref a) : Sem Flow) (SP X pins D) X.xe s4) X.xe { s' with heap := h3 } := by
      rw [hf]
      refine HandSPX.setFlight_upZ fl3 fun h4 hh4 up4 => wpAny_throw (tk _ _ ?_)
      exact ⟨a, B, sI, pins, σ', H', cls, none, rfl, J, nb, (up.trans up3).trans up4, .inr (.inr (by rw [hs]; exact hh4)), na, os, ag, hno rfl⟩
    first
      | exact wpAny_bind (wpAny_pure (wpAny_bind fin))
      | exact wpAny_bind fin
  | true =>
    refine codeAny_handlers_suite_as (HandSPX.lands_againZ fl3 fun h4 fl4 up4 => ?_)
    have J4 : Inv X pins σ' H' { s' with heap := h4 } := J.landed nb fl4.1 ((up.trans up3).trans up4) os ag
    obtain ⟨oe4, vs4, he4, hz4, hd4⟩ := fl4.there
    have S3' : Inv (X.suite a (X.pn ++ pins)) [] σ' H' { s' with heap := h4 } := suiteM J4 a
    have S4 := show_ (φ := fun h => ∃ (oe : Obj) (vs : Array Value), h.get? a = some oe ∧ Zc cls none oe ∧ oe.data = .fields vs) S3' na h00 nL.symm noCell (fun p hp => noPin p (by rw [List.append_nil] at hp; exact hp)) (exV_ok he4 hz4 hd4)
    refine store_ok (X := X.suite a (X.pn ++ pins)) (v := .ref a) S4 hN hi (.inl hln) rfl (fun s5 S5 => ?_) (.inr hln)
    refine wpAny_mono ((hsu a cls (X.pn ++ pins)).run [] s5 _ _ _ S5 (hyes rfl a na)) (fun f s6 hsp => ?_) (fun _ _ z => False.elim z)
    cases f with
    | next =>
      obtain ⟨σ6, H6, S6, q6⟩ := hsp
      exact gone_ok (unsuiteM S6 ok) hN hi hln fun s7 J8 => ⟨_, _, J8, q6⟩
    | brk => obtain ⟨σ6, H6, S6, q6⟩ := hsp; exact q6.elim
    | cont => obtain ⟨σ6, H6, S6, q6⟩ := hsp; exact q6.elim
    | ret u =>
      obtain ⟨v6, σ6, H6, S6, r6, q6⟩ := hsp
      exact gone_ok (unsuiteM S6 ok) hN hi hln fun s7 J7 => ⟨_, _, _, J7, r6, q6⟩
end
/-! ### defs that are called in an except suite -/
structure FnM (P : Program) (w : World) (K : PySem.W.Frag) (mg : Str → Option Value) (base : Heap) (CX : CXT) (k : Nat) (f : Addr) (fd : FuncData) (ps : List Str) (sp : Sp) : Prop where
  len : ∀ vs H Q E, sp vs H Q E → vs.length = ps.length
  run : ∀ (A : Around) (outer : List Env) (s : Shared) (H : Hp) (args : Args) (us : List Value) (vs : List V) (Q : VK) (E : XK), L2H.RoomH k A → Env0 P w K mg base A outer s H → BindsTo s fd args (ps.zip us) → Vals vs us → sp vs H Q E →
    codeAny (model P w) A (.call (.ref f) args) (CR CX outer P w H s Q E) s
def cxM (CX : CXT) (P : Program) (w : World) (K : PySem.W.Frag) (mg : Str → Option Value) (base : Heap) (N : List Str) (qual : Str) (scope : Scope) (f : Addr) (cd : Value) (A : Around) (outer : List Env) (s : Shared) (H : Hp) (E : XK) : Cx :=
  { cxOf CX P w K mg base N qual scope f cd A outer s H E with calm := false }
theorem inv_startM {CX : CXT} {P : Program} {w : World} {K : PySem.W.Frag} {mg : Str → Option Value} {base : Heap} {N ps : List Str} {qual : Str} {scope : Scope} {f : Addr} {cd : Value} {A : Around} {outer : List Env} {s s1 : Shared} {H : Hp} {E : XK} {us : List Value} {vs : List V}
    (S : FnScope N ps scope) (e0 : Env0 P w K mg base A outer s H) (hl : vs.length = ps.length) (r : Vals vs us)
    (x : InCallC s s.heap.objs.size (bindL (envOfC qual scope s.heap.objs.size f cd).kindOf (ps.zip us) fun _ => none) (cellsFrom (s.heap.objs.size + 1) scope.names []) (bindC (envOfC qual scope s.heap.objs.size f cd).kindOf (ps.zip us) fun _ => none) s1) :
    Inv (cxM CX P w K mg base N qual scope f cd A outer s H E) [] (L2.start N vs) H s1 := by
  have I := inv_start (CX := CX) (E := E) (A := { A with handled := none }) S rfl ⟨e0.frames, e0.mod, e0.bs, e0.bsz, e0.funs, e0.frf, e0.hok, e0.bare⟩ hl r x
  have o := I.ok
  exact ⟨⟨o.mod, o.kind, o.glob, o.blt, o.above, o.inj, o.has, o.cab, fun z => Bool.noConfusion (show false = true from z), Around.frames_deeper e0.frames, o.stk, o.exf, o.bs, o.bsz, o.noex, o.exfs, o.funs, o.frf⟩, I.os, I.bare, I.base, I.loc, I.cell, I.free, I.freeC, I.pin, I.hok, I.len⟩
theorem fn_ofM {P : Program} {w : World} {K : PySem.W.Frag} {mg : Str → Option Value} {base : Heap} {k : Nat} {x qual : Str} {st : Stmt} {f : Addr} {fd : FuncData} {N ps : List Str} {sp : Sp} (F : Fun K x qual st f fd) (S : FnScope N ps (defScope st))
    (len : ∀ vs H Q E, sp vs H Q E → vs.length = ps.length)
    (hbody : ∀ (cdv : Value) (A : Around) (outer : List Env) (s : Shared) (H : Hp) (vs : List V) (Q : VK) (E : XK), L2H.RoomH k (A.deeper (envOfC qual (defScope st) s.heap.objs.size f cdv)) → sp vs H Q E →
      ∃ t, PSs (cxM CX0 P w K mg base N qual (defScope st) f cdv A outer s H E).nox (defBody st) t ∧ t { nx := fun _ H' => Q .non H', rt := Q } (L2.start N vs) H) :
    FnM P w K mg base CX0 (k + 1) f fd ps sp := by
  obtain ⟨oc, od, kV, doc, pm, an, cdv, ct, osl, rfl, lk, hcd⟩ := F.ex
  refine ⟨len, fun A outer s H args us vs Q E hr e0 hb r hsp => ?_⟩
  have KX : K.In s.heap := e0.mod.kin.keeps fun b o e => (e0.bs b o e).1
  refine codeAny_call_function hr.depth (KX _ _ lk) rfl S.co S.gen rfl (PySem.W.codeRec_of KX hcd) (hb _ _ _ _ ?_)
  refine wpAny_newFunctionEnv_cells S.kind (fun ⟨n, v⟩ hy => (S.par n (List.of_mem_zip hy).1).imp id fun q => ⟨q, PySem.W.cellsFrom_some _ _ _ (.inl q)⟩) fun env he s1 x => ?_
  subst he
  refine ⟨(e0.mod.nolimit.keeps fun b o e => (e0.bs b o e).1).keeps x.toInCall.keep, codeAny_func ?_⟩
  obtain ⟨t, ht, hq⟩ := hbody cdv A outer s H vs Q E (hr.deeper _) hsp
  refine wpAny_mono (ht.nox.run [] s1 (L2.start N vs) H _ (inv_startM S e0 (len _ _ _ _ hsp) r x) hq) (fun fl s' hs => ?_) fun e s' hs => hs
  cases fl with
  | ret u =>
    obtain ⟨v, σ', H', J, rv, q⟩ := hs
    exact ⟨v, H', J.os, J.bare, J.base, J.hok, rv, q⟩
  | next =>
    obtain ⟨σ', H', J, q⟩ := hs
    exact ⟨V.non, H', J.os, J.bare, J.base, J.hok, rfl, q⟩
  | brk =>
    obtain ⟨_, _, _, q⟩ := hs
    exact q.elim
  | cont =>
    obtain ⟨_, _, _, q⟩ := hs
    exact q.elim
structure CalM (P : Program) (w : World) (K : PySem.W.Frag) (mg : Str → Option Value) (base : Heap) (k : Nat) (x : Str) (sp : Sp) : Prop where
  ex : ∃ (f : Addr) (fd : FuncData) (ps : List Str), FnM P w K mg base CX0 k f fd ps sp ∧ mg x = some (.ref f) ∧ PySem.W.keepIn K (.ref f) = true ∧ Binds K fd ps []
section
variable {X : Cx} {k j : Nat} {x m : Str} {sp : Sp} {p pos apos : Pos} {e o : Expr} {es : List Expr} {ta : TE} {t : TA}
theorem e_callM (c : CalM X.prog X.w X.K X.mg X.base k x sp) (hr : L2H.RoomH j X.A) (hk : k ≤ j) (hg : Gl X x) (ha : PA X (e :: es) t)
    (hdb : (x == ("__debug__" : Str)) = false := by decide) (he : starEach (e :: es) X.env = (false, eval e X.env) :: starEach es X.env := by rfl) (hpl : (backTo pos (starEach es X.env)).any (·.1) = false := by rfl) :
    PE X (.Call (.Name x p) (e :: es) [] pos) (tCall sp [] E0 t) := by
  obtain ⟨f, fd, ps, F, hm, kp, b⟩ := c.ex
  refine ⟨fun pins s σ H Q I h => ?_⟩
  refine wpAny_Call_Name_kw (ld_glob I hg hm ?_ hdb)
  refine PySem.W.callWith_K (h₀ := X.base) I.ok.mod.kin kp (thn (ha.run pos pins s σ H _ I h) fun us s1 ⟨vs, H1, I1, r, q⟩ => ⟨I1.kIn, ?_⟩) he hpl
  have q : sp vs H1 Q E0 := by
    have q' : sp (vs ++ []) H1 Q E0 := q
    simpa only [List.append_nil] using q'
  have hl : us.length = ps.length := by rw [← r.length]; exact F.len _ _ _ _ q
  have b' := b s1 us I1.kIn (by rw [List.append_nil]; exact hl)
  rw [List.append_nil] at b'
  refine wpAny_call (codeAny_mono (F.run X.A X.stack s1 H1 ⟨us, []⟩ us vs Q E0 (hr.mono hk) I1.env0 b' r q) fun r s' hq => ?_)
  cases r with
  | error e => exact hq.elim
  | ok fl =>
    cases fl with
    | ret u => exact I1.after hq
    | next => exact False.elim hq
    | brk => exact False.elim hq
    | cont => exact False.elim hq
end
theorem hu64M {k : Nat} {A : Around} (r : L2H.RoomH k A) : A.units + 64 < cLine := by have := r.un; omega
theorem hu65M {k : Nat} {A : Around} (r : L2H.RoomH k A) : A.units + 65 < cLine := by have := r.un; omega
/-! ### try -/
def tTryW (K : PySem.W.Frag) (c : Value) (i : Nat) (ts : TS) (tb : WX → TS) : TS := fun D σ H => tb (wValW K c i (fun _ _ => ts) (fun _ _ _ _ => False) D) D σ H
theorem r_tryW {K : PySem.W.Frag} {c : Value} {i : Nat} {ts : TS} {tb : WX → TS} {D : Ends} {σ : L2.St} {H : Hp} (h : tb (wValW K c i (fun _ _ => ts) (fun _ _ _ _ => False) D) D σ H) : tTryW K c i ts tb D σ H := h
theorem w_valW {K : PySem.W.Frag} {c cls : Value} {i : Nat} {ts : TS} {D : Ends} {σ : L2.St} {H : Hp} (hm : PySem.W.exmOne K cls c = some true)
    (h : ∀ a, H a = none → ts { nx := fun σ' H' => D.nx (σ'.set i none) H', rt := D.rt, bk := fun _ _ => False, ct := fun _ _ => False } (σ.set i (some (.ref a))) (upd H a (ExV cls a))) : wValW K c i (fun _ _ => ts) (fun _ _ _ _ => False) D cls none σ H :=
  ⟨rfl, true, hm, fun _ a ha => h a ha, fun z => nomatch z⟩
section
variable {X : Cx} {x n : Str} {c : Value} {i : Nat} {body suite : List Stmt} {b₀ : Stmt} {np pos pos' : Pos} {tb : WX → TS} {ts : TS}
theorem ps_tryW (hs : X.stack = X.env :: X.outer) (hf : X.env.frame = some X.env.locals) (hN : X.N.Nodup) (hi : X.N[i]? = some n) (hln : X.env.kindOf n = some .local) (hc : Names X x c) (hex : X.ex = [])
    (hb : ∀ (W : WX) (pn : List (Addr × Obj)) (xe : Value → Shared → Prop), Takes (X.tr pn xe) W → PassesOwn (model X.prog X.w) X.A X.env xe → PSs (X.tr pn xe) body (tb W))
    (hsu : ∀ (a : Addr) (pn : List (Addr × Obj)), PSs (X.suite a pn) (b₀ :: suite) ts) :
    PS X (.Try body [.ExceptHandler (some (.Name x np)) (some n) (b₀ :: suite) pos'] [] [] pos) (tTryW X.K c i ts tb) :=
  ps_try_valW (tb := tb) (ts := fun _ _ => ts) hs hf hN hi hln hc takes0 hex (fun W pn xe tk po => hb W pn xe tk po) fun a _ pn => hsu a pn
end
end Hm

namespace Hm
open PySem L2
/-! F3m: the reading's steps. kaf_suf: one step; kaf_pre: what stands at an address; tlg_ne: two addresses differ. -/
local macro_rules | `(tactic| tlg_ne) => `(tactic| first
  | with_reducible assumption
  | with_reducible exact Ne.symm (by assumption)
  | (refine' ne_old (by assumption) ?a; (case a => (kaf_pre; done)))
  | (refine' ne_new (by assumption) ?a; (case a => (kaf_pre; done)))
  | fail "tlg_ne")
local macro_rules | `(tactic| kaf_pre) => `(tactic| first
  | with_reducible assumption
  | ((with_reducible refine' upd_at ?a); (case a => rfl))
  | ((first
      | (with_reducible refine' get_new (by assumption) ?b)
      | ((with_reducible refine' get_set ?a ?b); (case a => (tlg_ne; done)))
      | ((with_reducible refine' Keep.get (by assumption) ?a ?b); (case a => (first | assumption | (intro z; exact z.elim) | fail "kaf_pre")))
      | fail "kaf_pre"); (case b => (kaf_pre; done)))
  | ((fail_if_success (with_reducible refine' is_upd ?_)); assumption)
  | ((with_reducible refine' get_setK ?a ?b ?e); (case a => (kaf_pre; done)); (case b => (kaf_pre; done)); (case e => (intro z; cases z; done)))
  | fail "kaf_pre")
local macro_rules | `(tactic| isplit) => `(tactic| first
  | assumption
  | ((with_reducible refine' seq_new (by assumption) ?a); (case a => (isplit; done)))
  | ((with_reducible refine' seq_keep (by assumption) ?a); (case a => (isplit; done))))
local macro_rules | `(tactic| kaf_suf) => `(tactic| first
  | with_reducible refine r_seq ?_
  | with_reducible refine r_asg ?_
  | ((with_reducible refine' r_var ?a ?_); (case a => rfl))
  | with_reducible refine r_c ?_
  | with_reducible refine r_gname ?_
  | with_reducible refine r_op ?_
  | with_reducible refine r_cons ?_
  | with_reducible refine r_nil ?_
  | with_reducible refine r_cb ?_
  | with_reducible refine r_call ?_
  | with_reducible refine r_meth ?_
  | with_reducible refine r_fld ?_
  | with_reducible refine r_if ?_
  | with_reducible refine r_test ?_
  | with_reducible refine r_kB ?_
  | with_reducible refine r_ite_tt ?_
  | with_reducible refine r_ite_ff ?_
  | with_reducible refine r_ite_nt ?_
  | with_reducible refine r_ite_nf ?_
  | ((with_reducible refine' r_iteT' ?a ?_); (case a => first | assumption | rfl | omega))
  | ((with_reducible refine' r_iteF' ?a ?_); (case a => first | assumption | omega))
  | ((with_reducible refine' r_iteNT' ?a ?_); (case a => first | assumption | omega))
  | ((with_reducible refine' r_iteNF' ?a ?_); (case a => first | assumption | rfl | omega))
  | with_reducible refine r_next ?_
  | with_reducible refine r_nx ?_
  | with_reducible refine r_rt ?_
  | with_reducible refine r_bk ?_
  | with_reducible refine r_ct ?_
  | with_reducible refine r_drop ?_
  | with_reducible refine r_ret ?_
  | with_reducible refine v_add ?_
  | with_reducible refine v_sub ?_
  | with_reducible refine v_eq ?_
  | with_reducible refine v_ne ?_
  | with_reducible refine v_lt ?_
  | with_reducible refine v_le ?_
  | with_reducible refine v_gt ?_
  | with_reducible refine v_ge ?_
  | ((with_reducible refine' v_mod ?a ?_); (case a => first | assumption | decide | omega))
  | ((with_reducible refine' v_mul ?a ?_); (case a => first | assumption | decide | omega))
  | ((with_reducible refine' v_div ?a ?_); (case a => first | assumption | decide | omega))
  | ((with_reducible refine' v_pow ?a ?_); (case a => exact ⟨by decide, by decide, by decide⟩))
  | ((with_reducible refine' v_ixL ?a ?b ?_); (case a => (kaf_pre; done)); (case b => (first | assumption | rfl)))
  | ((with_reducible refine' v_ixT ?a ?b ?_); (case a => (kaf_pre; done)); (case b => (first | assumption | rfl)))
  | ((with_reducible refine' v_lenL ?a ?_); (case a => (kaf_pre; done)))
  | ((with_reducible refine' v_lenT ?a ?_); (case a => (kaf_pre; done)))
  | ((with_reducible refine' v_lenK ?a ?_); (case a => (isplit; done)))
  | ((with_reducible refine' v_ixK ?a ?b ?_); (case a => (isplit; done)); (case b => (first | assumption | rfl)))
  | ((with_reducible refine' v_append ?a ?b ?_); (case a => (kaf_pre; done)); (case b => first | assumption | exact few1 (by simp; omega)))
  | ((with_reducible refine' r_krng1 ?a ?_); (case a => first | assumption | decide | omega))
  | with_reducible refine v_int ?_
  | with_reducible refine v_intB ?_
  | with_reducible refine v_max ?_
  | with_reducible refine v_min ?_
  | with_reducible refine r_and ?_
  | with_reducible refine r_or ?_
  | with_reducible refine r_not ?_
  | with_reducible refine r_tup ?_
  | with_reducible refine r_lst ?_
  | ((with_reducible refine' r_ktup ?a ?_); (case a => (simp; done)))
  | ((with_reducible refine' r_klst ?a ?_); (case a => (simp; done)))
  | with_reducible refine r_bm ?_
  | with_reducible refine r_bm0 ?_
  | ((with_reducible refine' r_kbm_l ?a ?_); (case a => (kaf_pre; done)))
  | with_reducible refine r_gsub ?_
  | ((with_reducible refine' v_setL ?a ?b ?_); (case a => (kaf_pre; done)); (case b => first | assumption | rfl))
  | with_reducible refine r_sfld ?_
  | with_reducible refine r_make ?_
  | with_reducible refine r_for ?_
  | with_reducible refine r_rng1 ?_
  | with_reducible refine r_iany ?_
  | ((with_reducible refine' r_kiterL ?a ?_); (case a => (kaf_pre; done)))
  | ((with_reducible refine' r_kiterT ?a ?_); (case a => (kaf_pre; done)))
  | with_reducible refine r_lc ?_
  | with_reducible refine r_yes ?_
  | with_reducible refine r_chain ?_
  | with_reducible refine r_andV ?_
  | with_reducible refine r_orV ?_
  | with_reducible refine r_notV ?_
  | with_reducible refine r_tru ?_
  | with_reducible refine r_tru_bl ?_
  | with_reducible refine r_un ?_
  | with_reducible refine r_rU ?_
  | with_reducible refine r_sl ?_
  | with_reducible refine r_nopart ?_
  | with_reducible refine r_part ?_
  | with_reducible refine r_kI ?_
  | with_reducible refine r_rev ?_
  | with_reducible refine r_lstRg1 ?_
  | with_reducible refine r_krg ?_
  | with_reducible refine v_isN ?_
  | with_reducible refine v_notN ?_
  | with_reducible refine v_isB ?_
  | with_reducible refine v_notB ?_
  | with_reducible refine v_eqS ?_
  | with_reducible refine v_neS ?_
  | ((with_reducible refine' v_isiI ?a ?_); (case a => first | with_reducible exact kit_int_int | with_reducible exact kit_int_bool | with_reducible exact kit_int_list | with_reducible exact kit_int_tuple | with_reducible exact kit_int_str))
  | ((with_reducible refine' v_isiB ?a ?_); (case a => first | with_reducible exact kit_bool_int | with_reducible exact kit_bool_bool | with_reducible exact kit_bool_list | with_reducible exact kit_bool_tuple | with_reducible exact kit_bool_str))
  | ((with_reducible refine' v_isiS ?a ?_); (case a => first | with_reducible exact kit_str_int | with_reducible exact kit_str_bool | with_reducible exact kit_str_list | with_reducible exact kit_str_tuple | with_reducible exact kit_str_str))
  | ((with_reducible refine' v_isiL ?a ?b ?_); (case a => (kaf_pre; done)); (case b => first | with_reducible exact kit_list_int | with_reducible exact kit_list_bool | with_reducible exact kit_list_list | with_reducible exact kit_list_tuple | with_reducible exact kit_list_str))
  | ((with_reducible refine' v_isiT ?a ?b ?_); (case a => (kaf_pre; done)); (case b => first | with_reducible exact kit_tuple_int | with_reducible exact kit_tuple_bool | with_reducible exact kit_tuple_list | with_reducible exact kit_tuple_tuple | with_reducible exact kit_tuple_str))
  | with_reducible refine r_brk ?_
  | with_reducible refine r_cont ?_
  | with_reducible refine r_par ?_
  | with_reducible refine r_par2 ?_
  | with_reducible refine v_abs ?_
  | ((with_reducible refine' v_listL ?a ?_); (case a => (kaf_pre; done)))
  | ((with_reducible refine' v_listT ?a ?_); (case a => (kaf_pre; done)))
  | ((with_reducible refine' v_set ?a ?b ?_); (case a => (kaf_pre; done)); (case b => first | assumption | omega | (simp; omega)))
  | ((with_reducible refine' v_sortedS ?a ?_); (case a => (kaf_pre; done)))
  | ((with_reducible refine' v_sortedL ?a ?_); (case a => (kaf_pre; done)))
  | ((with_reducible refine' v_tupleL ?a ?_); (case a => (kaf_pre; done)))
  | ((with_reducible refine' v_addL ?a ?b ?e ?_); (case a => (kaf_pre; done)); (case b => (kaf_pre; done)); (case e => first | assumption | exact few2 (by simp; omega)))
  | ((with_reducible refine' v_addT ?a ?b ?e ?_); (case a => (kaf_pre; done)); (case b => (kaf_pre; done)); (case e => first | assumption | exact few2 (by simp; omega))))

local macro_rules | `(tactic| kaf_suf) => `(tactic| first
  | with_reducible refine r_raiseC ?_
  | with_reducible refine r_raiseE ?_
  | with_reducible refine r_tryV ?_
  | with_reducible refine r_methS ?_
  | with_reducible refine r_callW ?_
  | with_reducible refine v_isiN kit_NoneType_int ?_)

local macro_rules | `(tactic| kaf_suf) => `(tactic| first
  | with_reducible refine r_tryW ?_)

local macro_rules | `(tactic| kaf_suf) => `(tactic| first
  | with_reducible refine r_gcons ?_
  | with_reducible refine r_gnil ?_
  | ((with_reducible refine' r_seqT ?a ?b ?_); (case a => (kaf_pre; done)); (case b => rfl))
  | ((with_reducible refine' r_seqL ?a ?b ?_); (case a => (kaf_pre; done)); (case b => rfl)))

def top (i : Nat) : Stmt := PySem.Challenge.pw_hotmoves_k28_the_simplest.main.body.getD i (.Pass ⟨0, 0, 0, 0⟩)
abbrev s_is_less : Stmt := top 4
abbrev s_lies_in : Stmt := top 5
abbrev s_nearest_whole : Stmt := top 6
abbrev s_simplest : Stmt := top 7
abbrev s_law_cell : Stmt := top 9
abbrev s_law_store : Stmt := top 10
abbrev s_law_take : Stmt := top 11
abbrev s_law_whole : Stmt := top 12
abbrev s_law_fraction : Stmt := top 13
abbrev s_law_lowest : Stmt := top 14
abbrev s_law_lies : Stmt := top 15
abbrev s_law_simplest : Stmt := top 16
abbrev s_law_drawn : Stmt := top 17
abbrev s_law_asked : Stmt := top 18
abbrev s_law : Stmt := top 19
structure Cn where
  P : Program
  w : World
  K : PySem.W.Frag
  cGameError : Addr
  cNoNumber : Addr
structure Txt (c : Cn) (mg : Str → Option Value) : Prop where
  n_ValueError : mg "ValueError" = none
  n_abs : mg "abs" = none
  n_bool : mg "bool" = none
  n_int : mg "int" = none
  n_isinstance : mg "isinstance" = none
  n_len : mg "len" = none
  n_max : mg "max" = none
  n_min : mg "min" = none
  n_range : mg "range" = none
  n_tuple : mg "tuple" = none
  g_GameError : mg "GameError" = some (.ref c.cGameError)
  g_NoNumber : mg "NoNumber" = some (.ref c.cNoNumber)
  x_GameError : XCl c.K mg "GameError" c.cGameError
  m_GameError : PySem.W.exmOne c.K (.ref c.cGameError) (.ref c.cGameError) = some true
  x_NoNumber : XCl c.K mg "NoNumber" c.cNoNumber
  m_NoNumber : PySem.W.exmOne c.K (.ref c.cNoNumber) (.ref c.cGameError) = some true
  e_GameError : ExcC c.K c.cGameError
  iv_GameError : PySem.W.kitOne c.K (.ref c.cGameError) (.type "ValueError") = some true
  i_GameError_GameError : PySem.W.kitOne c.K (.ref c.cGameError) (.ref c.cGameError) = some true
  i_GameError_NoNumber : PySem.W.kitOne c.K (.ref c.cGameError) (.ref c.cNoNumber) = some false
  e_NoNumber : ExcC c.K c.cNoNumber
  mm_NoNumber : PySem.W.exmOne c.K (.ref c.cNoNumber) (.ref c.cNoNumber) = some true
  iv_NoNumber : PySem.W.kitOne c.K (.ref c.cNoNumber) (.type "ValueError") = some true
  i_NoNumber_GameError : PySem.W.kitOne c.K (.ref c.cNoNumber) (.ref c.cGameError) = some true
  i_NoNumber_NoNumber : PySem.W.kitOne c.K (.ref c.cNoNumber) (.ref c.cNoNumber) = some true
  F_is_less : ∃ (f : Addr) (fd : FuncData), Fun c.K "is_less" "is_less" s_is_less f fd ∧ mg "is_less" = some (.ref f) ∧ Binds c.K fd ["q", "r"] []
  F_lies_in : ∃ (f : Addr) (fd : FuncData), Fun c.K "lies_in" "lies_in" s_lies_in f fd ∧ mg "lies_in" = some (.ref f) ∧ Binds c.K fd ["q", "low", "high"] []
  F_nearest_whole : ∃ (f : Addr) (fd : FuncData), Fun c.K "nearest_whole" "nearest_whole" s_nearest_whole f fd ∧ mg "nearest_whole" = some (.ref f) ∧ Binds c.K fd ["low", "high"] []
  F_simplest : ∃ (f : Addr) (fd : FuncData), Fun c.K "simplest" "simplest" s_simplest f fd ∧ mg "simplest" = some (.ref f) ∧ Binds c.K fd ["low", "high"] []
  F_law_cell : ∃ (f : Addr) (fd : FuncData), Fun c.K "_law_cell" "_law_cell" s_law_cell f fd ∧ mg "_law_cell" = some (.ref f) ∧ Binds c.K fd ["script", "k"] []
  F_law_store : ∃ (f : Addr) (fd : FuncData), Fun c.K "_law_store" "_law_store" s_law_store f fd ∧ mg "_law_store" = some (.ref f) ∧ Binds c.K fd ["cell"] []
  F_law_take : ∃ (f : Addr) (fd : FuncData), Fun c.K "_law_take" "_law_take" s_law_take f fd ∧ mg "_law_take" = some (.ref f) ∧ Binds c.K fd ["store", "many"] []
  F_law_whole : ∃ (f : Addr) (fd : FuncData), Fun c.K "_law_whole" "_law_whole" s_law_whole f fd ∧ mg "_law_whole" = some (.ref f) ∧ Binds c.K fd ["found"] []
  F_law_fraction : ∃ (f : Addr) (fd : FuncData), Fun c.K "_law_fraction" "_law_fraction" s_law_fraction f fd ∧ mg "_law_fraction" = some (.ref f) ∧ Binds c.K fd ["found"] []
  F_law_lowest : ∃ (f : Addr) (fd : FuncData), Fun c.K "_law_lowest" "_law_lowest" s_law_lowest f fd ∧ mg "_law_lowest" = some (.ref f) ∧ Binds c.K fd ["top", "bottom"] []
  F_law_lies : ∃ (f : Addr) (fd : FuncData), Fun c.K "_law_lies" "_law_lies" s_law_lies f fd ∧ mg "_law_lies" = some (.ref f) ∧ Binds c.K fd ["q", "low", "high"] []
  F_law_simplest : ∃ (f : Addr) (fd : FuncData), Fun c.K "_law_simplest" "_law_simplest" s_law_simplest f fd ∧ mg "_law_simplest" = some (.ref f) ∧ Binds c.K fd ["found", "low", "high"] []
  F_law_drawn : ∃ (f : Addr) (fd : FuncData), Fun c.K "_law_drawn" "_law_drawn" s_law_drawn f fd ∧ mg "_law_drawn" = some (.ref f) ∧ Binds c.K fd ["store"] []
  F_law_asked : ∃ (f : Addr) (fd : FuncData), Fun c.K "_law_asked" "_law_asked" s_law_asked f fd ∧ mg "_law_asked" = some (.ref f) ∧ Binds c.K fd ["low", "high"] []
/-! the simplest fraction between two: the plain law -/
abbrev Fr := Int × Int
def ltF (q r : Fr) : Bool := decide (q.1 * r.2 < r.1 * q.2)
def liF (q : Fr) (low high : Option Fr) : Bool := (low.elim true fun l => ltF l q) && (high.elim true fun h => ltF q h)
theorem floor_lt {l d b : Int} (hd : 0 < d) : l * b < (l * b / d + 1) * d := by
  have := Int.emod_lt_of_pos (l * b) hd
  have e := Int.mul_ediv_add_emod (l * b) d
  rw [Int.add_mul, Int.one_mul, Int.mul_comm (l * b / d) d]; omega
theorem floor_le {l d b m : Int} (hd : 0 < d) (h : l * b < m * d) : l * b / d + 1 ≤ m := by
  have : l * b / d < m := Int.ediv_lt_of_lt_mul hd h
  omega
/-- what comes next in the loop: the least multiple of 1/b above low -/
def nxF (l : Fr) (b : Int) : Fr := (l.1 * b / l.2 + 1, b)
theorem nxF_gt {l : Fr} {b : Int} (hd : 0 < l.2) : ltF l (nxF l b) = true := decide_eq_true (floor_lt hd)
/-- fine enough, it lies below high -/
theorem nxF_end {l h : Fr} {b : Int} (hl : 0 < l.2) (hh : 0 < h.2) (lt : ltF l h = true) (hb : l.2 * h.2 < b) : ltF (nxF l b) h = true := by
  have lt := of_decide_eq_true lt
  refine decide_eq_true ?_
  show (l.1 * b / l.2 + 1) * h.2 < h.1 * b
  have e := Int.mul_ediv_add_emod (l.1 * b) l.2
  have r0 := Int.emod_nonneg (l.1 * b) (show l.2 ≠ 0 by omega)
  have hb0 : 0 < b := Int.lt_trans (Int.mul_pos hl hh) hb
  refine Int.lt_of_mul_lt_mul_left (a := l.2) ?_ (Int.le_of_lt hl)
  have s1 : l.2 * ((l.1 * b / l.2 + 1) * h.2) = (l.2 * (l.1 * b / l.2)) * h.2 + l.2 * h.2 := by
    rw [Int.add_mul, Int.mul_add, Int.one_mul, Int.mul_assoc]
  have s2 : l.2 * (l.1 * b / l.2) ≤ l.1 * b := by omega
  have s3 : (l.2 * (l.1 * b / l.2)) * h.2 ≤ (l.1 * b) * h.2 := Int.mul_le_mul_of_nonneg_right s2 (Int.le_of_lt hh)
  have s4 : (l.1 * h.2 + 1) * b ≤ (h.1 * l.2) * b := Int.mul_le_mul_of_nonneg_right (by omega) (Int.le_of_lt hb0)
  have s5 : (l.1 * h.2 + 1) * b = l.1 * b * h.2 + b := by rw [Int.add_mul, Int.one_mul, Int.mul_right_comm]
  have s6 : l.2 * (h.1 * b) = h.1 * l.2 * b := by rw [← Int.mul_assoc, Int.mul_comm l.2 h.1]
  omega
/-- no multiple of 1/b lies between -/
def noM (l h : Fr) (b : Int) : Prop := ∀ m : Int, liF (m, b) (some l) (some h) = false
theorem nxF_no {l h : Fr} {b : Int} (hl : 0 < l.2) (hb : 0 < b) (hh : 0 < h.2) (n : ltF (nxF l b) h = false) : noM l h b := fun m => by
  cases e : liF (m, b) (some l) (some h) with
  | false => rfl
  | true =>
    unfold liF at e
    rw [Bool.and_eq_true] at e
    have e1 : l.1 * b < m * l.2 := of_decide_eq_true e.1
    have e2 : m * h.2 < h.1 * b := of_decide_eq_true e.2
    have q := floor_le hl e1
    have : (l.1 * b / l.2 + 1) * h.2 ≤ m * h.2 := Int.mul_le_mul_of_nonneg_right q (Int.le_of_lt hh)
    have n : ¬ ((l.1 * b / l.2 + 1) * h.2 < h.1 * b) := of_decide_eq_false n
    omega
theorem half_lies {l h : Fr} {m b : Int} : liF (2 * m, 2 * b) (some l) (some h) = liF (m, b) (some l) (some h) := by
  unfold liF
  have two : ∀ x y : Int, decide (2 * x < 2 * y) = decide (x < y) := fun x y => by
    by_cases z : x < y
    · rw [decide_eq_true z, decide_eq_true (by omega)]
    · rw [decide_eq_false z, decide_eq_false (by omega)]
  have a1 : ltF l (2 * m, 2 * b) = ltF l (m, b) := by
    show decide (l.1 * (2 * b) < 2 * m * l.2) = decide (l.1 * b < m * l.2)
    rw [Int.mul_left_comm, Int.mul_assoc 2 m l.2, two]
  have a2 : ltF (2 * m, 2 * b) h = ltF (m, b) h := by
    show decide (2 * m * h.2 < h.1 * (2 * b)) = decide (m * h.2 < h.1 * b)
    rw [Int.mul_left_comm h.1, Int.mul_assoc 2 m h.2, two]
  show (ltF l (2 * m, 2 * b) && ltF (2 * m, 2 * b) h) = (ltF l (m, b) && ltF (m, b) h)
  rw [a1, a2]
/-- the first that lies between is odd, its neighbours lie outside -/
theorem first_odd {l h : Fr} {b : Int} (n : noM l h b) {m : Int} (y : liF (m, 2 * b) (some l) (some h) = true) : m % 2 = 1 ∧ liF (m - 1, 2 * b) (some l) (some h) = false ∧ liF (m + 1, 2 * b) (some l) (some h) = false := by
  have ev : ∀ k : Int, k % 2 = 0 → liF (k, 2 * b) (some l) (some h) = false := fun k hk => by
    have e : k = 2 * (k / 2) := by omega
    rw [e, half_lies]; exact n _
  have o : m % 2 = 1 := by
    rcases Int.emod_two_eq m with z | z
    · rw [ev m z] at y; cases y
    · exact z
  exact ⟨o, ev _ (by omega), ev _ (by omega)⟩
/-- what fractions may be asked of -/
structure AskOk (low high : Option Fr) : Prop where
  l : ∀ l, low = some l → 0 < l.2
  h : ∀ h, high = some h → 0 < h.2
  lt : ∀ l h, low = some l → high = some h → ltF l h = true
def nwF (low high : Option Fr) : Int := match low with
  | some l => if 0 ≤ l.1 then l.1 / l.2 + 1 else 0 - (0 - (high.getD (0, 1)).1) / (high.getD (0, 1)).2 - 1
  | none => 0 - (0 - (high.getD (0, 1)).1) / (high.getD (0, 1)).2 - 1
theorem up_no {low : Option Fr} {h : Fr} (hh : 0 < h.2) {m : Int} (e : ltF (m, 1) h = false) : liF (m, 1) low (some h) = false := by
  show (_ && ltF (m, 1) h) = false
  rw [e, Bool.and_false]
theorem low_no {l : Fr} {high : Option Fr} {m : Int} (e : ltF l (m, 1) = false) : liF (m, 1) (some l) high = false := by
  show (ltF l (m, 1) && _) = false
  rw [e, Bool.false_and]
/-- the nearest whole number, where 0 lies outside -/
theorem nw_ok {low high : Option Fr} (a : AskOk low high) (z : liF (0, 1) low high = false) :
    (nwF low high > 0 → liF (nwF low high - 2 * 1 + 1, 1) low high = false) ∧ (¬ nwF low high > 0 → liF (nwF low high - 2 * 0 + 1, 1) low high = false) ∧
    (liF (nwF low high, 1) low high = false → ∃ l h, low = some l ∧ high = some h ∧ noM l h 1) := by
  have neg : ∀ h : Fr, 0 < h.2 → h.1 ≤ 0 → ∀ n : Int, n = 0 - (0 - h.1) / h.2 - 1 → n < 0 ∧ n * h.2 < h.1 ∧ h.1 ≤ (n + 1) * h.2 := fun h hh h0 n hn => by
    have e := Int.mul_ediv_add_emod (0 - h.1) h.2
    have r0 := Int.emod_nonneg (0 - h.1) (show h.2 ≠ 0 by omega)
    have r1 := Int.emod_lt_of_pos (0 - h.1) hh
    have q0 : 0 ≤ (0 - h.1) / h.2 := Int.ediv_nonneg (by omega) (Int.le_of_lt hh)
    generalize (0 - h.1) / h.2 = q at *
    subst hn
    refine ⟨by omega, ?_, ?_⟩
    · have : (0 - q - 1) * h.2 = - (h.2 * q) - h.2 := by rw [Int.sub_mul, Int.one_mul, Int.sub_mul, Int.zero_mul, Int.mul_comm q]; omega
      omega
    · have : (0 - q - 1 + 1) * h.2 = - (h.2 * q) := by rw [show 0 - q - 1 + 1 = 0 - q by omega, Int.sub_mul, Int.zero_mul, Int.mul_comm q]; omega
      omega
  have hi : ∀ h : Fr, high = some h → h.1 ≤ 0 → (∀ l, low = some l → l.1 < 0) → nwF low high = 0 - (0 - h.1) / h.2 - 1 → _ := fun h eh h0 ll en => by
    have hh := a.h h eh
    obtain ⟨n1, n2, n3⟩ := neg h hh h0 _ en
    show (nwF low high > 0 → liF (nwF low high - 2 * 1 + 1, 1) low high = false) ∧ (¬ nwF low high > 0 → liF (nwF low high - 2 * 0 + 1, 1) low high = false) ∧
      (liF (nwF low high, 1) low high = false → ∃ l h, low = some l ∧ high = some h ∧ noM l h 1)
    generalize nwF low high = n at *
    refine ⟨fun p => by omega, fun _ => ?_, fun q => ?_⟩
    · rw [eh]
      refine up_no hh (decide_eq_false ?_)
      show ¬ ((n - 2 * 0 + 1) * h.2 < h.1 * 1)
      rw [show n - 2 * 0 + 1 = n + 1 by omega]; omega
    · have y : ltF (n, 1) h = true := decide_eq_true (by show n * h.2 < h.1 * 1; omega)
      cases hl : low with
      | none => rw [hl, eh] at q; unfold liF at q; rw [show (some h : Option Fr).elim true (fun h => ltF (n, 1) h) = ltF (n, 1) h from rfl, y] at q; cases q
      | some l =>
        have l0 := a.l l hl
        refine ⟨l, h, rfl, eh, fun m => ?_⟩
        have ln : ltF l (n, 1) = false := by
          rw [hl, eh] at q
          have q' : (ltF l (n, 1) && ltF (n, 1) h) = false := q
          rw [y, Bool.and_true] at q'; exact q'
        have ln' : ¬ (l.1 * 1 < n * l.2) := of_decide_eq_false ln
        by_cases mn : m ≤ n
        · refine low_no (decide_eq_false ?_)
          show ¬ (l.1 * 1 < m * l.2)
          have := Int.mul_le_mul_of_nonneg_right mn (Int.le_of_lt l0)
          omega
        · refine up_no hh (decide_eq_false ?_)
          show ¬ (m * h.2 < h.1 * 1)
          have := Int.mul_le_mul_of_nonneg_right (show n + 1 ≤ m by omega) (Int.le_of_lt hh)
          omega
  cases hl : low with
  | none =>
    cases hh : high with
    | none => rw [hl, hh] at z; cases z
    | some h =>
      rw [hl, hh] at z
      have z' : (true && decide (0 * h.2 < h.1 * 1)) = false := z
      rw [Bool.true_and] at z'
      have := of_decide_eq_false z'
      rw [← hl, ← hh]
      exact hi h hh (by omega) (fun l e => by rw [hl] at e; cases e) (by rw [hl, hh]; rfl)
  | some l =>
    have l0 := a.l l hl
    by_cases p : 0 ≤ l.1
    · have en : nwF (some l) high = l.1 / l.2 + 1 := if_pos p
      have fl := floor_lt (l := l.1) (b := 1) l0
      rw [Int.mul_one] at fl
      have e := Int.mul_ediv_add_emod l.1 l.2
      have r0 := Int.emod_nonneg l.1 (show l.2 ≠ 0 by omega)
      have q0 : 0 ≤ l.1 / l.2 := Int.ediv_nonneg p (Int.le_of_lt l0)
      rw [en]
      refine ⟨fun _ => low_no (decide_eq_false ?_), fun n => by omega, fun q => ?_⟩
      · show ¬ (l.1 * 1 < (l.1 / l.2 + 1 - 2 * 1 + 1) * l.2)
        rw [show l.1 / l.2 + 1 - 2 * 1 + 1 = l.1 / l.2 by omega, Int.mul_comm (l.1 / l.2)]; omega
      · have y : ltF l (l.1 / l.2 + 1, 1) = true := decide_eq_true (by show l.1 * 1 < (l.1 / l.2 + 1) * l.2; omega)
        cases hh : high with
        | none => rw [hh] at q; have q' : (ltF l (l.1 / l.2 + 1, 1) && true) = false := q; rw [y] at q'; cases q'
        | some h =>
          rw [hh] at q
          have q' : (ltF l (l.1 / l.2 + 1, 1) && ltF (l.1 / l.2 + 1, 1) h) = false := q
          rw [y, Bool.true_and] at q'
          exact ⟨l, h, rfl, rfl, nxF_no l0 (by decide) (a.h h hh) (by unfold nxF; rw [Int.mul_one]; exact q')⟩
    · cases hh : high with
      | none =>
        rw [hl, hh] at z
        have z' : (decide (l.1 * 1 < 0 * l.2) && true) = false := z
        rw [Bool.and_true] at z'
        have := of_decide_eq_false z'
        omega
      | some h =>
        rw [hl, hh] at z
        have z' : (decide (l.1 * 1 < 0 * l.2) && decide (0 * h.2 < h.1 * 1)) = false := z
        rw [decide_eq_true (by omega), Bool.true_and] at z'
        have := of_decide_eq_false z'
        rw [← hl, ← hh]
        exact hi h hh (by omega) (fun l' e => by rw [hl] at e; cases e; omega) (by rw [hl, hh]; exact if_neg p)

/-! fractions as they stand, how wide they are -/
def Wd (n : Nat) (x : Int) : Prop := x.natAbs < 2 ^ n
theorem Wd.mono {m n : Nat} {x : Int} (h : Wd m x) (k : m ≤ n) : Wd n x := Nat.lt_of_lt_of_le h (Nat.pow_le_pow_right (by decide) k)
theorem Wd.mul {m n : Nat} {x y : Int} (h : Wd m x) (k : Wd n y) : Wd (m + n) (x * y) := by
  unfold Wd at *
  rw [Int.natAbs_mul, Nat.pow_add]
  exact Nat.mul_lt_mul'' h k
theorem Wd.add {m : Nat} {x y : Int} (h : Wd m x) (k : Wd m y) : Wd (m + 1) (x + y) := by
  unfold Wd at *
  have := Int.natAbs_add_le x y
  rw [Nat.pow_succ]; omega
theorem Wd.neg {m : Nat} {x : Int} (h : Wd m x) : Wd m (-x) := by unfold Wd at *; rw [Int.natAbs_neg]; exact h
theorem Wd.sub {m : Nat} {x y : Int} (h : Wd m x) (k : Wd m y) : Wd (m + 1) (x - y) := h.add k.neg
theorem Wd.one {n : Nat} (h : 0 < n) : Wd n 1 := by
  have : 2 ^ 1 ≤ 2 ^ n := Nat.pow_le_pow_right (by decide) h
  unfold Wd
  show 1 < 2 ^ n
  omega
theorem Wd.zero {n : Nat} : Wd n 0 := Nat.pow_pos (by decide)
theorem Wd.div {m : Nat} {x d : Int} (h : Wd m x) (d0 : 0 < d) : Wd (m + 1) (x / d) := by
  have e := Int.mul_ediv_add_emod x d
  have r0 := Int.emod_nonneg x (show d ≠ 0 by omega)
  have r1 := Int.emod_lt_of_pos x d0
  have : (x / d).natAbs ≤ x.natAbs + 1 := by
    rcases Int.le_total 0 (x / d) with q | q
    · have : x / d ≤ d * (x / d) := by
        have := Int.mul_le_mul_of_nonneg_right (show 1 ≤ d by omega) q
        omega
      omega
    · by_cases z : x / d = 0
      · rw [z]; omega
      · have s : d * (x / d + 1) ≤ 1 * (x / d + 1) := Int.mul_le_mul_of_nonpos_right (show 1 ≤ d by omega) (by omega)
        rw [Int.mul_add, Int.mul_one] at s
        omega
  unfold Wd at *
  rw [Nat.pow_succ]
  have := Nat.pow_pos (n := m) (show 0 < 2 by decide)
  omega
theorem Wd.cmul {a b : Nat} {x y : Int} (h : Wd a x) (k : Wd b y) (n : a + b ≤ 900000) : CMulW x y := wide_mul (h.mono (Nat.le_succ a)) (k.mono (Nat.le_succ b)) (by omega) (by omega) (by omega)
theorem Wd.cdiv {b : Nat} {x y : Int} (d0 : 0 < y) (k : Wd b y) (n : b ≤ 8000) : CDivW x y := wide_div d0 (k.mono (Nat.le_succ b)) (by omega) (by omega)
def WdF (n : Nat) (q : Fr) : Prop := Wd n q.1 ∧ Wd n q.2
theorem non_ref (u : Addr) : ¬ (V.ref u = V.non) := fun z => by cases z
/-- the fraction q at v -/
def FrV (H : Hp) (v : V) (q : Fr) : Prop := ∃ t, v = .ref t ∧ H t = some (.tup [.int q.1, .int q.2])
def FrO (H : Hp) (v : V) : Option Fr → Prop
  | none => v = .non
  | some q => FrV H v q
theorem FrV.keep {H H' : Hp} {v : V} {q : Fr} (h : FrV H v q) (k : Keep Nil H H') : FrV H' v q := by
  obtain ⟨t, rfl, e⟩ := h
  exact ⟨t, rfl, k.get (fun z => z) e⟩
theorem FrO.keep {H H' : Hp} {v : V} {o : Option Fr} (h : FrO H v o) (k : Keep Nil H H') : FrO H' v o := by
  cases o with
  | none => exact h
  | some q => exact FrV.keep h k
abbrev N_is_less : List Str := ["q", "r"]
theorem sc_is_less : FnScope N_is_less ["q", "r"] (defScope s_is_less) := ⟨rfl, rfl, rfl, by decide +kernel, rfl, by decide +kernel, by decide +kernel⟩
def t_is_less (c : Cn) : TS :=
  (tRet (tOp (cLt c.K) (tOp bMul (tOp (bIx c.P c.w c.K) (tVar 0) (tC (.int 0))) (tOp (bIx c.P c.w c.K) (tVar 1) (tC (.int 1)))) (tOp bMul (tOp (bIx c.P c.w c.K) (tVar 1) (tC (.int 0))) (tOp (bIx c.P c.w c.K) (tVar 0) (tC (.int 1))))))
def sp_is_less (c : Cn) : Sp := fun vs H Q E => vs.length = 2 ∧ ∃ (v w : V) (q r : Fr), vs = [v, w] ∧ FrV H v q ∧ FrV H w r ∧ WdF 4000 q ∧ WdF 4000 r ∧ Q (.bl (ltF q r)) H
theorem p_is_less {c : Cn} {mg : Str → Option Value} (T : Txt c mg) {vs : List V} {H : Hp} {Q : VK} {E : XK} (h : sp_is_less c vs H Q E) : t_is_less c { nx := fun _ H' => Q .non H', rt := Q } (start N_is_less vs) H := by
  obtain ⟨_, v, w, q, r, rfl, ⟨t, rfl, e1⟩, ⟨u, rfl, e2⟩, w1, w2, k⟩ := h
  unfold t_is_less
  repeat kaf_suf
  refine v_mulW (w1.1.cmul w2.2 (by decide)) ?_
  repeat kaf_suf
  refine v_mulW (w2.1.cmul w1.2 (by decide)) ?_
  repeat kaf_suf
  exact k
theorem cal_is_less {c : Cn} {mg : Str → Option Value} {base : Heap} (T : Txt c mg) : Cal c.P c.w c.K mg base CX0 1 "is_less" (sp_is_less c) := by
  obtain ⟨f, fd, F, g, b⟩ := T.F_is_less
  exact ⟨f, fd, ["q", "r"], F.ok (k := 0) (N := N_is_less) sc_is_less (fun vs H Q E h => h.1) (fun cdv A outer s H vs Q E hr h => ⟨t_is_less c, by
  exact (pss_one (ps_ret (pe_cmpR (o_lt (hu64 hr)) (pe_op o_mul (pe_ix (x_ix (hu64 hr)) (pv 0) pe_int (fun _ _ => rfl)) (pe_ix (x_ix (hu64 hr)) (pv 1) pe_int (fun _ _ => rfl))) (pe_op o_mul (pe_ix (x_ix (hu64 hr)) (pv 1) pe_int (fun _ _ => rfl)) (pe_ix (x_ix (hu64 hr)) (pv 0) pe_int (fun _ _ => rfl))) (nomark _)))), p_is_less T h⟩), g, F.kp, b⟩
abbrev N_lies_in : List Str := ["q", "low", "high"]
theorem sc_lies_in : FnScope N_lies_in ["q", "low", "high"] (defScope s_lies_in) := ⟨rfl, rfl, rfl, by decide +kernel, rfl, by decide +kernel, by decide +kernel⟩
def t_lies_in (c : Cn) : TS :=
  (tRet (tAndV (tOrV (tOp cIs (tVar 1) (tC .non)) (tCall (sp_is_less c) [] E0 (tCons (tVar 1) (tCons (tVar 0) tNil)))) (tOrV (tOp cIs (tVar 2) (tC .non)) (tCall (sp_is_less c) [] E0 (tCons (tVar 0) (tCons (tVar 2) tNil))))))
def sp_lies_in (c : Cn) : Sp := fun vs H Q E => vs.length = 3 ∧ ∃ (v lv hv : V) (q : Fr) (low high : Option Fr), vs = [v, lv, hv] ∧ FrV H v q ∧ FrO H lv low ∧ FrO H hv high ∧ WdF 4000 q ∧ (∀ l, low = some l → WdF 4000 l) ∧ (∀ h, high = some h → WdF 4000 h) ∧ Q (.bl (liF q low high)) H
theorem p_lies_in {c : Cn} {mg : Str → Option Value} (T : Txt c mg) {vs : List V} {H : Hp} {Q : VK} {E : XK} (h : sp_lies_in c vs H Q E) : t_lies_in c { nx := fun _ H' => Q .non H', rt := Q } (start N_lies_in vs) H := by
  obtain ⟨_, v, lv, hv, q, low, high, rfl, fq, fl, fh, wq, wl, wh, k⟩ := h
  have fq' := fq
  obtain ⟨t, rfl, et⟩ := fq'
  unfold t_lies_in
  cases low with
  | none =>
    cases fl
    cases high with
    | none =>
      cases fh
      repeat kaf_suf
      exact k
    | some h =>
      obtain ⟨u, rfl, eu⟩ := id fh
      repeat kaf_suf
      refine r_iteF' (non_ref _) ?_
      repeat kaf_suf
      refine ⟨rfl, _, _, q, h, rfl, fq, fh, wq, wh h rfl, ?_⟩
      repeat kaf_suf
      exact k
  | some l =>
    obtain ⟨tl, rfl, etl⟩ := id fl
    have k' : Q (.bl (ltF l q && high.elim true fun h => ltF q h)) H := k
    repeat kaf_suf
    refine r_iteF' (non_ref _) ?_
    repeat kaf_suf
    refine ⟨rfl, _, _, l, q, rfl, fl, fq, wl l rfl, wq, ?_⟩
    cases e : ltF l q with
    | false =>
      rw [e] at k'
      repeat kaf_suf
      exact k'
    | true =>
      rw [e] at k'
      cases high with
      | none =>
        cases fh
        repeat kaf_suf
        exact k'
      | some h =>
        obtain ⟨u, rfl, eu⟩ := id fh
        repeat kaf_suf
        refine r_iteF' (non_ref _) ?_
        repeat kaf_suf
        refine ⟨rfl, _, _, q, h, rfl, fq, fh, wq, wh h rfl, ?_⟩
        repeat kaf_suf
        exact k'
theorem cal_lies_in {c : Cn} {mg : Str → Option Value} {base : Heap} (T : Txt c mg) : Cal c.P c.w c.K mg base CX0 2 "lies_in" (sp_lies_in c) := by
  obtain ⟨f, fd, F, g, b⟩ := T.F_lies_in
  exact ⟨f, fd, ["q", "low", "high"], F.ok (k := 1) (N := N_lies_in) sc_lies_in (fun vs H Q E h => h.1) (fun cdv A outer s H vs Q E hr h => ⟨t_lies_in c, by
  exact (pss_one (ps_ret (pe_and (pe_or (pe_cmpR o_is (pv 1) pe_non (nomark _)) (pe_one (e_call (cal_is_less T) hr (by decide) pass0 rfl (pa_cons (pv 1) (pa_cons (pv 0) pa_nil))))) (pe_one (pe_or (pe_cmpR o_is (pv 2) pe_non (nomark _)) (pe_one (e_call (cal_is_less T) hr (by decide) pass0 rfl (pa_cons (pv 0) (pa_cons (pv 2) pa_nil))))))))), p_lies_in T h⟩), g, F.kp, b⟩

abbrev N_nearest_whole : List Str := ["low", "high"]
theorem sc_nearest_whole : FnScope N_nearest_whole ["low", "high"] (defScope s_nearest_whole) := ⟨rfl, rfl, rfl, by decide +kernel, rfl, by decide +kernel, by decide +kernel⟩
def t_nearest_whole (c : Cn) : TS :=
  (tSeq (tIfS (tAnd (tTest (tOp cIsNot (tVar 0) (tC .non))) (tTest (tOp cGe (tOp (bIx c.P c.w c.K) (tVar 0) (tC (.int 0))) (tC (.int 0)))))
  (tRet (tTup (tCons (tOp (bAdd c.K) (tOp bDiv (tOp (bIx c.P c.w c.K) (tVar 0) (tC (.int 0))) (tOp (bIx c.P c.w c.K) (tVar 0) (tC (.int 1)))) (tC (.int 1))) (tCons (tC (.int 1)) tNil))))
  tNext)
  (tRet (tTup (tCons (tOp bSub (tOp bSub (tC (.int 0)) (tOp bDiv (tOp bSub (tC (.int 0)) (tOp (bIx c.P c.w c.K) (tVar 1) (tC (.int 0)))) (tOp (bIx c.P c.w c.K) (tVar 1) (tC (.int 1))))) (tC (.int 1))) (tCons (tC (.int 1)) tNil)))))
def sp_nearest_whole (c : Cn) : Sp := fun vs H Q E => vs.length = 2 ∧ ∃ (lv hv : V) (low high : Option Fr), vs = [lv, hv] ∧ FrO H lv low ∧ FrO H hv high ∧ (∀ l, low = some l → WdF 3000 l ∧ 0 < l.2) ∧ (∀ h, high = some h → WdF 3000 h ∧ 0 < h.2) ∧ ((∃ l, low = some l ∧ 0 ≤ l.1) ∨ ∃ h, high = some h) ∧
  ∀ (H' : Hp) (v : V), Keep Nil H H' → FrV H' v (nwF low high, 1) → Q v H'
theorem p_nearest_whole {c : Cn} {mg : Str → Option Value} (T : Txt c mg) {vs : List V} {H : Hp} {Q : VK} {E : XK} (h : sp_nearest_whole c vs H Q E) : t_nearest_whole c { nx := fun _ H' => Q .non H', rt := Q } (start N_nearest_whole vs) H := by
  obtain ⟨_, lv, hv, low, high, rfl, fl, fh, wl, wh, so, k⟩ := h
  have last : ∀ (h : Fr) (hu : Addr), high = some h → hv = .ref hu → (∀ l, low = some l → ¬ 0 ≤ l.1) → nwF low high = 0 - (0 - h.1) / h.2 - 1 := fun h hu eh _ nl => by
    subst eh
    cases low with
    | none => rfl
    | some l => exact if_neg (nl l rfl)
  unfold t_nearest_whole
  cases low with
  | none =>
    cases fl
    obtain ⟨h, rfl⟩ : ∃ h, high = some h := so.elim (fun ⟨l, e, _⟩ => by cases e) id
    obtain ⟨w1, h0⟩ := wh h rfl
    obtain ⟨u, rfl, eu⟩ := id fh
    repeat kaf_suf
    refine v_divW (Wd.cdiv h0 w1.2 (by decide)) ?_
    repeat kaf_suf
    intro p hp
    exact k _ _ (Keep.alloc hp) ⟨p, rfl, upd_same⟩
  | some l =>
    obtain ⟨w0, l0⟩ := wl l rfl
    obtain ⟨tl, rfl, etl⟩ := id fl
    repeat kaf_suf
    refine r_iteNT' (non_ref _) ?_
    repeat kaf_suf
    refine r_ite (fun p0 => ?_) (fun p0 => ?_)
    · repeat kaf_suf
      refine v_divW (Wd.cdiv l0 w0.2 (by decide)) ?_
      repeat kaf_suf
      intro p hp
      exact k _ _ (Keep.alloc hp) ⟨p, rfl, by rw [show nwF (some l) high = l.1 / l.2 + 1 from if_pos p0]; exact upd_same⟩
    · obtain ⟨h, rfl⟩ : ∃ h, high = some h := so.elim (fun ⟨l', e, q⟩ => by cases e; exact absurd q p0) id
      obtain ⟨w1, h0⟩ := wh h rfl
      obtain ⟨u, rfl, eu⟩ := id fh
      repeat kaf_suf
      refine v_divW (Wd.cdiv h0 w1.2 (by decide)) ?_
      repeat kaf_suf
      intro p hp
      exact k _ _ (Keep.alloc hp) ⟨p, rfl, by rw [show nwF (some l) (some h) = 0 - (0 - h.1) / h.2 - 1 from if_neg p0]; exact upd_same⟩
theorem cal_nearest_whole {c : Cn} {mg : Str → Option Value} {base : Heap} (T : Txt c mg) : Cal c.P c.w c.K mg base CX0 1 "nearest_whole" (sp_nearest_whole c) := by
  obtain ⟨f, fd, F, g, b⟩ := T.F_nearest_whole
  exact ⟨f, fd, ["low", "high"], F.ok (k := 0) (N := N_nearest_whole) sc_nearest_whole (fun vs H Q E h => h.1) (fun cdv A outer s H vs Q E hr h => ⟨t_nearest_whole c, by
  exact (pss_cons (ps_if (PW.pt (pw_and (pt_cmpR o_isnot (pv 0) pe_non (nomark _)) (pw_and1 (pt_cmpR o_ge (pe_ix (x_ix (hu64 hr)) (pv 0) pe_int (fun _ _ => rfl)) pe_int (nomark _))))) (pss_one (ps_ret (pe_tup (pa_cons (pe_op o_add (pe_op o_div (pe_ix (x_ix (hu64 hr)) (pv 0) pe_int (fun _ _ => rfl)) (pe_ix (x_ix (hu64 hr)) (pv 0) pe_int (fun _ _ => rfl))) pe_int) (pa_cons pe_int pa_nil))))) pss_nil)
  (pss_one (ps_ret (pe_tup (pa_cons (pe_op o_sub (pe_op o_sub pe_int (pe_op o_div (pe_op o_sub pe_int (pe_ix (x_ix (hu64 hr)) (pv 1) pe_int (fun _ _ => rfl))) (pe_ix (x_ix (hu64 hr)) (pv 1) pe_int (fun _ _ => rfl)))) pe_int) (pa_cons pe_int pa_nil)))))), p_nearest_whole T h⟩), g, F.kp, b⟩

/-- what the simplest one is like -/
def SimF (low high : Option Fr) (q : Fr) : Prop :=
  (liF (0, 1) low high = true ∧ q = (0, 1)) ∨
  (liF (0, 1) low high = false ∧ liF q low high = true ∧ q.2 = 1 ∧ (q.1 > 0 → liF (q.1 - 2 * 1 + 1, 1) low high = false) ∧ (¬ q.1 > 0 → liF (q.1 - 2 * 0 + 1, 1) low high = false)) ∨
  (liF (0, 1) low high = false ∧ liF q low high = true ∧ (∃ k : Nat, q.2 = 2 ^ (k + 1)) ∧ q.1 % 2 = 1 ∧ liF (q.1 - 1, q.2) low high = false ∧ liF (q.1 + 1, q.2) low high = false)
/-- what the loop holds: at bottom 1 the nearest whole one, else the next multiple behind a bottom that had none -/
def LpF (low high : Option Fr) (k : Nat) (q : Fr) : Prop :=
  q.2 = 2 ^ k ∧ (k = 0 → q = (nwF low high, 1)) ∧ ∀ j, k = j + 1 → ∃ l h, low = some l ∧ high = some h ∧ q = nxF l (2 ^ k) ∧ noM l h (2 ^ j)
theorem lpF_end {low high : Option Fr} (a : AskOk low high) (z : liF (0, 1) low high = false) {k : Nat} {q : Fr} (p : LpF low high k q) (y : liF q low high = true) : SimF low high q := by
  obtain ⟨q2, p0, pj⟩ := p
  cases k with
  | zero =>
    obtain ⟨n1, n2, _⟩ := nw_ok a z
    have e := p0 rfl
    subst e
    exact .inr (.inl ⟨z, y, rfl, n1, n2⟩)
  | succ j =>
    obtain ⟨l, h, rfl, rfl, e, no⟩ := pj j rfl
    have e2 : q.2 = 2 * 2 ^ j := by rw [q2, Int.pow_succ, Int.mul_comm]
    have y' : liF (q.1, 2 * 2 ^ j) (some l) (some h) = true := by rw [← e2]; exact y
    obtain ⟨o, f1, f2⟩ := first_odd no y'
    exact .inr (.inr ⟨z, y, ⟨j, q2⟩, o, by rw [e2]; exact f1, by rw [e2]; exact f2⟩)
theorem lpF_next {low high : Option Fr} (a : AskOk low high) (z : liF (0, 1) low high = false) {k : Nat} {q : Fr} (p : LpF low high k q) (y : liF q low high = false) :
    ∃ l h, low = some l ∧ high = some h ∧ LpF low high (k + 1) (nxF l (2 * 2 ^ k)) ∧ (2 : Int) ^ k ≤ l.2 * h.2 := by
  obtain ⟨q2, p0, pj⟩ := p
  have e2 : (2 : Int) ^ (k + 1) = 2 * 2 ^ k := by rw [Int.pow_succ, Int.mul_comm]
  cases k with
  | zero =>
    have e := p0 rfl
    subst e
    obtain ⟨l, h, el, eh, no⟩ := (nw_ok a z).2.2 y
    have l0 := a.l l el
    have h0 := a.h h eh
    refine ⟨l, h, el, eh, ⟨e2.symm, (fun c => by cases c), fun j ej => ⟨l, h, el, eh, by rw [e2], by obtain rfl : j = 0 := (by omega); exact no⟩⟩, ?_⟩
    have := Int.mul_pos l0 h0
    show (1 : Int) ≤ _
    omega
  | succ j =>
    obtain ⟨l, h, rfl, rfl, e, no⟩ := pj j rfl
    have l0 := a.l l rfl
    have h0 := a.h h rfl
    have bp : (0 : Int) < 2 ^ (j + 1) := Int.pow_pos (by decide)
    have g := nxF_gt (b := 2 ^ (j + 1)) l0
    have n : ltF (nxF l (2 ^ (j + 1))) h = false := by
      rw [e] at y
      have y' : (ltF l (nxF l (2 ^ (j + 1))) && ltF (nxF l (2 ^ (j + 1))) h) = false := y
      rw [g, Bool.true_and] at y'; exact y'
    refine ⟨l, h, rfl, rfl, ⟨e2.symm, (fun c => by cases c), fun i ei => ⟨l, h, rfl, rfl, by rw [e2], by obtain rfl : i = j + 1 := (by omega); exact nxF_no l0 bp h0 n⟩⟩, ?_⟩
    by_cases c : l.2 * h.2 < 2 ^ (j + 1)
    · have := nxF_end l0 h0 (a.lt l h rfl rfl) c
      rw [n] at this; cases this
    · omega

theorem so_of {low high : Option Fr} (z : liF (0, 1) low high = false) : (∃ l, low = some l ∧ 0 ≤ l.1) ∨ ∃ h, high = some h := by
  cases high with
  | some h => exact .inr ⟨h, rfl⟩
  | none =>
    cases low with
    | none => cases z
    | some l =>
      have z' : (decide (l.1 * 1 < 0 * l.2) && true) = false := z
      rw [Bool.and_true] at z'
      have := of_decide_eq_false z'
      exact .inl ⟨l, rfl, by omega⟩
theorem cutN {t : TS} {D : Ends} {σ : L2.St} (σ' : L2.St) {H : Hp} (S : Hp → Prop) (k : ∀ H', S H' → D.nx σ' H') (h : ∀ R : L2.St → Hp → Prop, (∀ H', S H' → R σ' H') → t { nx := R, rt := D.rt, bk := D.bk, ct := D.ct } σ H) : t D σ H := h D.nx k
/-- what may be asked of, with its width -/
structure AskW (low high : Option Fr) : Prop where
  a : ∀ l, low = some l → 0 < l.2 ∧ WdF 400 l
  b : ∀ h, high = some h → 0 < h.2 ∧ WdF 400 h
theorem AskW.wl {low high : Option Fr} (w : AskW low high) {n : Nat} (k : 400 ≤ n) : ∀ l, low = some l → WdF n l := fun l e => ⟨(w.a l e).2.1.mono k, (w.a l e).2.2.mono k⟩
theorem AskW.wh {low high : Option Fr} (w : AskW low high) {n : Nat} (k : 400 ≤ n) : ∀ l, high = some l → WdF n l := fun l e => ⟨(w.b l e).2.1.mono k, (w.b l e).2.2.mono k⟩
theorem AskW.ok {low high : Option Fr} (w : AskW low high) (lt : ∀ l h, low = some l → high = some h → ltF l h = true) : AskOk low high := ⟨fun l e => (w.a l e).1, fun h e => (w.b h e).1, lt⟩
theorem Wd.neg0 {m : Nat} {x : Int} (h : Wd m x) : Wd m (0 - x) := by rw [Int.zero_sub]; exact h.neg
theorem AskW.nw {low high : Option Fr} (w : AskW low high) : Wd 404 (nwF low high) := by
  have hi : ∀ h : Fr, 0 < h.2 → Wd 400 h.1 → Wd 404 (0 - (0 - h.1) / h.2 - 1) := fun h h0 w1 => ((((w1.neg0.div h0).neg0).sub (Wd.one (by decide))).mono (by decide))
  have dflt : Wd 404 (0 - (0 - ((none : Option Fr).getD (0, 1)).1) / ((none : Option Fr).getD (0, 1)).2 - 1) := by
    show Wd 404 (0 - (0 - 0) / 1 - 1)
    exact (Wd.one (n := 404) (by decide)).neg0
  have hq : Wd 404 (0 - (0 - (high.getD (0, 1)).1) / (high.getD (0, 1)).2 - 1) := by
    cases high with
    | none => exact dflt
    | some h => exact hi h (w.b h rfl).1 (w.b h rfl).2.1
  cases low with
  | none => exact hq
  | some l =>
    show Wd 404 (if 0 ≤ l.1 then l.1 / l.2 + 1 else 0 - (0 - (high.getD (0, 1)).1) / (high.getD (0, 1)).2 - 1)
    by_cases p : 0 ≤ l.1
    · rw [if_pos p]
      exact (((w.a l rfl).2.1.div (w.a l rfl).1).add (Wd.one (by decide))).mono (by decide)
    · rw [if_neg p]; exact hq
/-- the bottoms together -/
def btm (low high : Option Fr) : Int := (low.elim 1 (·.2)) * (high.elim 1 (·.2))

abbrev N_simplest : List Str := ["low", "high", "found", "bottom"]
theorem sc_simplest : FnScope N_simplest ["low", "high"] (defScope s_simplest) := ⟨rfl, rfl, rfl, by decide +kernel, rfl, by decide +kernel, by decide +kernel⟩
def t_simplest (c : Cn) (E : XK) : TS :=
  (tSeq (tIfS (tAnd (tTest (tOp cIsNot (tVar 0) (tC .non))) (tAnd (tTest (tOp cIsNot (tVar 1) (tC .non))) (tNot (tTru c.K (tCall (sp_is_less c) [] E0 (tCons (tVar 0) (tCons (tVar 1) tNil)))))))
  (tRaiseC c.cNoNumber (fun cls d _ H => E cls d H))
  tNext)
  (tSeq (tIfS (tTru c.K (tCall (sp_lies_in c) [] E0 (tCons (tTup (tCons (tC (.int 0)) (tCons (tC (.int 1)) tNil))) (tCons (tVar 0) (tCons (tVar 1) tNil)))))
  (tRet (tTup (tCons (tC (.int 0)) (tCons (tC (.int 1)) tNil))))
  tNext)
  (tSeq (tAsg (tCall (sp_nearest_whole c) [] E0 (tCons (tVar 0) (tCons (tVar 1) tNil))) (gName 2))
  (tSeq (tAsg (tC (.int 1)) (gName 3))
  (tSeq (tWhile (tNot (tTru c.K (tCall (sp_lies_in c) [] E0 (tCons (tVar 2) (tCons (tVar 0) (tCons (tVar 1) tNil))))))
  (tSeq (tAsg (tOp bMul (tC (.int 2)) (tVar 3)) (gName 3))
  (tAsg (tTup (tCons (tOp (bAdd c.K) (tOp bDiv (tOp bMul (tOp (bIx c.P c.w c.K) (tVar 0) (tC (.int 0))) (tVar 3)) (tOp (bIx c.P c.w c.K) (tVar 0) (tC (.int 1)))) (tC (.int 1))) (tCons (tVar 3) tNil))) (gName 2))))
  (tRet (tVar 2)))))))
theorem Wd.le {n : Nat} {x y : Int} (h : Wd n y) (a : 0 ≤ x) (b : x ≤ y) : Wd n x := by unfold Wd at *; omega
theorem AskW.pos {low high : Option Fr} (w : AskW low high) : 1 ≤ btm low high := by
  unfold btm
  have a1 : 0 < low.elim 1 (·.2) := by
    cases low with
    | none => decide
    | some l => exact (w.a l rfl).1
  have a2 : 0 < high.elim 1 (·.2) := by
    cases high with
    | none => decide
    | some l => exact (w.b l rfl).1
  have := Int.mul_pos a1 a2
  omega
def sp_simplest (c : Cn) : Sp := fun vs H Q E => vs.length = 2 ∧ ∃ (lv hv : V) (low high : Option Fr), vs = [lv, hv] ∧ FrO H lv low ∧ FrO H hv high ∧ AskW low high ∧ (∀ l h, low = some l → high = some h → ltF l h = true) ∧
  ∀ (H' : Hp) (v : V) (q : Fr), Keep Nil H H' → FrV H' v q → WdF 2000 q → SimF low high q → Q v H'
theorem p_simplest {c : Cn} {mg : Str → Option Value} (T : Txt c mg) {vs : List V} {H : Hp} {Q : VK} {E : XK} (h : sp_simplest c vs H Q E) : t_simplest c E { nx := fun _ H' => Q .non H', rt := Q } (start N_simplest vs) H := by
  obtain ⟨_, lv, hv, low, high, rfl, fl, fh, aw, lt, k⟩ := h
  have a := aw.ok lt
  have wl := aw.wl (n := 4000) (by decide)
  have wh := aw.wh (n := 4000) (by decide)
  unfold t_simplest
  refine r_seq ?_
  refine cutN [some lv, some hv, none, none] (fun H' => H' = H) (fun HH e => ?_) (fun R hR => ?_)
  rotate_left
  · cases low with
    | none =>
      cases fl
      repeat kaf_suf
      exact hR _ rfl
    | some l =>
      obtain ⟨tl, rfl, etl⟩ := id fl
      cases high with
      | none =>
        cases fh
        repeat kaf_suf
        refine r_iteNT' (non_ref _) ?_
        repeat kaf_suf
        exact hR _ rfl
      | some h =>
        obtain ⟨u, rfl, eu⟩ := id fh
        repeat kaf_suf
        refine r_iteNT' (non_ref _) ?_
        repeat kaf_suf
        refine r_iteNT' (non_ref _) ?_
        repeat kaf_suf
        refine ⟨rfl, _, _, l, h, rfl, fl, fh, wl l rfl, wh h rfl, ?_⟩
        rw [lt l h rfl rfl]
        repeat kaf_suf
        exact hR _ rfl
  subst e
  repeat kaf_suf
  intro p hp
  have k1 := Keep.alloc (M := Nil) (o := .tup [.int 0, .int 1]) hp
  repeat kaf_suf
  refine ⟨rfl, _, _, _, (0, 1), low, high, rfl, ⟨p, rfl, upd_same⟩, fl.keep k1, fh.keep k1, ⟨Wd.zero, Wd.one (by decide)⟩, wl, wh, ?_⟩
  cases z : liF (0, 1) low high with
  | true =>
    repeat kaf_suf
    intro p2 hp2
    exact k _ _ _ (k1.new hp2) ⟨p2, rfl, upd_same⟩ ⟨Wd.zero, Wd.one (by decide)⟩ (.inl ⟨z, rfl⟩)
  | false =>
    repeat kaf_suf
    refine ⟨rfl, lv, hv, low, high, rfl, fl.keep k1, fh.keep k1, fun l e => ⟨aw.wl (by decide) l e, (aw.a l e).1⟩, fun h e => ⟨aw.wh (by decide) h e, (aw.b h e).1⟩, so_of z, fun H2 v2 k2 f2 => ?_⟩
    have k02 := k1.trans k2
    repeat kaf_suf
    refine ⟨fun m σ H' => ∃ (v : V) (q : Fr) (j : Nat), σ = [some lv, some hv, some v, some (.int (2 ^ j))] ∧ Keep Nil HH H' ∧ FrV H' v q ∧ LpF low high j q ∧ WdF 2000 q ∧ (2 : Int) ^ j ≤ 2 * btm low high ∧ m = (2 * btm low high - 2 ^ j).toNat, ⟨_, v2, _, 0, rfl, k02, f2, ⟨rfl, fun _ => rfl, fun j e => by cases e⟩, ⟨aw.nw.mono (by decide), Wd.one (by decide)⟩, ?_, rfl⟩, ?_⟩
    · have := aw.pos
      show (1 : Int) ≤ _
      omega
    · rintro m σ H3 ⟨v3, q, j, rfl, k3, f3, lp, wq, bj, rfl⟩
      have wq' : WdF 4000 q := ⟨wq.1.mono (by decide), wq.2.mono (by decide)⟩
      repeat kaf_suf
      refine ⟨rfl, _, _, _, q, low, high, rfl, f3, fl.keep k3, fh.keep k3, wq', wl, wh, ?_⟩
      cases y : liF q low high with
      | true =>
        repeat kaf_suf
        exact k _ _ _ k3 f3 wq (lpF_end a z lp y)
      | false =>
        obtain ⟨l, h, rfl, rfl, lp2, bd⟩ := lpF_next a z lp y
        obtain ⟨l0, w0⟩ := aw.a l rfl
        obtain ⟨h0, w1⟩ := aw.b h rfl
        obtain ⟨tl, rfl, etl⟩ := fl.keep k3
        have jp : (0 : Int) < 2 ^ j := Int.pow_pos (by decide)
        have wj : Wd 800 (2 ^ j) := (w0.2.mul w1.2).le (by omega) bd
        have w2 : Wd 801 (2 * 2 ^ j) := by rw [Int.two_mul]; exact wj.add wj
        have bt : btm (some l) (some h) = l.2 * h.2 := rfl
        have e2 : (2 : Int) ^ (j + 1) = 2 * 2 ^ j := by rw [Int.pow_succ, Int.mul_comm]
        repeat kaf_suf
        refine ⟨fun σ' H' => ∃ (v : V) (q' : Fr), σ' = [some (.ref tl), some hv, some v, some (.int (2 ^ (j + 1)))] ∧ Keep Nil HH H' ∧ FrV H' v q' ∧ LpF (some l) (some h) (j + 1) q' ∧ WdF 2000 q', fun σ' H' ⟨v, q', h1, h2, h3, h4, h5⟩ => ⟨_, by rw [bt, e2]; omega, v, q', j + 1, h1, h2, h3, h4, h5, by rw [bt, e2]; omega, rfl⟩, ?_⟩
        repeat kaf_suf
        refine v_mulW (w0.1.cmul w2 (by decide)) ?_
        repeat kaf_suf
        refine v_divW (Wd.cdiv l0 w0.2 (by decide)) ?_
        repeat kaf_suf
        intro p3 hp3
        exact ⟨_, nxF l (2 * 2 ^ j), by rw [e2]; rfl, k3.new hp3, ⟨p3, rfl, upd_same⟩, lp2, ⟨((((w0.1.mul w2).div l0).add (Wd.one (by decide))).mono (by decide)), w2.mono (by decide)⟩⟩
def sy_simplest (c : Cn) : Sp := fun vs H Q E => vs.length = 2 ∧ ∃ (lv hv : V) (l h : Fr), vs = [lv, hv] ∧ FrV H lv l ∧ FrV H hv h ∧ WdF 400 l ∧ WdF 400 h ∧ ltF l h = false ∧ E (.ref c.cNoNumber) none H
theorem q_simplest {c : Cn} {mg : Str → Option Value} (T : Txt c mg) {vs : List V} {H : Hp} {Q : VK} {E : XK} (h : sy_simplest c vs H Q E) : t_simplest c E { nx := fun _ H' => Q .non H', rt := Q } (start N_simplest vs) H := by
  obtain ⟨_, lv, hv, l, h, rfl, fl, fh, wl, wh, lt, k⟩ := h
  obtain ⟨tl, rfl, etl⟩ := id fl
  obtain ⟨u, rfl, eu⟩ := id fh
  unfold t_simplest
  repeat kaf_suf
  refine r_iteNT' (non_ref _) ?_
  repeat kaf_suf
  refine r_iteNT' (non_ref _) ?_
  repeat kaf_suf
  refine ⟨rfl, _, _, l, h, rfl, fl, fh, ⟨wl.1.mono (by decide), wl.2.mono (by decide)⟩, ⟨wh.1.mono (by decide), wh.2.mono (by decide)⟩, ?_⟩
  rw [lt]
  repeat kaf_suf
  exact k
def sx_simplest (c : Cn) : Sp := fun vs H Q E => vs.length = 2 ∧ (sp_simplest c vs H Q E ∨ sy_simplest c vs H Q E)
theorem calx_simplest {c : Cn} {mg : Str → Option Value} {base : Heap} (T : Txt c mg) : Cal c.P c.w c.K mg base (L2.CX c.P c.w) 3 "simplest" (sx_simplest c) := by
  obtain ⟨f, fd, F, g, b⟩ := T.F_simplest
  exact ⟨f, fd, ["low", "high"], F.okX (k := 2) (N := N_simplest) sc_simplest (fun vs H Q E h => h.1) (fun cdv A outer s H vs Q E hr h => ⟨t_simplest c E, by
  exact (pss_cons (ps_if (PW.pt (pw_and (pt_cmpR o_isnot (pv 0) pe_non (nomark _)) (pw_and (pt_cmpR o_isnot (pv 1) pe_non (nomark _)) (pw_and1 (pt_not (p_tru (e_call (cal_is_less T) hr (by decide) pass0 rfl (pa_cons (pv 0) (pa_cons (pv 1) pa_nil))))))))) (pss_one (ps_raiseC rfl (takes_of rfl rfl rfl rfl) T.x_NoNumber rfl)) pss_nil)
  (pss_cons (ps_if (p_tru (e_call (cal_lies_in T) hr (by decide) pass0 rfl (pa_cons (pe_tup (pa_cons pe_int (pa_cons pe_int pa_nil))) (pa_cons (pv 0) (pa_cons (pv 1) pa_nil))))) (pss_one (ps_ret (pe_tup (pa_cons pe_int (pa_cons pe_int pa_nil))))) pss_nil)
  (pss_cons (ps_set (i := 2) sc_simplest.nd rfl (Or.inl rfl) (e_call (cal_nearest_whole T) hr (by decide) pass0 rfl (pa_cons (pv 0) (pa_cons (pv 1) pa_nil))))
  (pss_cons (ps_set (i := 3) sc_simplest.nd rfl (Or.inl rfl) pe_int)
  (pss_cons (ps_while (passes_of rfl) (pt_not (p_tru (e_call (cal_lies_in T) hr (by decide) pass0 rfl (pa_cons (pv 2) (pa_cons (pv 0) (pa_cons (pv 1) pa_nil))))))
  (pss_cons (ps_set (i := 3) sc_simplest.nd rfl (Or.inl rfl) (pe_op o_mul pe_int (pv 3)))
  (pss_one (ps_set (i := 2) sc_simplest.nd rfl (Or.inl rfl) (pe_tup (pa_cons (pe_op o_add (pe_op o_div (pe_op o_mul (pe_ix (x_ix (hu64 hr)) (pv 0) pe_int (fun _ _ => rfl)) (pv 3)) (pe_ix (x_ix (hu64 hr)) (pv 0) pe_int (fun _ _ => rfl))) pe_int) (pa_cons (pv 3) pa_nil)))))))
  (pss_one (ps_ret (pv 2)))))))), h.2.elim (p_simplest T) (q_simplest T)⟩), g, F.kp, b⟩
theorem cal_simplest {c : Cn} {mg : Str → Option Value} {base : Heap} (T : Txt c mg) : Cal c.P c.w c.K mg base (L2.CX c.P c.w) 3 "simplest" (sp_simplest c) := by
  obtain ⟨f, fd, ps, F, g, kp, b⟩ := (calx_simplest T).ex
  exact ⟨⟨f, fd, ps, F.imp fun vs H Q E h => ⟨h.1, .inl h⟩, g, kp, b⟩⟩

/-! the law's own defs -/
theorem atI_get {xs : List V} {i : Int} {v : V} {n : Nat} (h : xs[n]? = some v) (e : i = n) : atI xs i = some v := by
  subst e
  have hn : n < xs.length := (List.getElem?_eq_some_iff.mp h).1
  unfold atI ixN
  rw [if_pos (Int.natCast_nonneg n), if_pos (by omega)]
  simpa using h
abbrev N_law_cell : List Str := ["script", "k"]
theorem sc_law_cell : FnScope N_law_cell ["script", "k"] (defScope s_law_cell) := ⟨rfl, rfl, rfl, by decide +kernel, rfl, by decide +kernel, by decide +kernel⟩
def t_law_cell (c : Cn) : TS :=
  (tSeq (tIfS (tTest (tOp (cLt c.K) (tVar 1) (tCB (kLen c.K) (tCons (tVar 0) tNil))))
  (tRet (tOp (bIx c.P c.w c.K) (tVar 0) (tVar 1)))
  tNext)
  (tRet (tOp (bAdd c.K) (tOp (bAdd c.K) (tOp bMul (tOp bMul (tC (.int 7)) (tVar 1)) (tVar 1)) (tOp bMul (tC (.int 3)) (tVar 1))) (tC (.int 11)))))
def sp_law_cell (c : Cn) : Sp := fun vs H Q E => vs.length = 2 ∧ ∃ (a : Addr) (ns : List Int) (k : Nat), vs = [.ref a, .int k] ∧ SqL c.K H a (ns.map V.int) ∧ ns.length ≤ 63 ∧ k ≤ 100 ∧ ∀ z : Int, Q (.int z) H
theorem p_law_cell {c : Cn} {mg : Str → Option Value} (T : Txt c mg) {vs : List V} {H : Hp} {Q : VK} {E : XK} (h : sp_law_cell c vs H Q E) : t_law_cell c { nx := fun _ H' => Q .non H', rt := Q } (start N_law_cell vs) H := by
  obtain ⟨_, a, ns, i, rfl, hs, few, i9, k⟩ := h
  unfold t_law_cell
  repeat kaf_suf
  refine r_ite (fun p => ?_) (fun p => ?_)
  · rw [List.length_map] at p
    obtain ⟨z, hz⟩ : ∃ z, ns[i]? = some z := ⟨_, List.getElem?_eq_getElem (by omega)⟩
    have hx : atI (ns.map V.int) (i : Int) = some (.int z) := atI_get (n := i) (by rw [List.getElem?_map, hz]; rfl) rfl
    repeat kaf_suf
    exact k _
  · repeat kaf_suf
    exact k _
theorem cal_law_cell {c : Cn} {mg : Str → Option Value} {base : Heap} (T : Txt c mg) : Cal c.P c.w c.K mg base CX0 1 "_law_cell" (sp_law_cell c) := by
  obtain ⟨f, fd, F, g, b⟩ := T.F_law_cell
  exact ⟨f, fd, ["script", "k"], F.ok (k := 0) (N := N_law_cell) sc_law_cell (fun vs H Q E h => h.1) (fun cdv A outer s H vs Q E hr h => ⟨t_law_cell c, by
  exact (pss_cons (ps_if (pt_cmpR (o_lt (hu64 hr)) (pv 1) (pe_callB k_len (by rfl) T.n_len (by decide +kernel) (pa_cons (pv 0) pa_nil)) (nomark _)) (pss_one (ps_ret (pe_ix (x_ix (hu64 hr)) (pv 0) (pv 1) (fun _ _ => rfl)))) pss_nil)
  (pss_one (ps_ret (pe_op o_add (pe_op o_add (pe_op o_mul (pe_op o_mul pe_int (pv 1)) (pv 1)) (pe_op o_mul pe_int (pv 1))) pe_int)))), p_law_cell T h⟩), g, F.kp, b⟩
/-- the store at a -/
def StA (H : Hp) (a : Addr) : Prop := ∃ g z n : Int, H a = some (.lst [.int g, .int z, .int n]) ∧ 0 ≤ z ∧ z < 2147483629
abbrev N_law_store : List Str := ["cell", "great"]
theorem sc_law_store : FnScope N_law_store ["cell"] (defScope s_law_store) := ⟨rfl, rfl, rfl, by decide +kernel, rfl, by decide +kernel, by decide +kernel⟩
def t_law_store (c : Cn) : TS :=
  (tSeq (tAsg (tC (.int 0)) (gName 1))
  (C8.tCut (tIfS (tTest (tOp cGe (tVar 0) (tOp bPow (tC (.int 10)) (tC (.int 18)))))
  (tAsg (tVar 0) (gName 1))
  tNext)
  (tRet (tLst (tCons (tVar 1) (tCons (tOp bMod (tVar 0) (tC (.int 2147483629))) (tCons (tC (.int 1)) tNil)))))))
def sp_law_store (c : Cn) : Sp := fun vs H Q E => vs.length = 1 ∧ ∃ (z : Int), vs = [.int z] ∧ ∀ (p : Addr) (H' : Hp), H p = none → Keep Nil H H' → StA H' p → Q (.ref p) H'
theorem p_law_store {c : Cn} {mg : Str → Option Value} (T : Txt c mg) {vs : List V} {H : Hp} {Q : VK} {E : XK} (h : sp_law_store c vs H Q E) : t_law_store c { nx := fun _ H' => Q .non H', rt := Q } (start N_law_store vs) H := by
  obtain ⟨_, z, rfl, k⟩ := h
  unfold t_law_store
  repeat kaf_suf
  refine ⟨fun σ H' => ∃ g : Int, σ = [some (.int z), some (.int g)] ∧ H' = H, ?_, ?_⟩
  · repeat kaf_suf
    refine r_ite (fun p => ?_) (fun p => ?_)
    · repeat kaf_suf
      exact ⟨_, rfl, rfl⟩
    · repeat kaf_suf
      exact ⟨_, rfl, rfl⟩
  rintro σ H' ⟨g, rfl, rfl⟩
  repeat kaf_suf
  intro p hp
  exact k p _ hp (Keep.alloc hp) ⟨g, z % 2147483629, 1, upd_same, by omega, by omega⟩
theorem cal_law_store {c : Cn} {mg : Str → Option Value} {base : Heap} (T : Txt c mg) : Cal c.P c.w c.K mg base CX0 1 "_law_store" (sp_law_store c) := by
  obtain ⟨f, fd, F, g, b⟩ := T.F_law_store
  exact ⟨f, fd, ["cell"], F.ok (k := 0) (N := N_law_store) sc_law_store (fun vs H Q E h => h.1) (fun cdv A outer s H vs Q E hr h => ⟨t_law_store c, by
  exact (pss_cons (ps_set (i := 1) sc_law_store.nd rfl (Or.inl rfl) pe_int)
  (C8.pss_cut (ps_if (pt_cmpR o_ge (pv 0) (pe_op o_pow pe_int pe_int) (nomark _)) (pss_one (ps_set (i := 1) sc_law_store.nd rfl (Or.inl rfl) (pv 0))) pss_nil)
  (pss_one (ps_ret (pe_lst (pa_cons (pv 1) (pa_cons (pe_op o_mod (pv 0) pe_int) (pa_cons pe_int pa_nil)))))))), p_law_store T h⟩), g, F.kp, b⟩
abbrev N_law_take : List Str := ["store", "many", "told", "one"]
theorem sc_law_take : FnScope N_law_take ["store", "many"] (defScope s_law_take) := ⟨rfl, rfl, rfl, by decide +kernel, rfl, by decide +kernel, by decide +kernel⟩
def t_law_take (c : Cn) : TS :=
  (tSeq (tIfS (tTest (tOp cGt (tOp (bIx c.P c.w c.K) (tVar 0) (tC (.int 0))) (tC (.int 0))))
  (tSeq (tAsg (tOp bMod (tOp (bIx c.P c.w c.K) (tVar 0) (tC (.int 0))) (tVar 1)) (gName 2))
  (tSeq (tAsg (tOp bDiv (tOp (bIx c.P c.w c.K) (tVar 0) (tC (.int 0))) (tVar 1)) (gSub (tVar 0) (tC (.int 0)) (bSet c.P c.w)))
  (tRet (tVar 2))))
  tNext)
  (tSeq (tAsg (tOp (bAdd c.K) (tOp (bIx c.P c.w c.K) (tVar 0) (tC (.int 2))) (tC (.int 1))) (gSub (tVar 0) (tC (.int 2)) (bSet c.P c.w)))
  (tSeq (tAsg (tOp bMod (tOp bMul (tOp (bAdd c.K) (tOp (bIx c.P c.w c.K) (tVar 0) (tC (.int 1))) (tOp bMul (tC (.int 7919)) (tOp (bIx c.P c.w c.K) (tVar 0) (tC (.int 2))))) (tC (.int 48271))) (tC (.int 2147483647))) (gName 3))
  (tSeq (tAsg (tOp bMod (tOp bMul (tVar 3) (tVar 3)) (tC (.int 2147483629))) (gName 3))
  (tSeq (tAsg (tOp bMod (tOp bMul (tOp (bAdd c.K) (tVar 3) (tOp bMul (tC (.int 40692)) (tOp (bIx c.P c.w c.K) (tVar 0) (tC (.int 2))))) (tC (.int 69621))) (tC (.int 2147483587))) (gName 3))
  (tRet (tOp bMod (tOp bDiv (tVar 3) (tC (.int 8))) (tVar 1))))))))
def sp_law_take (c : Cn) : Sp := fun vs H Q E => vs.length = 2 ∧ ∃ (a : Addr) (m : Int), vs = [.ref a, .int m] ∧ StA H a ∧ 0 < m ∧ Wd 1000 m ∧ ∀ (H' : Hp) (x : Int), Keep (fun y => y = a) H H' → StA H' a → 0 ≤ x → x < m → Q (.int x) H'
theorem p_law_take {c : Cn} {mg : Str → Option Value} (T : Txt c mg) {vs : List V} {H : Hp} {Q : VK} {E : XK} (h : sp_law_take c vs H Q E) : t_law_take c { nx := fun _ H' => Q .non H', rt := Q } (start N_law_take vs) H := by
  obtain ⟨_, a, m, rfl, ⟨g, z, n, e, z0, z1⟩, m0, wm, k⟩ := h
  unfold t_law_take
  repeat kaf_suf
  refine r_ite (fun p => ?_) (fun p => ?_)
  · repeat kaf_suf
    refine v_divW (Wd.cdiv m0 wm (by decide)) ?_
    repeat kaf_suf
    exact k _ _ (Keep.refl.set rfl) ⟨_, _, _, upd_same, z0, z1⟩ (Int.emod_nonneg _ (by omega)) (Int.emod_lt_of_pos _ m0)
  · repeat kaf_suf
    refine v_mulR (by omega) ?_
    repeat kaf_suf
    refine v_mulR (by omega) ?_
    repeat kaf_suf
    exact k _ _ (Keep.refl.set rfl) ⟨_, _, _, upd_same, z0, z1⟩ (Int.emod_nonneg _ (by omega)) (Int.emod_lt_of_pos _ m0)
theorem cal_law_take {c : Cn} {mg : Str → Option Value} {base : Heap} (T : Txt c mg) : Cal c.P c.w c.K mg base CX0 1 "_law_take" (sp_law_take c) := by
  obtain ⟨f, fd, F, g, b⟩ := T.F_law_take
  exact ⟨f, fd, ["store", "many"], F.ok (k := 0) (N := N_law_take) sc_law_take (fun vs H Q E h => h.1) (fun cdv A outer s H vs Q E hr h => ⟨t_law_take c, by
  exact (pss_cons (ps_if (pt_cmpR o_gt (pe_ix (x_ix (hu64 hr)) (pv 0) pe_int (fun _ _ => rfl)) pe_int (nomark _)) (pss_cons (ps_set (i := 2) sc_law_take.nd rfl (Or.inl rfl) (pe_op o_mod (pe_ix (x_ix (hu64 hr)) (pv 0) pe_int (fun _ _ => rfl)) (pv 1)))
  (pss_cons (ps_asg (pe_op o_div (pe_ix (x_ix (hu64 hr)) (pv 0) pe_int (fun _ _ => rfl)) (pv 1)) (pg_sub (pv 0) pe_int (s_set (hu64 hr))))
  (pss_one (ps_ret (pv 2))))) pss_nil)
  (pss_cons (ps_asg (pe_op o_add (pe_ix (x_ix (hu64 hr)) (pv 0) pe_int (fun _ _ => rfl)) pe_int) (pg_sub (pv 0) pe_int (s_set (hu64 hr))))
  (pss_cons (ps_set (i := 3) sc_law_take.nd rfl (Or.inl rfl) (pe_op o_mod (pe_op o_mul (pe_op o_add (pe_ix (x_ix (hu64 hr)) (pv 0) pe_int (fun _ _ => rfl)) (pe_op o_mul pe_int (pe_ix (x_ix (hu64 hr)) (pv 0) pe_int (fun _ _ => rfl)))) pe_int) pe_int))
  (pss_cons (ps_set (i := 3) sc_law_take.nd rfl (Or.inl rfl) (pe_op o_mod (pe_op o_mul (pv 3) (pv 3)) pe_int))
  (pss_cons (ps_set (i := 3) sc_law_take.nd rfl (Or.inl rfl) (pe_op o_mod (pe_op o_mul (pe_op o_add (pv 3) (pe_op o_mul pe_int (pe_ix (x_ix (hu64 hr)) (pv 0) pe_int (fun _ _ => rfl)))) pe_int) pe_int))
  (pss_one (ps_ret (pe_op o_mod (pe_op o_div (pv 3) pe_int) (pv 1))))))))), p_law_take T h⟩), g, F.kp, b⟩

abbrev N_law_whole : List Str := ["found"]
theorem sc_law_whole : FnScope N_law_whole ["found"] (defScope s_law_whole) := ⟨rfl, rfl, rfl, by decide +kernel, rfl, by decide +kernel, by decide +kernel⟩
def t_law_whole (c : Cn) : TS :=
  (tRet (tAndV (tCB (rIsi c.K) (tCons (tVar 0) (tCons (tC (.ty "int")) tNil))) (tNotV (tCB (rIsi c.K) (tCons (tVar 0) (tCons (tC (.ty "bool")) tNil))))))
def sp_law_whole (c : Cn) : Sp := fun vs H Q E => vs.length = 1 ∧ ∃ x : Int, vs = [.int x] ∧ Q (.bl true) H
theorem p_law_whole {c : Cn} {mg : Str → Option Value} (T : Txt c mg) {vs : List V} {H : Hp} {Q : VK} {E : XK} (h : sp_law_whole c vs H Q E) : t_law_whole c { nx := fun _ H' => Q .non H', rt := Q } (start N_law_whole vs) H := by
  obtain ⟨_, x, rfl, k⟩ := h
  unfold t_law_whole
  repeat kaf_suf
  exact k
theorem cal_law_whole {c : Cn} {mg : Str → Option Value} {base : Heap} (T : Txt c mg) : Cal c.P c.w c.K mg base CX0 1 "_law_whole" (sp_law_whole c) := by
  obtain ⟨f, fd, F, g, b⟩ := T.F_law_whole
  exact ⟨f, fd, ["found"], F.ok (k := 0) (N := N_law_whole) sc_law_whole (fun vs H Q E h => h.1) (fun cdv A outer s H vs Q E hr h => ⟨t_law_whole c, by
  exact (pss_one (ps_ret (pe_and (pe_callB k_isi (by rfl) T.n_isinstance (by decide +kernel) (pa_cons (pv 0) (pa_cons (pe_bltn rfl T.n_int (by decide +kernel) rfl) pa_nil))) (pe_one (pe_not (pe_callB k_isi (by rfl) T.n_isinstance (by decide +kernel) (pa_cons (pv 0) (pa_cons (pe_bltn rfl T.n_bool (by decide +kernel) rfl) pa_nil)))))))), p_law_whole T h⟩), g, F.kp, b⟩
abbrev N_law_fraction : List Str := ["found"]
theorem sc_law_fraction : FnScope N_law_fraction ["found"] (defScope s_law_fraction) := ⟨rfl, rfl, rfl, by decide +kernel, rfl, by decide +kernel, by decide +kernel⟩
def t_law_fraction (c : Cn) : TS :=
  (tSeq (tIfS (tOr (tNot (tTru c.K (tCB (rIsi c.K) (tCons (tVar 0) (tCons (tC (.ty "tuple")) tNil))))) (tTest (tOp (cNe c.K) (tCB (kLen c.K) (tCons (tVar 0) tNil)) (tC (.int 2)))))
  (tRet (tC (.bl false)))
  tNext)
  (tRet (tAndV (tCall (sp_law_whole c) [] E0 (tCons (tOp (bIx c.P c.w c.K) (tVar 0) (tC (.int 0))) tNil)) (tCall (sp_law_whole c) [] E0 (tCons (tOp (bIx c.P c.w c.K) (tVar 0) (tC (.int 1))) tNil)))))
def sp_law_fraction (c : Cn) : Sp := fun vs H Q E => vs.length = 1 ∧ ∃ (v : V) (q : Fr), vs = [v] ∧ FrV H v q ∧ Q (.bl true) H
theorem p_law_fraction {c : Cn} {mg : Str → Option Value} (T : Txt c mg) {vs : List V} {H : Hp} {Q : VK} {E : XK} (h : sp_law_fraction c vs H Q E) : t_law_fraction c { nx := fun _ H' => Q .non H', rt := Q } (start N_law_fraction vs) H := by
  obtain ⟨_, v, q, rfl, ⟨t, rfl, e⟩, k⟩ := h
  unfold t_law_fraction
  repeat kaf_suf
  refine ⟨rfl, _, rfl, ?_⟩
  repeat kaf_suf
  refine ⟨rfl, _, rfl, ?_⟩
  repeat kaf_suf
  exact k
theorem cal_law_fraction {c : Cn} {mg : Str → Option Value} {base : Heap} (T : Txt c mg) : Cal c.P c.w c.K mg base CX0 2 "_law_fraction" (sp_law_fraction c) := by
  obtain ⟨f, fd, F, g, b⟩ := T.F_law_fraction
  exact ⟨f, fd, ["found"], F.ok (k := 1) (N := N_law_fraction) sc_law_fraction (fun vs H Q E h => h.1) (fun cdv A outer s H vs Q E hr h => ⟨t_law_fraction c, by
  exact (pss_cons (ps_if (PW.pt (pw_or (pt_not (p_tru (pe_callB k_isi (by rfl) T.n_isinstance (by decide +kernel) (pa_cons (pv 0) (pa_cons (pe_bltn rfl T.n_tuple (by decide +kernel) rfl) pa_nil))))) (pw_or1 (pt_cmpR (o_ne (hu64 hr)) (pe_callB k_len (by rfl) T.n_len (by decide +kernel) (pa_cons (pv 0) pa_nil)) pe_int (nomark _))))) (pss_one (ps_ret pe_bl)) pss_nil)
  (pss_one (ps_ret (pe_and (e_call (cal_law_whole T) hr (by decide) pass0 rfl (pa_cons (pe_ix (x_ix (hu64 hr)) (pv 0) pe_int (fun _ _ => rfl)) pa_nil)) (pe_one (e_call (cal_law_whole T) hr (by decide) pass0 rfl (pa_cons (pe_ix (x_ix (hu64 hr)) (pv 0) pe_int (fun _ _ => rfl)) pa_nil))))))), p_law_fraction T h⟩), g, F.kp, b⟩

/-- lowest terms of top / bottom -/
structure LowOf (top bottom : Int) (q : Fr) : Prop where
  pos : 0 < q.2
  val : q.1 * bottom = top * q.2
  w1 : q.1.natAbs ≤ top.natAbs
  w2 : q.2.natAbs ≤ bottom.natAbs
theorem low_of {top bottom g : Int} (b0 : 0 < bottom) (g0 : 0 < g) (d1 : g ∣ top) (d2 : g ∣ bottom) : LowOf top bottom (top / g, bottom / g) := by
  obtain ⟨x, rfl⟩ := d1
  obtain ⟨y, rfl⟩ := d2
  have gx : g * x / g = x := Int.mul_ediv_cancel_left x (by omega)
  have gy : g * y / g = y := Int.mul_ediv_cancel_left y (by omega)
  have y0 : 0 < y := Decidable.byContradiction fun n => by
    have := Int.mul_le_mul_of_nonneg_left (show y ≤ 0 by omega) (show 0 ≤ g by omega)
    rw [Int.mul_zero] at this
    omega
  have le : ∀ x : Int, x.natAbs ≤ (g * x).natAbs := fun x => by
    rw [Int.natAbs_mul]
    exact Nat.le_mul_of_pos_left _ (by omega)
  refine ⟨?_, ?_, ?_, ?_⟩
  · show 0 < g * y / g
    rw [gy]; exact y0
  · show g * x / g * (g * y) = g * x * (g * y / g)
    rw [gx, gy, Int.mul_left_comm, Int.mul_assoc]
  · show (g * x / g).natAbs ≤ _
    rw [gx]; exact le x
  · show (g * y / g).natAbs ≤ _
    rw [gy]; exact le y
theorem Wd.nat {n : Nat} {x y : Int} (h : Wd n y) (k : x.natAbs ≤ y.natAbs) : Wd n x := Nat.lt_of_le_of_lt k h
abbrev N_law_lowest : List Str := ["top", "bottom", "one", "other"]
theorem sc_law_lowest : FnScope N_law_lowest ["top", "bottom"] (defScope s_law_lowest) := ⟨rfl, rfl, rfl, by decide +kernel, rfl, by decide +kernel, by decide +kernel⟩
def t_law_lowest (c : Cn) : TS :=
  (tSeq (tAsg (tCB kAbs (tCons (tVar 0) tNil)) (gName 2))
  (tSeq (tAsg (tVar 1) (gName 3))
  (tSeq (tWhile (tTest (tOp cGt (tVar 3) (tC (.int 0))))
  (tPar 2 3 (tCons (tVar 3) (tCons (tOp bMod (tVar 2) (tVar 3)) tNil))))
  (tRet (tTup (tCons (tOp bDiv (tVar 0) (tVar 2)) (tCons (tOp bDiv (tVar 1) (tVar 2)) tNil)))))))
def sp_law_lowest (c : Cn) : Sp := fun vs H Q E => vs.length = 2 ∧ ∃ (top bottom : Int), vs = [.int top, .int bottom] ∧ 0 < bottom ∧ Wd 300 top ∧ Wd 300 bottom ∧ ∀ (H' : Hp) (v : V) (q : Fr), Keep Nil H H' → FrV H' v q → LowOf top bottom q → Q v H'
theorem p_law_lowest {c : Cn} {mg : Str → Option Value} (T : Txt c mg) {vs : List V} {H : Hp} {Q : VK} {E : XK} (h : sp_law_lowest c vs H Q E) : t_law_lowest c { nx := fun _ H' => Q .non H', rt := Q } (start N_law_lowest vs) H := by
  obtain ⟨_, top, bottom, rfl, b0, wt, wb, k⟩ := h
  unfold t_law_lowest
  repeat kaf_suf
  have ab : ∃ o : Int, (if top < 0 then -top else top) = o ∧ 0 ≤ o ∧ Wd 300 o ∧ ∀ d, d ∣ o → d ∣ top := by
    by_cases n : top < 0
    · rw [if_pos n]
      exact ⟨_, rfl, by omega, wt.neg, fun d h => (Int.dvd_neg).mp h⟩
    · rw [if_neg n]
      exact ⟨_, rfl, by omega, wt, fun d h => h⟩
  obtain ⟨o, eo, o0, wo, od⟩ := ab
  rw [eo]
  clear eo
  refine ⟨fun m σ H' => ∃ one other : Int, σ = [some (.int top), some (.int bottom), some (.int one), some (.int other)] ∧ H' = H ∧ 0 ≤ other ∧ 0 ≤ one ∧ (0 < one ∨ 0 < other) ∧ Wd 300 one ∧ Wd 300 other ∧ (∀ d, d ∣ one → d ∣ other → d ∣ top ∧ d ∣ bottom) ∧ m = other.toNat, ⟨_, o, bottom, rfl, rfl, by omega, o0, .inr b0, wo, wb, fun d h1 h2 => ⟨od d h1, h2⟩, rfl⟩, ?_⟩
  rintro m σ H' ⟨one, other, rfl, rfl, r0, n0, so, w1, w2, dv, rfl⟩
  repeat kaf_suf
  refine r_ite (fun p => ?_) (fun p => ?_)
  · have p' : 0 < other := p
    have s1 := Int.emod_nonneg one (show other ≠ 0 by omega)
    have s2 := Int.emod_lt_of_pos one p'
    have w3 : Wd 300 (one % other) := w2.le s1 (by omega)
    refine ⟨fun σ' H'' => σ' = [some (.int top), some (.int bottom), some (.int other), some (.int (one % other))] ∧ H'' = H', fun σ' H'' ⟨h1, h2⟩ => ⟨_, ?_, other, one % other, h1, h2, s1, r0, .inl p', w2, w3, fun d h3 h4 => ?_, rfl⟩, ?_⟩
    · omega
    · have e := Int.mul_ediv_add_emod one other
      have : d ∣ one := by
        rw [← e]
        exact Int.dvd_add (Int.dvd_mul_of_dvd_left h3) h4
      exact dv d this h3
    · repeat kaf_suf
      exact ⟨rfl, rfl⟩
  · have z : other = 0 := by omega
    subst z
    have g0 : 0 < one := by omega
    obtain ⟨d1, d2⟩ := dv one (Int.dvd_refl _) (Int.dvd_zero _)
    repeat kaf_suf
    refine v_divW (Wd.cdiv g0 w1 (by decide)) ?_
    repeat kaf_suf
    refine v_divW (Wd.cdiv g0 w1 (by decide)) ?_
    repeat kaf_suf
    intro p hp
    exact k _ _ _ (Keep.alloc hp) ⟨p, rfl, upd_same⟩ (low_of b0 g0 d1 d2)
theorem cal_law_lowest {c : Cn} {mg : Str → Option Value} {base : Heap} (T : Txt c mg) : Cal c.P c.w c.K mg base CX0 1 "_law_lowest" (sp_law_lowest c) := by
  obtain ⟨f, fd, F, g, b⟩ := T.F_law_lowest
  exact ⟨f, fd, ["top", "bottom"], F.ok (k := 0) (N := N_law_lowest) sc_law_lowest (fun vs H Q E h => h.1) (fun cdv A outer s H vs Q E hr h => ⟨t_law_lowest c, by
  exact (pss_cons (ps_set (i := 2) sc_law_lowest.nd rfl (Or.inl rfl) (pe_callB k_abs (by rfl) T.n_abs (by decide +kernel) (pa_cons (pv 0) pa_nil)))
  (pss_cons (ps_set (i := 3) sc_law_lowest.nd rfl (Or.inl rfl) (pv 1))
  (pss_cons (ps_while PassesOwn.never (pt_cmpR o_gt (pv 3) pe_int (nomark _))
  (pss_one (ps_par (by rfl) sc_law_lowest.nd rfl rfl (by decide) rfl rfl (pa_cons (pv 3) (pa_cons (pe_op o_mod (pv 2) (pv 3)) pa_nil)) (by rfl))))
  (pss_one (ps_ret (pe_tup (pa_cons (pe_op o_div (pv 0) (pv 2)) (pa_cons (pe_op o_div (pv 1) (pv 2)) pa_nil)))))))), p_law_lowest T h⟩), g, F.kp, b⟩
abbrev N_law_lies : List Str := ["q", "low", "high"]
theorem sc_law_lies : FnScope N_law_lies ["q", "low", "high"] (defScope s_law_lies) := ⟨rfl, rfl, rfl, by decide +kernel, rfl, by decide +kernel, by decide +kernel⟩
def t_law_lies (c : Cn) : TS :=
  (tSeq (tIfS (tAnd (tTest (tOp cIsNot (tVar 1) (tC .non))) (tTest (tOp cLe (tOp bMul (tOp (bIx c.P c.w c.K) (tVar 0) (tC (.int 0))) (tOp (bIx c.P c.w c.K) (tVar 1) (tC (.int 1)))) (tOp bMul (tOp (bIx c.P c.w c.K) (tVar 1) (tC (.int 0))) (tOp (bIx c.P c.w c.K) (tVar 0) (tC (.int 1)))))))
  (tRet (tC (.bl false)))
  tNext)
  (tRet (tOrV (tOp cIs (tVar 2) (tC .non)) (tOp (cLt c.K) (tOp bMul (tOp (bIx c.P c.w c.K) (tVar 0) (tC (.int 0))) (tOp (bIx c.P c.w c.K) (tVar 2) (tC (.int 1)))) (tOp bMul (tOp (bIx c.P c.w c.K) (tVar 2) (tC (.int 0))) (tOp (bIx c.P c.w c.K) (tVar 0) (tC (.int 1))))))))
def sp_law_lies (c : Cn) : Sp := fun vs H Q E => vs.length = 3 ∧ ∃ (v lv hv : V) (q : Fr) (low high : Option Fr), vs = [v, lv, hv] ∧ FrV H v q ∧ FrO H lv low ∧ FrO H hv high ∧ WdF 4000 q ∧ (∀ l, low = some l → WdF 4000 l) ∧ (∀ h, high = some h → WdF 4000 h) ∧ Q (.bl (liF q low high)) H
theorem p_law_lies {c : Cn} {mg : Str → Option Value} (T : Txt c mg) {vs : List V} {H : Hp} {Q : VK} {E : XK} (h : sp_law_lies c vs H Q E) : t_law_lies c { nx := fun _ H' => Q .non H', rt := Q } (start N_law_lies vs) H := by
  obtain ⟨_, v, lv, hv, q, low, high, rfl, fq, fl, fh, wq, wl, wh, k⟩ := h
  obtain ⟨t, rfl, et⟩ := id fq
  unfold t_law_lies
  refine r_seq ?_
  refine cutN [some (.ref t), some lv, some hv] (fun H' => H' = H ∧ (low.elim true fun l => ltF l q) = true) (fun HH e => ?_) (fun R hR => ?_)
  rotate_left
  · cases low with
    | none =>
      cases fl
      repeat kaf_suf
      exact hR _ ⟨rfl, rfl⟩
    | some l =>
      have w0 := wl l rfl
      obtain ⟨tl, rfl, etl⟩ := id fl
      repeat kaf_suf
      refine r_iteNT' (non_ref _) ?_
      repeat kaf_suf
      refine v_mulW (wq.1.cmul w0.2 (by decide)) ?_
      repeat kaf_suf
      refine v_mulW (w0.1.cmul wq.2 (by decide)) ?_
      repeat kaf_suf
      refine r_ite (fun p => ?_) (fun p => ?_)
      · repeat kaf_suf
        have e : ltF l q = false := decide_eq_false (by omega)
        have e2 : liF q (some l) high = false := by
          show (ltF l q && _) = false
          rw [e, Bool.false_and]
        rw [e2] at k
        exact k
      · repeat kaf_suf
        exact hR _ ⟨rfl, decide_eq_true (by omega)⟩
  obtain ⟨rfl, lt⟩ := e
  have e3 : liF q low high = (high.elim true fun h => ltF q h) := by
    unfold liF
    rw [lt, Bool.true_and]
  rw [e3] at k
  cases high with
  | none =>
    cases fh
    repeat kaf_suf
    exact k
  | some h =>
    have w1 := wh h rfl
    obtain ⟨u, rfl, eu⟩ := id fh
    repeat kaf_suf
    refine r_iteF' (non_ref _) ?_
    repeat kaf_suf
    refine v_mulW (wq.1.cmul w1.2 (by decide)) ?_
    repeat kaf_suf
    refine v_mulW (w1.1.cmul wq.2 (by decide)) ?_
    repeat kaf_suf
    exact k
theorem cal_law_lies {c : Cn} {mg : Str → Option Value} {base : Heap} (T : Txt c mg) : Cal c.P c.w c.K mg base CX0 1 "_law_lies" (sp_law_lies c) := by
  obtain ⟨f, fd, F, g, b⟩ := T.F_law_lies
  exact ⟨f, fd, ["q", "low", "high"], F.ok (k := 0) (N := N_law_lies) sc_law_lies (fun vs H Q E h => h.1) (fun cdv A outer s H vs Q E hr h => ⟨t_law_lies c, by
  exact (pss_cons (ps_if (PW.pt (pw_and (pt_cmpR o_isnot (pv 1) pe_non (nomark _)) (pw_and1 (pt_cmpR o_le (pe_op o_mul (pe_ix (x_ix (hu64 hr)) (pv 0) pe_int (fun _ _ => rfl)) (pe_ix (x_ix (hu64 hr)) (pv 1) pe_int (fun _ _ => rfl))) (pe_op o_mul (pe_ix (x_ix (hu64 hr)) (pv 1) pe_int (fun _ _ => rfl)) (pe_ix (x_ix (hu64 hr)) (pv 0) pe_int (fun _ _ => rfl))) (nomark _))))) (pss_one (ps_ret pe_bl)) pss_nil)
  (pss_one (ps_ret (pe_or (pe_cmpR o_is (pv 2) pe_non (nomark _)) (pe_one (pe_cmpR (o_lt (hu64 hr)) (pe_op o_mul (pe_ix (x_ix (hu64 hr)) (pv 0) pe_int (fun _ _ => rfl)) (pe_ix (x_ix (hu64 hr)) (pv 2) pe_int (fun _ _ => rfl))) (pe_op o_mul (pe_ix (x_ix (hu64 hr)) (pv 2) pe_int (fun _ _ => rfl)) (pe_ix (x_ix (hu64 hr)) (pv 0) pe_int (fun _ _ => rfl))) (nomark _))))))), p_law_lies T h⟩), g, F.kp, b⟩
theorem eqv_two (a b x y : Int) : PyData.eqv (.tuple [.int a, .int b]) (.tuple [.int x, .int y]) = (decide (a = x) && decide (b = y)) := by
  simp only [PyData.eqv, PyData.eqvAll, Bool.and_true]
  by_cases h1 : a = x <;> by_cases h2 : b = y <;> simp [h1, h2]
theorem two1 : Wd 3 (2 * 1) := by show (2 * 1 : Int).natAbs < 2 ^ 3; decide
theorem two0 : Wd 3 (2 * 0) := by show (2 * 0 : Int).natAbs < 2 ^ 3; decide
theorem pow2_even (i : Nat) : (2 : Int) ^ (i + 1) % 2 = 0 := by rw [Int.pow_succ]; omega
theorem pow2_half (i : Nat) : (2 : Int) ^ (i + 1) / 2 = 2 ^ i := by rw [Int.pow_succ]; omega
abbrev N_law_simplest : List Str := ["found", "low", "high", "top", "bottom"]
theorem sc_law_simplest : FnScope N_law_simplest ["found", "low", "high"] (defScope s_law_simplest) := ⟨rfl, rfl, rfl, by decide +kernel, rfl, by decide +kernel, by decide +kernel⟩
def t_law_simplest (c : Cn) : TS :=
  (tSeq (tIfS (tOr (tNot (tTru c.K (tCall (sp_law_fraction c) [] E0 (tCons (tVar 0) tNil)))) (tOr (tTest (tOp (cLt c.K) (tOp (bIx c.P c.w c.K) (tVar 0) (tC (.int 1))) (tC (.int 1)))) (tNot (tTru c.K (tCall (sp_law_lies c) [] E0 (tCons (tVar 0) (tCons (tVar 1) (tCons (tVar 2) tNil))))))))
  (tRet (tC (.bl false)))
  tNext)
  (tSeq (tAsg (tVar 0) (gSeq c.K 2 (gCons (gName 3) (gCons (gName 4) gNil))))
  (tSeq (tIfS (tTru c.K (tCall (sp_law_lies c) [] E0 (tCons (tTup (tCons (tC (.int 0)) (tCons (tC (.int 1)) tNil))) (tCons (tVar 1) (tCons (tVar 2) tNil)))))
  (tRet (tOp (cEq c.K) (tVar 0) (tTup (tCons (tC (.int 0)) (tCons (tC (.int 1)) tNil)))))
  tNext)
  (tSeq (tIfS (tTest (tOp (cEq c.K) (tVar 4) (tC (.int 1))))
  (tRet (tNotV (tCall (sp_law_lies c) [] E0 (tCons (tTup (tCons (tOp (bAdd c.K) (tOp bSub (tVar 3) (tOp bMul (tC (.int 2)) (tCB kInt (tCons (tOp cGt (tVar 3) (tC (.int 0))) tNil)))) (tC (.int 1))) (tCons (tC (.int 1)) tNil))) (tCons (tVar 1) (tCons (tVar 2) tNil))))))
  tNext)
  (tSeq (tIfS (tTest (tOp (cEq c.K) (tOp bMod (tVar 3) (tC (.int 2))) (tC (.int 0))))
  (tRet (tC (.bl false)))
  tNext)
  (tSeq (tWhile (tTest (tOp (cEq c.K) (tOp bMod (tVar 4) (tC (.int 2))) (tC (.int 0))))
  (tAsg (tOp bDiv (tVar 4) (tC (.int 2))) (gName 4)))
  (tSeq (tIfS (tTest (tOp (cNe c.K) (tVar 4) (tC (.int 1))))
  (tRet (tC (.bl false)))
  tNext)
  (tRet (tAndV (tNotV (tCall (sp_law_lies c) [] E0 (tCons (tTup (tCons (tOp bSub (tVar 3) (tC (.int 1))) (tCons (tOp (bIx c.P c.w c.K) (tVar 0) (tC (.int 1))) tNil))) (tCons (tVar 1) (tCons (tVar 2) tNil))))) (tNotV (tCall (sp_law_lies c) [] E0 (tCons (tTup (tCons (tOp (bAdd c.K) (tVar 3) (tC (.int 1))) (tCons (tOp (bIx c.P c.w c.K) (tVar 0) (tC (.int 1))) tNil))) (tCons (tVar 1) (tCons (tVar 2) tNil))))))))))))))
def sp_law_simplest (c : Cn) : Sp := fun vs H Q E => vs.length = 3 ∧ ∃ (v lv hv : V) (q : Fr) (low high : Option Fr), vs = [v, lv, hv] ∧ FrV H v q ∧ FrO H lv low ∧ FrO H hv high ∧ AskW low high ∧ WdF 2000 q ∧ SimF low high q ∧ ∀ H', Keep Nil H H' → Q (.bl true) H'
theorem p_law_simplest {c : Cn} {mg : Str → Option Value} (T : Txt c mg) {vs : List V} {H : Hp} {Q : VK} {E : XK} (h : sp_law_simplest c vs H Q E) : t_law_simplest c { nx := fun _ H' => Q .non H', rt := Q } (start N_law_simplest vs) H := by
  obtain ⟨_, v, lv, hv, q, low, high, rfl, fq, fl, fh, aw, wq, sim, k⟩ := h
  obtain ⟨t, rfl, et⟩ := id fq
  have wl := aw.wl (n := 4000) (by decide)
  have wh := aw.wh (n := 4000) (by decide)
  have wq' : WdF 4000 q := ⟨wq.1.mono (by decide), wq.2.mono (by decide)⟩
  have lies : liF q low high = true := by
    rcases sim with ⟨z, e⟩ | ⟨_, z, _⟩ | ⟨_, z, _⟩
    · rw [e]; exact z
    · exact z
    · exact z
  have pos : 1 ≤ q.2 := by
    rcases sim with ⟨z, e⟩ | ⟨_, z, e, _⟩ | ⟨_, z, ⟨j, e⟩, _⟩
    · rw [e]; decide
    · omega
    · have : (0 : Int) < 2 ^ (j + 1) := Int.pow_pos (by decide)
      omega
  unfold t_law_simplest
  repeat kaf_suf
  refine ⟨rfl, _, q, rfl, fq, ?_⟩
  repeat kaf_suf
  refine ⟨rfl, _, _, _, q, low, high, rfl, fq, fl, fh, wq', wl, wh, ?_⟩
  rw [lies]
  repeat kaf_suf
  repeat kaf_suf
  intro p1 hp1
  have k1 := Keep.alloc (M := Nil) (o := .tup [.int 0, .int 1]) hp1
  repeat kaf_suf
  refine ⟨rfl, _, _, _, (0, 1), low, high, rfl, ⟨p1, rfl, upd_same⟩, fl.keep k1, fh.keep k1, ⟨Wd.zero, Wd.one (by decide)⟩, wl, wh, ?_⟩
  rcases sim with ⟨z, rfl⟩ | ⟨z, _, e, up, dn⟩ | ⟨z, _, ⟨j, e⟩, od, n1, n2⟩
  · rw [z]
    repeat kaf_suf
    intro p2 hp2
    have e1 := get_new (u := .tup [.int 0, .int 1]) hp2 (k1.get (fun z => z) et)
    refine v_eqD (.tup (SqT.of e1) (.cons (.int _) (.cons (.int _) .nil))) (.tup (SqT.of upd_same) (.cons (.int _) (.cons (.int _) .nil))) rfl rfl ?_
    rw [eqv_two]
    exact k _ (k1.new hp2)
  · rw [z]
    by_cases g : q.1 > 0
    · repeat kaf_suf
      rw [decide_eq_true (show 0 < q.1 from g), if_pos rfl]
      repeat kaf_suf
      intro p2 hp2
      have k2 := k1.new (o := .tup [.int (q.1 - 2 * 1 + 1), .int 1]) hp2
      repeat kaf_suf
      refine ⟨rfl, _, _, _, (q.1 - 2 * 1 + 1, 1), low, high, rfl, ⟨p2, rfl, upd_same⟩, fl.keep k2, fh.keep k2, ⟨((wq.1.sub (two1.mono (by decide))).add (Wd.one (by decide))).mono (by decide), Wd.one (by decide)⟩, wl, wh, ?_⟩
      rw [up g]
      repeat kaf_suf
      exact k _ k2
    · repeat kaf_suf
      rw [decide_eq_false (show ¬ 0 < q.1 from g), if_neg (fun z => by cases z)]
      repeat kaf_suf
      intro p2 hp2
      have k2 := k1.new (o := .tup [.int (q.1 - 2 * 0 + 1), .int 1]) hp2
      repeat kaf_suf
      refine ⟨rfl, _, _, _, (q.1 - 2 * 0 + 1, 1), low, high, rfl, ⟨p2, rfl, upd_same⟩, fl.keep k2, fh.keep k2, ⟨((wq.1.sub (two0.mono (by decide))).add (Wd.one (by decide))).mono (by decide), Wd.one (by decide)⟩, wl, wh, ?_⟩
      rw [dn g]
      repeat kaf_suf
      exact k _ k2
  · rw [z]
    repeat kaf_suf
    have e1 : ¬ q.2 = 1 := by rw [e, Int.pow_succ]; have : (0 : Int) < 2 ^ j := Int.pow_pos (by decide); omega
    repeat kaf_suf
    refine ⟨fun m σ H' => ∃ i : Nat, σ = [some (.ref t), some lv, some hv, some (.int q.1), some (.int (2 ^ i))] ∧ H' = upd H p1 (.tup [.int 0, .int 1]) ∧ m = i, ⟨_, j + 1, by rw [← e]; rfl, rfl, rfl⟩, ?_⟩
    rintro i σ H' ⟨_, rfl, rfl, rfl⟩
    repeat kaf_suf
    refine r_ite (fun p => ?_) (fun p => ?_)
    · cases i with
      | zero => exact absurd p (by decide)
      | succ i =>
        refine ⟨fun σ' H' => σ' = [some (.ref t), some lv, some hv, some (.int q.1), some (.int (2 ^ i))] ∧ H' = upd H p1 (.tup [.int 0, .int 1]), fun σ' H' ⟨h1, h2⟩ => ⟨i, Nat.lt_succ_self i, i, h1, h2, rfl⟩, ?_⟩
        repeat kaf_suf
        rw [pow2_half]
        exact ⟨rfl, rfl⟩
    · cases i with
      | succ i => exact absurd (pow2_even i) p
      | zero =>
        have et1 := k1.get (fun z => z) et
        repeat kaf_suf
        intro p2 hp2
        have k2 := k1.new (o := .tup [.int (q.1 - 1), .int q.2]) hp2
        repeat kaf_suf
        refine ⟨rfl, _, _, _, (q.1 - 1, q.2), low, high, rfl, ⟨p2, rfl, upd_same⟩, fl.keep k2, fh.keep k2, ⟨(wq.1.sub (Wd.one (by decide))).mono (by decide), wq'.2⟩, wl, wh, ?_⟩
        rw [n1]
        have et2 := k2.get (fun z => z) et
        repeat kaf_suf
        intro p3 hp3
        have k3 := k2.new (o := .tup [.int (q.1 + 1), .int q.2]) hp3
        repeat kaf_suf
        refine ⟨rfl, _, _, _, (q.1 + 1, q.2), low, high, rfl, ⟨p3, rfl, upd_same⟩, fl.keep k3, fh.keep k3, ⟨(wq.1.add (Wd.one (by decide))).mono (by decide), wq'.2⟩, wl, wh, ?_⟩
        rw [n2]
        repeat kaf_suf
        exact k _ k3
theorem cal_law_simplest {c : Cn} {mg : Str → Option Value} {base : Heap} (T : Txt c mg) : Cal c.P c.w c.K mg base CX0 3 "_law_simplest" (sp_law_simplest c) := by
  obtain ⟨f, fd, F, g, b⟩ := T.F_law_simplest
  exact ⟨f, fd, ["found", "low", "high"], F.ok (k := 2) (N := N_law_simplest) sc_law_simplest (fun vs H Q E h => h.1) (fun cdv A outer s H vs Q E hr h => ⟨t_law_simplest c, by
  exact (pss_cons (ps_if (PW.pt (pw_or (pt_not (p_tru (e_call (cal_law_fraction T) hr (by decide) pass0 rfl (pa_cons (pv 0) pa_nil)))) (pw_or (pt_cmpR (o_lt (hu64 hr)) (pe_ix (x_ix (hu64 hr)) (pv 0) pe_int (fun _ _ => rfl)) pe_int (nomark _)) (pw_or1 (pt_not (p_tru (e_call (cal_law_lies T) hr (by decide) pass0 rfl (pa_cons (pv 0) (pa_cons (pv 1) (pa_cons (pv 2) pa_nil)))))))))) (pss_one (ps_ret pe_bl)) pss_nil)
  (pss_cons (ps_asg (pv 0) (g_seq rfl (pgs_cons (pg_name (i := 3) sc_law_simplest.nd rfl (Or.inl rfl)) (pgs_cons (pg_name (i := 4) sc_law_simplest.nd rfl (Or.inl rfl)) pgs_nil))))
  (pss_cons (ps_if (p_tru (e_call (cal_law_lies T) hr (by decide) pass0 rfl (pa_cons (pe_tup (pa_cons pe_int (pa_cons pe_int pa_nil))) (pa_cons (pv 1) (pa_cons (pv 2) pa_nil))))) (pss_one (ps_ret (pe_cmpR (o_eq (hu64 hr)) (pv 0) (pe_tup (pa_cons pe_int (pa_cons pe_int pa_nil))) (nomark _)))) pss_nil)
  (pss_cons (ps_if (pt_cmpR (o_eq (hu64 hr)) (pv 4) pe_int (nomark _)) (pss_one (ps_ret (pe_not (e_call (cal_law_lies T) hr (by decide) pass0 rfl (pa_cons (pe_tup (pa_cons (pe_op o_add (pe_op o_sub (pv 3) (pe_op o_mul pe_int (pe_callTy k_int (by rfl) T.n_int (by decide +kernel) (pa_cons (pe_cmpR o_gt (pv 3) pe_int (nomark _)) pa_nil)))) pe_int) (pa_cons pe_int pa_nil))) (pa_cons (pv 1) (pa_cons (pv 2) pa_nil))))))) pss_nil)
  (pss_cons (ps_if (pt_cmpR (o_eq (hu64 hr)) (pe_op o_mod (pv 3) pe_int) pe_int (nomark _)) (pss_one (ps_ret pe_bl)) pss_nil)
  (pss_cons (ps_while PassesOwn.never (pt_cmpR (o_eq (hu64 hr)) (pe_op o_mod (pv 4) pe_int) pe_int (nomark _))
  (pss_one (ps_set (i := 4) sc_law_simplest.nd rfl (Or.inl rfl) (pe_op o_div (pv 4) pe_int))))
  (pss_cons (ps_if (pt_cmpR (o_ne (hu64 hr)) (pv 4) pe_int (nomark _)) (pss_one (ps_ret pe_bl)) pss_nil)
  (pss_one (ps_ret (pe_and (pe_not (e_call (cal_law_lies T) hr (by decide) pass0 rfl (pa_cons (pe_tup (pa_cons (pe_op o_sub (pv 3) pe_int) (pa_cons (pe_ix (x_ix (hu64 hr)) (pv 0) pe_int (fun _ _ => rfl)) pa_nil))) (pa_cons (pv 1) (pa_cons (pv 2) pa_nil))))) (pe_one (pe_not (e_call (cal_law_lies T) hr (by decide) pass0 rfl (pa_cons (pe_tup (pa_cons (pe_op o_add (pv 3) pe_int) (pa_cons (pe_ix (x_ix (hu64 hr)) (pv 0) pe_int (fun _ _ => rfl)) pa_nil))) (pa_cons (pv 1) (pa_cons (pv 2) pa_nil)))))))))))))))), p_law_simplest T h⟩), g, F.kp, b⟩

theorem StA.keep {H H' : Hp} {a : Addr} (s : StA H a) (k : Keep Nil H H') : StA H' a := by
  obtain ⟨g, z, n, e, h⟩ := s
  exact ⟨g, z, n, k.get (fun z => z) e, h⟩
theorem FrV.over {H H' : Hp} {v : V} {q : Fr} {p : Addr} (h : FrV H v q) (s : StA H p) (k : Keep (fun y => y = p) H H') : FrV H' v q := by
  obtain ⟨t, rfl, e⟩ := h
  obtain ⟨g, z, n, e2, _⟩ := s
  exact ⟨t, rfl, k.get (fun w => by have w : t = p := w; subst w; rw [e] at e2; cases e2) e⟩
theorem Wd.of {n : Nat} {x : Int} (h : x.natAbs < 2 ^ n) : Wd n x := h
theorem Wd.small {n : Nat} {x m : Int} (h : Wd n m) (a : 0 ≤ x) (b : x < m) : Wd n x := h.le a (by omega)
abbrev N_law_drawn : List Str := ["store", "bottom", "k", "most"]
theorem sc_law_drawn : FnScope N_law_drawn ["store"] (defScope s_law_drawn) := ⟨rfl, rfl, rfl, by decide +kernel, rfl, by decide +kernel, by decide +kernel⟩
def t_law_drawn (c : Cn) : TS :=
  (tSeq (tAsg (tOp bPow (tC (.int 2)) (tC (.int 4))) (gName 1))
  (tSeq (tFor (iRng1 (tCons (tCall (sp_law_take c) [] E0 (tCons (tVar 0) (tCons (tC (.int 50)) tNil))) tNil)) (gName 2)
  (tAsg (tOp bMul (tC (.int 2)) (tVar 1)) (gName 1)))
  (C8.tCut (tIfS (tTest (tOp (cEq c.K) (tCall (sp_law_take c) [] E0 (tCons (tVar 0) (tCons (tC (.int 2)) tNil))) (tC (.int 0))))
  (tAsg (tOp (bAdd c.K) (tC (.int 1)) (tCall (sp_law_take c) [] E0 (tCons (tVar 0) (tCons (tOp (bIx c.P c.w c.K) (tLst (tCons (tC (.int 1)) (tCons (tC (.int 12)) (tCons (tOp bPow (tC (.int 10)) (tC (.int 18))) tNil)))) (tCall (sp_law_take c) [] E0 (tCons (tVar 0) (tCons (tC (.int 3)) tNil)))) tNil)))) (gName 1))
  tNext)
  (tSeq (tAsg (tOp (bIx c.P c.w c.K) (tLst (tCons (tC (.int 5)) (tCons (tOp bMul (tC (.int 100)) (tVar 1)) (tCons (tOp bPow (tC (.int 10)) (tC (.int 20))) tNil)))) (tCall (sp_law_take c) [] E0 (tCons (tVar 0) (tCons (tC (.int 3)) tNil)))) (gName 3))
  (tRet (tTup (tCons (tOp bSub (tCall (sp_law_take c) [] E0 (tCons (tVar 0) (tCons (tOp (bAdd c.K) (tOp bMul (tC (.int 2)) (tVar 3)) (tC (.int 1))) tNil))) (tVar 3)) (tCons (tVar 1) tNil))))))))
def sp_law_drawn (c : Cn) : Sp := fun vs H Q E => vs.length = 1 ∧ ∃ (a : Addr), vs = [.ref a] ∧ StA H a ∧ ∀ (H' : Hp) (v : V) (q : Fr), Keep (fun y => y = a) H H' → StA H' a → FrV H' v q → 0 < q.2 → WdF 75 q → Q v H'
theorem p_law_drawn {c : Cn} {mg : Str → Option Value} (T : Txt c mg) {vs : List V} {H : Hp} {Q : VK} {E : XK} (h : sp_law_drawn c vs H Q E) : t_law_drawn c { nx := fun _ H' => Q .non H', rt := Q } (start N_law_drawn vs) H := by
  obtain ⟨_, a, rfl, st, k⟩ := h
  have w62 : ∀ x : Int, 0 ≤ x → x < 2305843009213693952 → Wd 62 x := fun x a b => by
    show x.natAbs < 2 ^ 62
    omega
  unfold t_law_drawn
  repeat kaf_suf
  have e16 : (2 : Int) ^ (4 : Int).toNat = 16 := by decide
  rw [e16]
  repeat kaf_suf
  refine ⟨rfl, a, _, rfl, st, by decide, (w62 50 (by decide) (by decide)).mono (by decide), fun H1 x k1 st1 x0 x1 => ?_⟩
  repeat kaf_suf
  refine for_range (lo := 0) (n := x.toNat) (fun i σ H' => H' = H1 ∧ ∃ (o : Option V), σ = [some (.ref a), some (.int (16 * 2 ^ i)), o, none]) ⟨rfl, _, rfl⟩ ?_ ?_
  · rintro i σ H' hi ⟨rfl, o, rfl⟩
    repeat kaf_suf
    refine ⟨rfl, some (.int (0 + (i : Int))), ?_⟩
    rw [show (16 : Int) * 2 ^ (i + 1) = 2 * (16 * 2 ^ i) by rw [Int.pow_succ, Int.mul_comm _ 2, Int.mul_left_comm]]
    rfl
  · rintro σ H' ⟨rfl, o, rfl⟩
    have p2 : (16 : Int) * 2 ^ x.toNat ≤ 16 * 2 ^ 49 := Int.mul_le_mul_of_nonneg_left (by exact_mod_cast Nat.pow_le_pow_right (show 0 < 2 by decide) (show x.toNat ≤ 49 by omega)) (by decide)
    have p1 : (0 : Int) < 16 * 2 ^ x.toNat := Int.mul_pos (by decide) (Int.pow_pos (by decide))
    generalize (16 : Int) * 2 ^ x.toNat = b at p1 p2 ⊢
    refine ⟨fun σ H2 => ∃ (b : Int) (o : Option V), σ = [some (.ref a), some (.int b), o, none] ∧ Keep (fun y => y = a) H H2 ∧ StA H2 a ∧ 0 < b ∧ Wd 62 b, ?_, ?_⟩
    · repeat kaf_suf
      refine ⟨rfl, a, _, rfl, st1, by decide, (w62 2 (by decide) (by decide)).mono (by decide), fun H2 y k2 st2 y0 y1 => ?_⟩
      repeat kaf_suf
      refine r_ite (fun p => ?_) (fun p => ?_)
      · repeat kaf_suf
        have e18 : (10 : Int) ^ (18 : Int).toNat = 1000000000000000000 := by decide
        rw [e18]
        repeat kaf_suf
        intro l hl
        have kl := Keep.alloc (M := Nil) (o := .lst [.int 1, .int 12, .int 1000000000000000000]) hl
        repeat kaf_suf
        refine ⟨rfl, a, _, rfl, st2.keep kl, by decide, (w62 3 (by decide) (by decide)).mono (by decide), fun H3 z k3 st3 z0 z1 => ?_⟩
        have hx : ∃ m : Int, atI [V.int 1, .int 12, .int 1000000000000000000] z = some (.int m) ∧ 0 < m ∧ m ≤ 1000000000000000000 := by
          have : z = 0 ∨ z = 1 ∨ z = 2 := by omega
          rcases this with rfl | rfl | rfl
          · exact ⟨_, rfl, by decide, by decide⟩
          · exact ⟨_, rfl, by decide, by decide⟩
          · exact ⟨_, rfl, by decide, by decide⟩
        obtain ⟨m, hm, m0, m1⟩ := hx
        have el : H3 l = some (.lst [.int 1, .int 12, .int 1000000000000000000]) := k3.get (fun w => by have w : l = a := w; subst w; obtain ⟨_, _, _, e, _⟩ := st2; rw [hl] at e; cases e) upd_same
        have kk := ((k1.trans k2).trans kl.weak).trans k3
        clear k1 k2 kl k3
        repeat kaf_suf
        refine ⟨rfl, a, _, rfl, st3, m0, (w62 m (by omega) (by omega)).mono (by decide), fun H4 u k4 st4 u0 u1 => ?_⟩
        repeat kaf_suf
        exact ⟨1 + u, _, rfl, kk.trans k4, st4, by omega, w62 _ (by omega) (by omega)⟩
      · repeat kaf_suf
        exact ⟨b, _, rfl, k1.trans k2, st2, p1, w62 _ (by omega) (by omega)⟩
    · rintro σ H2 ⟨b, o, rfl, k2, st2, b0, wb⟩
      have e20 : (10 : Int) ^ (20 : Int).toNat = 100000000000000000000 := by decide
      have w100 : Wd 8 100 := by show (100 : Int).natAbs < 2 ^ 8; decide
      repeat kaf_suf
      rw [e20]
      repeat kaf_suf
      intro l hl
      have kl := Keep.alloc (M := Nil) (o := .lst [.int 5, .int (100 * b), .int 100000000000000000000]) hl
      repeat kaf_suf
      refine ⟨rfl, a, _, rfl, st2.keep kl, by decide, (w62 3 (by decide) (by decide)).mono (by decide), fun H3 z k3 st3 z0 z1 => ?_⟩
      have hx : ∃ m : Int, atI [V.int 5, .int (100 * b), .int 100000000000000000000] z = some (.int m) ∧ 0 < m ∧ Wd 70 m := by
        have : z = 0 ∨ z = 1 ∨ z = 2 := by omega
        rcases this with rfl | rfl | rfl
        · exact ⟨_, rfl, by decide, by show (5 : Int).natAbs < 2 ^ 70; decide⟩
        · exact ⟨_, rfl, by omega, w100.mul wb⟩
        · exact ⟨_, rfl, by decide, by show (100000000000000000000 : Int).natAbs < 2 ^ 70; decide⟩
      obtain ⟨m, hm, m0, wm⟩ := hx
      have el : H3 l = some (.lst [.int 5, .int (100 * b), .int 100000000000000000000]) := k3.get (fun w => by have w : l = a := w; subst w; obtain ⟨_, _, _, e, _⟩ := st2; rw [hl] at e; cases e) upd_same
      have kk := (k2.trans kl.weak).trans k3
      clear k2 kl k3
      have wm2 : Wd 72 (2 * m + 1) := by
        have := (wm.add wm).add (Wd.one (n := 71) (by decide))
        rw [← Int.two_mul] at this
        exact this
      repeat kaf_suf
      refine ⟨rfl, a, _, rfl, st3, by omega, wm2.mono (by decide), fun H4 u k4 st4 u0 u1 => ?_⟩
      repeat kaf_suf
      intro p hp
      exact k _ _ (u - m, b) ((kk.trans k4).new hp) (st4.keep (Keep.alloc hp)) ⟨p, rfl, upd_same⟩ b0 ⟨((wm2.small u0 u1).sub (wm.mono (by decide))).mono (by decide), wb.mono (by decide)⟩
theorem cal_law_drawn {c : Cn} {mg : Str → Option Value} {base : Heap} (T : Txt c mg) : Cal c.P c.w c.K mg base CX0 2 "_law_drawn" (sp_law_drawn c) := by
  obtain ⟨f, fd, F, g, b⟩ := T.F_law_drawn
  exact ⟨f, fd, ["store"], F.ok (k := 1) (N := N_law_drawn) sc_law_drawn (fun vs H Q E h => h.1) (fun cdv A outer s H vs Q E hr h => ⟨t_law_drawn c, by
  exact (pss_cons (ps_set (i := 1) sc_law_drawn.nd rfl (Or.inl rfl) (pe_op o_pow pe_int pe_int))
  (pss_cons (ps_for PassesOwn.never rfl (pi_range1 rfl T.n_range (pa_cons (e_call (cal_law_take T) hr (by decide) pass0 rfl (pa_cons (pv 0) (pa_cons pe_int pa_nil))) pa_nil)) (pg_name (i := 2) sc_law_drawn.nd rfl (Or.inl rfl))
  (pss_one (ps_set (i := 1) sc_law_drawn.nd rfl (Or.inl rfl) (pe_op o_mul pe_int (pv 1)))))
  (C8.pss_cut (ps_if (pt_cmpR (o_eq (hu64 hr)) (e_call (cal_law_take T) hr (by decide) pass0 rfl (pa_cons (pv 0) (pa_cons pe_int pa_nil))) pe_int (nomark _)) (pss_one (ps_set (i := 1) sc_law_drawn.nd rfl (Or.inl rfl) (pe_op o_add pe_int (e_call (cal_law_take T) hr (by decide) pass0 rfl (pa_cons (pv 0) (pa_cons (pe_ix (x_ix (hu64 hr)) (pe_lst (pa_cons pe_int (pa_cons pe_int (pa_cons (pe_op o_pow pe_int pe_int) pa_nil)))) (e_call (cal_law_take T) hr (by decide) pass0 rfl (pa_cons (pv 0) (pa_cons pe_int pa_nil))) (fun _ _ => rfl)) pa_nil)))))) pss_nil)
  (pss_cons (ps_set (i := 3) sc_law_drawn.nd rfl (Or.inl rfl) (pe_ix (x_ix (hu64 hr)) (pe_lst (pa_cons pe_int (pa_cons (pe_op o_mul pe_int (pv 1)) (pa_cons (pe_op o_pow pe_int pe_int) pa_nil)))) (e_call (cal_law_take T) hr (by decide) pass0 rfl (pa_cons (pv 0) (pa_cons pe_int pa_nil))) (fun _ _ => rfl)))
  (pss_one (ps_ret (pe_tup (pa_cons (pe_op o_sub (e_call (cal_law_take T) hr (by decide) pass0 rfl (pa_cons (pv 0) (pa_cons (pe_op o_add (pe_op o_mul pe_int (pv 3)) pe_int) pa_nil))) (pv 3)) (pa_cons (pv 1) pa_nil))))))))), p_law_drawn T h⟩), g, F.kp, b⟩
abbrev N_law_asked : List Str := ["low", "high", "refused", "found", "e"]
theorem sc_law_asked : FnScope N_law_asked ["low", "high"] (defScope s_law_asked) := ⟨rfl, rfl, rfl, by decide +kernel, rfl, by decide +kernel, by decide +kernel⟩
def t_law_asked (c : Cn) : TS :=
  (tSeq (tAsg (tC (.bl false)) (gName 2))
  (tSeq (tAsg (tC .non) (gName 3))
  (tSeq (tTryW c.K (.ref c.cNoNumber) 4
    (tAsg (tAndV (tCB (uIsV c.K) (tCons (tVar 4) (tCons (tC (.ref c.cGameError)) tNil))) (tCB (uIsV c.K) (tCons (tVar 4) (tCons (tC (.ty "ValueError")) tNil)))) (gName 2))
    (fun W => (tAsg (tCallW (sx_simplest c) W (tCons (tVar 0) (tCons (tVar 1) tNil))) (gName 3))))
  (tRet (tTup (tCons (tVar 2) (tCons (tVar 3) tNil)))))))
def sp_law_asked (c : Cn) : Sp := fun vs H Q E => vs.length = 2 ∧ (
  (∃ (lv hv : V) (low high : Option Fr), vs = [lv, hv] ∧ FrO H lv low ∧ FrO H hv high ∧ AskW low high ∧ (∀ l h, low = some l → high = some h → ltF l h = true) ∧
    ∀ (H' : Hp) (p : Addr) (v : V) (q : Fr), Keep Nil H H' → H' p = some (.tup [.bl false, v]) → FrV H' v q → WdF 2000 q → SimF low high q → Q (.ref p) H') ∨
  (∃ (lv hv : V) (l h : Fr), vs = [lv, hv] ∧ FrV H lv l ∧ FrV H hv h ∧ WdF 400 l ∧ WdF 400 h ∧ ltF l h = false ∧
    ∀ (H' : Hp) (p : Addr), Keep Nil H H' → H' p = some (.tup [.bl true, .non]) → Q (.ref p) H'))
theorem p_law_asked {c : Cn} {mg : Str → Option Value} (T : Txt c mg) {vs : List V} {H : Hp} {Q : VK} {E : XK} (h : sp_law_asked c vs H Q E) : t_law_asked c { nx := fun _ H' => Q .non H', rt := Q } (start N_law_asked vs) H := by
  obtain ⟨_, ⟨lv, hv, low, high, rfl, fl, fh, aw, lt, k⟩ | ⟨lv, hv, l, h, rfl, fl, fh, wl, wh, lt, k⟩⟩ := h
  · unfold t_law_asked
    repeat kaf_suf
    refine ⟨rfl, .inl ⟨rfl, lv, hv, low, high, rfl, fl, fh, aw, lt, fun H1 v q k1 f1 w1 s1 => ?_⟩⟩
    repeat kaf_suf
    intro p hp
    exact k _ p v q (k1.new hp) upd_same (f1.keep (Keep.alloc hp)) w1 s1
  · unfold t_law_asked
    repeat kaf_suf
    refine ⟨rfl, .inr ⟨rfl, lv, hv, l, h, rfl, fl, fh, wl, wh, lt, w_valW (Txt.mm_NoNumber T) fun a ha => ?_⟩⟩
    have ex := Txt.e_NoNumber T
    have ha1 : (upd H a (ExV (.ref c.cNoNumber) a)) a = some (ExV (.ref c.cNoNumber) a) := upd_same
    repeat kaf_suf
    refine v_isV ha1 ex (.own _) (Txt.i_NoNumber_GameError T) ?_
    repeat kaf_suf
    refine v_isV ha1 ex (.ty _) (Txt.iv_NoNumber T) ?_
    repeat kaf_suf
    intro p hp
    exact k _ p ((Keep.alloc ha).new hp) upd_same
theorem cal_law_asked {c : Cn} {mg : Str → Option Value} {base : Heap} (T : Txt c mg) : Cal c.P c.w c.K mg base CX0 5 "_law_asked" (sp_law_asked c) := by
  obtain ⟨f, fd, F, g, b⟩ := T.F_law_asked
  exact ⟨f, fd, ["low", "high"], F.ok (k := 4) (N := N_law_asked) sc_law_asked (fun vs H Q E h => h.1) (fun cdv A outer s H vs Q E hr h => ⟨t_law_asked c, by
  exact (pss_cons (ps_set (i := 2) sc_law_asked.nd rfl (Or.inl rfl) pe_bl)
  (pss_cons (ps_set (i := 3) sc_law_asked.nd rfl (Or.inl rfl) pe_non)
  (pss_cons (ps_tryW (i := 4) rfl rfl sc_law_asked.nd rfl rfl ⟨rfl, by decide, .inl T.g_NoNumber⟩ rfl
    (fun W pn xe tk po => (pss_one (ps_set (i := 3) sc_law_asked.nd rfl (Or.inl rfl) (e_callS (calx_simplest T) hr (by decide) tk rfl (pa_cons (pv 0) (pa_cons (pv 1) pa_nil))))))
    (fun a pn => (pss_one (ps_set (i := 2) sc_law_asked.nd rfl (Or.inl rfl) (pe_and (pe_callB k_isV (by rfl) T.n_isinstance (by decide +kernel) (pa_cons (pv 4) (pa_cons (pe_glob rfl T.g_GameError rfl) pa_nil))) (pe_one (pe_callB k_isV (by rfl) T.n_isinstance (by decide +kernel) (pa_cons (pv 4) (pa_cons (pe_bltn rfl T.n_ValueError (by decide +kernel) rfl) pa_nil)))))))))
  (pss_one (ps_ret (pe_tup (pa_cons (pv 2) (pa_cons (pv 3) pa_nil)))))))), p_law_asked T h⟩), g, F.kp, b⟩

def OneP (H : Hp) (lv hv : V) : Prop := ∃ l h : Fr, FrV H lv l ∧ FrV H hv h ∧ (0 < l.2 ∧ WdF 400 l) ∧ (0 < h.2 ∧ WdF 400 h) ∧ ltF l h = true
def AskP (H : Hp) (lv hv : V) : Prop := ∃ low high : Option Fr, FrO H lv low ∧ FrO H hv high ∧ AskW low high ∧ ∀ l h, low = some l → high = some h → ltF l h = true
theorem OneP.ask {H : Hp} {lv hv : V} (o : OneP H lv hv) : AskP H lv hv := by
  obtain ⟨l, h, f1, f2, g1, g2, lt⟩ := o
  exact ⟨some l, some h, f1, f2, ⟨fun x e => by cases e; exact g1, fun x e => by cases e; exact g2⟩, fun x y e1 e2 => by cases e1; cases e2; exact lt⟩
theorem FrO.over {H H' : Hp} {v : V} {o : Option Fr} {p : Addr} (h : FrO H v o) (s : StA H p) (k : Keep (fun y => y = p) H H') : FrO H' v o := by
  cases o with
  | none => exact h
  | some q => exact FrV.over h s k
theorem OneP.over {H H' : Hp} {lv hv : V} {p : Addr} (o : OneP H lv hv) (s : StA H p) (k : Keep (fun y => y = p) H H') : OneP H' lv hv := by
  obtain ⟨l, h, f1, f2, r⟩ := o
  exact ⟨l, h, f1.over s k, f2.over s k, r⟩
theorem AskP.keep {H H' : Hp} {lv hv : V} (o : AskP H lv hv) (k : Keep Nil H H') : AskP H' lv hv := by
  obtain ⟨l, h, f1, f2, r⟩ := o
  exact ⟨l, h, f1.keep k, f2.keep k, r⟩
/-- the high one lies above -/
theorem high_lt {top bottom u ab : Int} {low high : Fr} (b0 : 0 < bottom) (u0 : 0 < u) (a0 : 0 ≤ ab) (l : LowOf top bottom low) (h : LowOf (top * u + (1 + ab) * bottom) (bottom * u) high) : ltF low high = true := by
  refine decide_eq_true ?_
  have B0 : 0 < bottom * u := Int.mul_pos b0 u0
  refine Int.lt_of_mul_lt_mul_left (a := bottom * (bottom * u)) ?_ (Int.le_of_lt (Int.mul_pos b0 B0))
  have e1 : bottom * (bottom * u) * (low.1 * high.2) = (low.2 * high.2) * (top * (bottom * u)) := by
    rw [show bottom * (bottom * u) * (low.1 * high.2) = (low.1 * bottom) * (high.2 * (bottom * u)) by ac_rfl, l.val]; ac_rfl
  have e2 : bottom * (bottom * u) * (high.1 * low.2) = (low.2 * high.2) * ((top * u + (1 + ab) * bottom) * bottom) := by
    rw [show bottom * (bottom * u) * (high.1 * low.2) = (high.1 * (bottom * u)) * (low.2 * bottom) by ac_rfl, h.val]; ac_rfl
  rw [e1, e2]
  refine Int.mul_lt_mul_of_pos_left ?_ (Int.mul_pos l.pos h.pos)
  rw [Int.add_mul, show top * (bottom * u) = top * u * bottom by ac_rfl]
  have : 0 < (1 + ab) * bottom * bottom := Int.mul_pos (Int.mul_pos (by omega) b0) b0
  omega
theorem ltF_not {l h : Fr} (e : ltF l h = true) : ltF h l = false := by
  have := of_decide_eq_true e
  exact decide_eq_false (by omega)
theorem ltF_self (l : Fr) : ltF l l = false := decide_eq_false (by omega)
theorem LowOf.wd {top bottom : Int} {q : Fr} (h : LowOf top bottom q) {n : Nat} (w1 : Wd n top) (w2 : Wd n bottom) (k : n ≤ 400) : 0 < q.2 ∧ WdF 400 q := ⟨h.pos, (w1.nat h.w1).mono k, (w2.nat h.w2).mono k⟩
theorem w10 (x : Int) (h : x.natAbs < 2 ^ 10) : Wd 1000 x := Wd.mono (m := 10) h (by decide)
abbrev N_law : List Str := ["script", "k", "store", "top", "bottom", "more", "under", "low", "high", "kind", "refused", "found"]
theorem sc_law : FnScope N_law ["script"] (defScope s_law) := ⟨rfl, rfl, rfl, by decide +kernel, rfl, by decide +kernel, by decide +kernel⟩
def t_law (c : Cn) : TS :=
  (tSeq (tFor (iRng1 (tCons (tCB (kMin c.K) (tCons (tCB (kMax c.K) (tCons (tCB (kLen c.K) (tCons (tVar 0) tNil)) (tCons (tC (.int 3)) tNil))) (tCons (tC (.int 30)) tNil))) tNil)) (gName 1)
  (tSeq (tAsg (tCall (sp_law_store c) [] E0 (tCons (tCall (sp_law_cell c) [] E0 (tCons (tVar 0) (tCons (tVar 1) tNil))) tNil)) (gName 2))
  (tSeq (tAsg (tCall (sp_law_drawn c) [] E0 (tCons (tVar 2) tNil)) (gSeq c.K 2 (gCons (gName 3) (gCons (gName 4) gNil))))
  (tSeq (tAsg (tCall (sp_law_drawn c) [] E0 (tCons (tVar 2) tNil)) (gSeq c.K 2 (gCons (gName 5) (gCons (gName 6) gNil))))
  (C8.tCut (tIfS (tTest (tOp (cEq c.K) (tCall (sp_law_take c) [] E0 (tCons (tVar 2) (tCons (tC (.int 3)) tNil))) (tC (.int 0))))
  (tAsg (tVar 4) (gName 6))
  tNext)
  (tSeq (tAsg (tCall (sp_law_lowest c) [] E0 (tCons (tVar 3) (tCons (tVar 4) tNil))) (gName 7))
  (tSeq (tAsg (tCall (sp_law_lowest c) [] E0 (tCons (tOp (bAdd c.K) (tOp bMul (tVar 3) (tVar 6)) (tOp bMul (tOp (bAdd c.K) (tC (.int 1)) (tCB kAbs (tCons (tVar 5) tNil))) (tVar 4))) (tCons (tOp bMul (tVar 4) (tVar 6)) tNil))) (gName 8))
  (tSeq (tAsg (tCall (sp_law_take c) [] E0 (tCons (tVar 2) (tCons (tC (.int 5)) tNil))) (gName 9))
  (C8.tCut (tIfS (tTest (tOp (cEq c.K) (tVar 9) (tC (.int 0))))
  (tSeq (tAsg (tOp (bIx c.P c.w c.K) (tLst (tCons (tTup (tCons (tVar 8) (tCons (tVar 7) tNil))) (tCons (tTup (tCons (tVar 7) (tCons (tVar 7) tNil))) (tCons (tTup (tCons (tVar 8) (tCons (tVar 8) tNil))) tNil)))) (tCall (sp_law_take c) [] E0 (tCons (tVar 2) (tCons (tC (.int 3)) tNil)))) (gSeq c.K 2 (gCons (gName 7) (gCons (gName 8) gNil))))
  (tIfS (tNot (tTru c.K (tOp (bIx c.P c.w c.K) (tCall (sp_law_asked c) [] E0 (tCons (tVar 7) (tCons (tVar 8) tNil))) (tC (.int 0)))))
  (tRet (tC (.bl false)))
  tNext))
  tNext)
  (C8.tCut (tIfS (tTest (tOp (cEq c.K) (tVar 9) (tC (.int 1))))
  (tSeq (tAsg (tOp (bIx c.P c.w c.K) (tLst (tCons (tC .non) (tCons (tVar 7) tNil))) (tCall (sp_law_take c) [] E0 (tCons (tVar 2) (tCons (tC (.int 2)) tNil)))) (gName 7))
  (tAsg (tC .non) (gName 8)))
  tNext)
  (C8.tCut (tIfS (tTest (tOp (cEq c.K) (tVar 9) (tC (.int 2))))
  (tAsg (tC .non) (gName 7))
  tNext)
  (tIfS (tTest (tOp cGt (tVar 9) (tC (.int 0))))
  (tSeq (tAsg (tCall (sp_law_asked c) [] E0 (tCons (tVar 7) (tCons (tVar 8) tNil))) (gSeq c.K 2 (gCons (gName 10) (gCons (gName 11) gNil))))
  (tIfS (tOr (tTru c.K (tVar 10)) (tNot (tTru c.K (tCall (sp_law_simplest c) [] E0 (tCons (tVar 11) (tCons (tVar 7) (tCons (tVar 8) tNil)))))))
  (tRet (tC (.bl false)))
  tNext))
  tNext))))))))))))
  (tRet (tC (.bl true))))
def sp_law_law (K : PySem.W.Frag) : Sp := fun vs H Q E => vs.length = 1 ∧ ∃ (a : Addr) (ns : List Int), vs = [.ref a] ∧ SqL K H a (ns.map V.int) ∧ ns.length ≤ 63 ∧ ∀ H', Q (.bl true) H'
theorem p_law {c : Cn} {mg : Str → Option Value} (T : Txt c mg) {vs : List V} {H : Hp} {Q : VK} {E : XK} (h : sp_law_law c.K vs H Q E) : t_law c { nx := fun _ H' => Q .non H', rt := Q } (start N_law vs) H := by
  obtain ⟨_, a, ns, rfl, hs, few, k⟩ := h
  unfold t_law
  repeat kaf_suf
  have m1 : (if 3 > ((ns.map V.int).length : Int) then (3 : Int) else ((ns.map V.int).length : Int)) ≤ 63 ∧ 0 ≤ (if 3 > ((ns.map V.int).length : Int) then (3 : Int) else ((ns.map V.int).length : Int)) := by rw [List.length_map]; split <;> omega
  generalize (if 3 > ((ns.map V.int).length : Int) then (3 : Int) else ((ns.map V.int).length : Int)) = m at m1 ⊢
  have m2 : (if 30 < m then 30 else m) ≤ 30 ∧ 0 ≤ (if 30 < m then 30 else m) := by split <;> omega
  generalize (if 30 < m then 30 else m) = mm at m2 ⊢
  repeat kaf_suf
  refine for_range (lo := 0) (n := mm.toNat) (fun i σ H' => SqL c.K H' a (ns.map V.int) ∧ ∃ (x1 x2 x3 x4 x5 x6 x7 x8 x9 x10 x11 : Option V), σ = [some (.ref a), x1, x2, x3, x4, x5, x6, x7, x8, x9, x10, x11]) ⟨hs, none, none, none, none, none, none, none, none, none, none, none, rfl⟩ ?_ ?_
  rotate_left
  · rintro σ H' ⟨hs1, x1, x2, x3, x4, x5, x6, x7, x8, x9, x10, x11, rfl⟩
    repeat kaf_suf
    exact k _
  rintro i σ H1 hi ⟨hs1, x1, x2, x3, x4, x5, x6, x7, x8, x9, x10, x11, rfl⟩
  repeat kaf_suf
  refine ⟨rfl, a, ns, i, by rw [Int.zero_add], hs1, few, by omega, fun z => ?_⟩
  repeat kaf_suf
  refine ⟨rfl, z, rfl, fun p H2 hp k2 st2 => ?_⟩
  repeat kaf_suf
  refine ⟨rfl, p, rfl, st2, fun H3 v3 q3 k3 st3 f3 b3 w3 => ?_⟩
  obtain ⟨t3, rfl, e3⟩ := id f3
  repeat kaf_suf
  refine ⟨rfl, p, rfl, st3, fun H4 v4 q4 k4 st4 f4 b4 w4 => ?_⟩
  obtain ⟨t4, rfl, e4⟩ := id f4
  repeat kaf_suf
  have K4 : Keep Nil H1 H4 := Keep.hide (M := Nil) (l := p) (((k2.weak.trans k3).trans k4).mono fun _ e => .inr e) hp
  have hide : ∀ {H5 H6 : Hp}, Keep Nil H1 H5 → Keep (fun y => y = p) H5 H6 → Keep Nil H1 H6 := fun k1 k2 => Keep.hide (M := Nil) (l := p) ((k1.weak.trans k2).mono fun _ e => .inr e) hp
  clear k2 k3 k4 st2 st3 f3 f4 e3 e4
  repeat kaf_suf
  refine ⟨fun σ H' => ∃ (u : Int) (o : Option V), σ = [some (.ref a), o, some (.ref p), some (.int q3.1), some (.int q3.2), some (.int q4.1), some (.int u), x7, x8, x9, x10, x11] ∧ Keep Nil H1 H' ∧ StA H' p ∧ 0 < u ∧ Wd 75 u, ?_, ?_⟩
  · repeat kaf_suf
    refine ⟨rfl, p, _, rfl, st4, by decide, w10 _ (by decide), fun H5 x k5 st5 x0 x1 => ?_⟩
    repeat kaf_suf
    refine r_ite (fun pp => ?_) (fun pp => ?_)
    · repeat kaf_suf
      exact ⟨_, _, rfl, hide K4 k5, st5, b3, w3.2⟩
    · repeat kaf_suf
      exact ⟨_, _, rfl, hide K4 k5, st5, b4, w4.2⟩
  rintro σ H5 ⟨u, o, rfl, K5, st5, u0, wu⟩
  repeat kaf_suf
  refine ⟨rfl, _, _, rfl, b3, w3.1.mono (by decide), w3.2.mono (by decide), fun H6 v6 low k6 f6 l6 => ?_⟩
  have K6 := K5.trans k6
  have st6 := st5.keep k6
  clear k6 K5 st5
  repeat kaf_suf
  refine v_mulW (w3.1.cmul wu (by decide)) ?_
  repeat kaf_suf
  have hab : 0 ≤ (if q4.1 < 0 then -q4.1 else q4.1) ∧ Wd 75 (if q4.1 < 0 then -q4.1 else q4.1) := by
    split
    · exact ⟨by omega, w4.1.neg⟩
    · exact ⟨by omega, w4.1⟩
  generalize (if q4.1 < 0 then -q4.1 else q4.1) = ab at hab ⊢
  obtain ⟨ab0, wab⟩ := hab
  have w1 : Wd 76 (1 + ab) := (Wd.one (by decide)).add wab
  repeat kaf_suf
  refine v_mulW (w1.cmul w3.2 (by decide)) ?_
  repeat kaf_suf
  refine v_mulW (w3.2.cmul wu (by decide)) ?_
  repeat kaf_suf
  have wA : Wd 152 (q3.1 * u + (1 + ab) * q3.2) := ((w3.1.mul wu).mono (by decide)).add (w1.mul w3.2)
  have wB : Wd 152 (q3.2 * u) := (w3.2.mul wu).mono (by decide)
  refine ⟨rfl, _, _, rfl, Int.mul_pos b3 u0, wA.mono (by decide), wB.mono (by decide), fun H7 v7 high k7 f7 l7 => ?_⟩
  have lt := high_lt b3 u0 ab0 l6 l7
  have gl := l6.wd w3.1 w3.2 (by decide)
  have gh := l7.wd wA wB (by decide)
  have on7 : OneP H7 v6 v7 := ⟨low, high, f6.keep k7, f7, gl, gh, lt⟩
  have f6' := f6.keep k7
  have K7 := K6.trans k7
  have st7 := st6.keep k7
  clear k7 K6 st6 f6
  repeat kaf_suf
  refine ⟨rfl, p, _, rfl, st7, by decide, w10 _ (by decide), fun H8 kind k8 st8 kd0 kd1 => ?_⟩
  have on8 := on7.over st7 k8
  have f6 := f6'.over st7 k8
  have f7 := f7.over st7 k8
  have K8 := hide K7 k8
  clear k8 K7 st7 on7 f6'
  repeat kaf_suf
  refine ⟨fun σ H' => ∃ (o : Option V) (y10 y11 : Option V) (lv hv : V), σ = [some (.ref a), o, some (.ref p), some (.int q3.1), some (.int q3.2), some (.int q4.1), some (.int u), some lv, some hv, some (.int kind), y10, y11] ∧ Keep Nil H1 H' ∧ StA H' p ∧ (kind = 0 ∨ OneP H' lv hv), ?_, ?_⟩
  · repeat kaf_suf
    refine r_ite (fun pp => ?_) (fun pp => ?_)
    · repeat kaf_suf
      intro p1 hp1
      repeat kaf_suf
      intro p2 hp2
      repeat kaf_suf
      intro p3 hp3
      repeat kaf_suf
      intro p4 hp4
      have kn := (((Keep.alloc (M := Nil) (o := .tup [v7, v6]) hp1).new (o := .tup [v6, v6]) hp2).new (o := .tup [v7, v7]) hp3)
      have kl := kn.new (o := .lst [.ref p1, .ref p2, .ref p3]) hp4
      have g1 := get_new (u := .lst [.ref p1, .ref p2, .ref p3]) hp4 (get_new (u := .tup [v7, v7]) hp3 (get_new (u := .tup [v6, v6]) hp2 (upd_same (H := H8) (a := p1) (o := .tup [v7, v6]))))
      have g2 := get_new (u := .lst [.ref p1, .ref p2, .ref p3]) hp4 (get_new (u := .tup [v7, v7]) hp3 (upd_same (H := upd H8 p1 (.tup [v7, v6])) (a := p2) (o := .tup [v6, v6])))
      have g3 := get_new (u := .lst [.ref p1, .ref p2, .ref p3]) hp4 (upd_same (H := upd (upd H8 p1 (.tup [v7, v6])) p2 (.tup [v6, v6])) (a := p3) (o := .tup [v7, v7]))
      have g4 : (upd (upd (upd (upd H8 p1 (.tup [v7, v6])) p2 (.tup [v6, v6])) p3 (.tup [v7, v7])) p4 (.lst [.ref p1, .ref p2, .ref p3])) p4 = some (.lst [.ref p1, .ref p2, .ref p3]) := upd_same
      repeat kaf_suf
      generalize upd (upd (upd (upd H8 p1 (.tup [v7, v6])) p2 (.tup [v6, v6])) p3 (.tup [v7, v7])) p4 (.lst [.ref p1, .ref p2, .ref p3]) = H9 at kl g1 g2 g3 g4 ⊢
      have st9 := st8.keep kl
      refine ⟨rfl, p, _, rfl, st9, by decide, w10 _ (by decide), fun Ha x ka sta x0 x1 => ?_⟩
      have nst : ∀ {q : Addr} {o : HO}, H9 q = some o → (∀ g z n : Int, o ≠ .lst [.int g, .int z, .int n]) → Ha q = some o := fun {q o} e ne => ka.get (fun w => by
        have w : q = p := w
        subst w
        obtain ⟨g, z, n, e2, _⟩ := st9
        rw [e] at e2
        cases e2
        exact ne _ _ _ rfl) e
      have g1 := nst g1 (fun _ _ _ z => by cases z)
      have g2 := nst g2 (fun _ _ _ z => by cases z)
      have g3 := nst g3 (fun _ _ _ z => by cases z)
      have g4 := nst g4 (fun _ _ _ z => by cases z)
      have f6 := (f6.keep kl).over st9 ka
      have f7 := (f7.keep kl).over st9 ka
      have hx : ∃ (t : Addr) (lv hv : V) (l h : Fr), atI [V.ref p1, V.ref p2, V.ref p3] x = some (.ref t) ∧ Ha t = some (.tup [lv, hv]) ∧ FrV Ha lv l ∧ FrV Ha hv h ∧ WdF 400 l ∧ WdF 400 h ∧ ltF l h = false := by
        have : x = 0 ∨ x = 1 ∨ x = 2 := by omega
        rcases this with rfl | rfl | rfl
        · exact ⟨p1, v7, v6, high, low, rfl, g1, f7, f6, gh.2, gl.2, ltF_not lt⟩
        · exact ⟨p2, v6, v6, low, low, rfl, g2, f6, f6, gl.2, gl.2, ltF_self _⟩
        · exact ⟨p3, v7, v7, high, high, rfl, g3, f7, f7, gh.2, gh.2, ltF_self _⟩
      obtain ⟨t, lv, hv, l, h, hx, ht, fl, fh, wl, wh, nlt⟩ := hx
      have Ka := hide (K8.trans kl) ka
      clear ka kl kn hp1 hp2 hp3 hp4
      repeat kaf_suf
      repeat kaf_suf
      refine ⟨rfl, .inr ⟨lv, hv, l, h, rfl, fl, fh, wl, wh, nlt, fun Hb pb kb eb => ?_⟩⟩
      repeat kaf_suf
      exact ⟨_, _, _, _, _, rfl, Ka.trans kb, sta.keep kb, .inl pp⟩
    · repeat kaf_suf
      exact ⟨_, _, _, _, _, rfl, K8, st8, .inr on8⟩
  clear on8 f6 f7 K8 st8 lt
  rintro σ H9 ⟨o, y10, y11, lv, hv, rfl, K9, st9, on9⟩
  repeat kaf_suf
  refine ⟨fun σ H' => ∃ (o : Option V) (y10 y11 : Option V) (lv hv : V), σ = [some (.ref a), o, some (.ref p), some (.int q3.1), some (.int q3.2), some (.int q4.1), some (.int u), some lv, some hv, some (.int kind), y10, y11] ∧ Keep Nil H1 H' ∧ (kind = 0 ∨ AskP H' lv hv), ?_, ?_⟩
  · repeat kaf_suf
    refine r_ite (fun pp => ?_) (fun pp => ?_)
    · have on9 := on9.resolve_left (by omega)
      repeat kaf_suf
      intro p1 hp1
      have kl := Keep.alloc (M := Nil) (o := .lst [.non, lv]) hp1
      have st10 := st9.keep kl
      have g1 : (upd H9 p1 (.lst [.non, lv])) p1 = some (.lst [.non, lv]) := upd_same
      repeat kaf_suf
      refine ⟨rfl, p, _, rfl, st10, by decide, w10 _ (by decide), fun Ha x ka sta x0 x1 => ?_⟩
      obtain ⟨l, h, f1, f2, w1, w2, lt⟩ := on9
      have f1 := (f1.keep kl).over st10 ka
      have g1 : Ha p1 = some (.lst [.non, lv]) := ka.get (fun w => by
        have w : p1 = p := w
        subst w
        obtain ⟨g, z, n, e2, _⟩ := st9
        rw [hp1] at e2
        cases e2) g1
      have Ka := hide (K9.trans kl) ka
      have hx : ∃ v low, atI [V.non, lv] x = some v ∧ FrO Ha v low ∧ AskW low none := by
        have : x = 0 ∨ x = 1 := by omega
        rcases this with rfl | rfl
        · exact ⟨_, none, rfl, rfl, ⟨fun _ e => (by cases e), fun _ e => (by cases e)⟩⟩
        · exact ⟨_, some l, rfl, f1, ⟨fun _ e => (by cases e; exact w1), fun _ e => (by cases e)⟩⟩
      obtain ⟨v, low', hx, fo, aw⟩ := hx
      clear ka kl hp1
      repeat kaf_suf
      exact ⟨_, _, _, _, _, rfl, Ka, .inr ⟨low', none, fo, rfl, aw, fun _ _ _ e => (by cases e)⟩⟩
    · repeat kaf_suf
      exact ⟨_, _, _, _, _, rfl, K9, on9.imp id OneP.ask⟩
  clear on9 K9 st9
  rintro σ H9 ⟨o, y10, y11, lv, hv, rfl, K9, on9⟩
  repeat kaf_suf
  refine ⟨fun σ H' => ∃ (o : Option V) (y10 y11 : Option V) (lv hv : V), σ = [some (.ref a), o, some (.ref p), some (.int q3.1), some (.int q3.2), some (.int q4.1), some (.int u), some lv, some hv, some (.int kind), y10, y11] ∧ Keep Nil H1 H' ∧ (kind = 0 ∨ AskP H' lv hv), ?_, ?_⟩
  · repeat kaf_suf
    refine r_ite (fun pp => ?_) (fun pp => ?_)
    · obtain ⟨low', high', f1, f2, aw, lt⟩ := on9.resolve_left (by omega)
      repeat kaf_suf
      exact ⟨_, _, _, _, _, rfl, K9, .inr ⟨none, high', rfl, f2, ⟨fun _ e => (by cases e), aw.b⟩, fun _ _ e => (by cases e)⟩⟩
    · repeat kaf_suf
      exact ⟨_, _, _, _, _, rfl, K9, on9⟩
  clear on9 K9
  rintro σ H9 ⟨o, y10, y11, lv, hv, rfl, K9, on9⟩
  repeat kaf_suf
  refine r_ite (fun pp => ?_) (fun pp => ?_)
  · obtain ⟨low', high', f1, f2, aw, lt⟩ := on9.resolve_left (by omega)
    repeat kaf_suf
    refine ⟨rfl, .inl ⟨lv, hv, low', high', rfl, f1, f2, aw, lt, fun Ha t v q ka et fq wq sim => ?_⟩⟩
    repeat kaf_suf
    refine ⟨rfl, v, lv, hv, q, low', high', rfl, fq, f1.keep ka, f2.keep ka, aw, wq, sim, fun Hb kb => ?_⟩
    repeat kaf_suf
    exact ⟨seq_keep ((K9.trans ka).trans kb) hs1, _, _, _, _, _, _, _, _, _, _, _, rfl⟩
  · repeat kaf_suf
    exact ⟨seq_keep K9 hs1, _, _, _, _, _, _, _, _, _, _, _, rfl⟩
theorem ok_law {c : Cn} {mg : Str → Option Value} {base : Heap} {f : Addr} {fd : FuncData} (T : Txt c mg) (F : Fun c.K "law" "law" s_law f fd) : FnOk c.P c.w c.K mg base CX0 7 f fd ["script"] (sp_law_law c.K) :=
  F.ok (k := 6) (N := N_law) sc_law (fun vs H Q E h => h.1) (fun cdv A outer s H vs Q E hr h => ⟨t_law c, by
  exact (pss_cons (ps_for PassesOwn.never rfl (pi_range1 rfl T.n_range (pa_cons (pe_callB (k_min rfl) (by rfl) T.n_min (by decide +kernel) (pa_cons (pe_callB (k_max rfl) (by rfl) T.n_max (by decide +kernel) (pa_cons (pe_callB k_len (by rfl) T.n_len (by decide +kernel) (pa_cons (pv 0) pa_nil)) (pa_cons pe_int pa_nil))) (pa_cons pe_int pa_nil))) pa_nil)) (pg_name (i := 1) sc_law.nd rfl (Or.inl rfl))
  (pss_cons (ps_set (i := 2) sc_law.nd rfl (Or.inl rfl) (e_call (cal_law_store T) hr (by decide) pass0 rfl (pa_cons (e_call (cal_law_cell T) hr (by decide) pass0 rfl (pa_cons (pv 0) (pa_cons (pv 1) pa_nil))) pa_nil)))
  (pss_cons (ps_asg (e_call (cal_law_drawn T) hr (by decide) pass0 rfl (pa_cons (pv 2) pa_nil)) (g_seq rfl (pgs_cons (pg_name (i := 3) sc_law.nd rfl (Or.inl rfl)) (pgs_cons (pg_name (i := 4) sc_law.nd rfl (Or.inl rfl)) pgs_nil))))
  (pss_cons (ps_asg (e_call (cal_law_drawn T) hr (by decide) pass0 rfl (pa_cons (pv 2) pa_nil)) (g_seq rfl (pgs_cons (pg_name (i := 5) sc_law.nd rfl (Or.inl rfl)) (pgs_cons (pg_name (i := 6) sc_law.nd rfl (Or.inl rfl)) pgs_nil))))
  (C8.pss_cut (ps_if (pt_cmpR (o_eq (hu64 hr)) (e_call (cal_law_take T) hr (by decide) pass0 rfl (pa_cons (pv 2) (pa_cons pe_int pa_nil))) pe_int (nomark _)) (pss_one (ps_set (i := 6) sc_law.nd rfl (Or.inl rfl) (pv 4))) pss_nil)
  (pss_cons (ps_set (i := 7) sc_law.nd rfl (Or.inl rfl) (e_call (cal_law_lowest T) hr (by decide) pass0 rfl (pa_cons (pv 3) (pa_cons (pv 4) pa_nil))))
  (pss_cons (ps_set (i := 8) sc_law.nd rfl (Or.inl rfl) (e_call (cal_law_lowest T) hr (by decide) pass0 rfl (pa_cons (pe_op o_add (pe_op o_mul (pv 3) (pv 6)) (pe_op o_mul (pe_op o_add pe_int (pe_callB k_abs (by rfl) T.n_abs (by decide +kernel) (pa_cons (pv 5) pa_nil))) (pv 4))) (pa_cons (pe_op o_mul (pv 4) (pv 6)) pa_nil))))
  (pss_cons (ps_set (i := 9) sc_law.nd rfl (Or.inl rfl) (e_call (cal_law_take T) hr (by decide) pass0 rfl (pa_cons (pv 2) (pa_cons pe_int pa_nil))))
  (C8.pss_cut (ps_if (pt_cmpR (o_eq (hu64 hr)) (pv 9) pe_int (nomark _)) (pss_cons (ps_asg (pe_ix (x_ix (hu64 hr)) (pe_lst (pa_cons (pe_tup (pa_cons (pv 8) (pa_cons (pv 7) pa_nil))) (pa_cons (pe_tup (pa_cons (pv 7) (pa_cons (pv 7) pa_nil))) (pa_cons (pe_tup (pa_cons (pv 8) (pa_cons (pv 8) pa_nil))) pa_nil)))) (e_call (cal_law_take T) hr (by decide) pass0 rfl (pa_cons (pv 2) (pa_cons pe_int pa_nil))) (fun _ _ => rfl)) (g_seq rfl (pgs_cons (pg_name (i := 7) sc_law.nd rfl (Or.inl rfl)) (pgs_cons (pg_name (i := 8) sc_law.nd rfl (Or.inl rfl)) pgs_nil))))
  (pss_one (ps_if (pt_not (p_tru (pe_ix (x_ix (hu64 hr)) (e_call (cal_law_asked T) hr (by decide) pass0 rfl (pa_cons (pv 7) (pa_cons (pv 8) pa_nil))) pe_int (fun _ _ => rfl)))) (pss_one (ps_ret pe_bl)) pss_nil))) pss_nil)
  (C8.pss_cut (ps_if (pt_cmpR (o_eq (hu64 hr)) (pv 9) pe_int (nomark _)) (pss_cons (ps_set (i := 7) sc_law.nd rfl (Or.inl rfl) (pe_ix (x_ix (hu64 hr)) (pe_lst (pa_cons pe_non (pa_cons (pv 7) pa_nil))) (e_call (cal_law_take T) hr (by decide) pass0 rfl (pa_cons (pv 2) (pa_cons pe_int pa_nil))) (fun _ _ => rfl)))
  (pss_one (ps_set (i := 8) sc_law.nd rfl (Or.inl rfl) pe_non))) pss_nil)
  (C8.pss_cut (ps_if (pt_cmpR (o_eq (hu64 hr)) (pv 9) pe_int (nomark _)) (pss_one (ps_set (i := 7) sc_law.nd rfl (Or.inl rfl) pe_non)) pss_nil)
  (pss_one (ps_if (pt_cmpR o_gt (pv 9) pe_int (nomark _)) (pss_cons (ps_asg (e_call (cal_law_asked T) hr (by decide) pass0 rfl (pa_cons (pv 7) (pa_cons (pv 8) pa_nil))) (g_seq rfl (pgs_cons (pg_name (i := 10) sc_law.nd rfl (Or.inl rfl)) (pgs_cons (pg_name (i := 11) sc_law.nd rfl (Or.inl rfl)) pgs_nil))))
  (pss_one (ps_if (PW.pt (pw_or (p_tru (pv 10)) (pw_or1 (pt_not (p_tru (e_call (cal_law_simplest T) hr (by decide) pass0 rfl (pa_cons (pv 11) (pa_cons (pv 7) (pa_cons (pv 8) pa_nil))))))))) (pss_one (ps_ret pe_bl)) pss_nil))) pss_nil)))))))))))))
  (pss_one (ps_ret pe_bl))), p_law T h⟩)
theorem all_mk {l : PySem.W.OpenLaw} {w : World} {K : PySem.W.Frag} {h : Heap} {mg : Str → Option Value} {fa : Addr} (X : K.In h) (G : h.Ns mainGlobals mg) (hfa : mg "law" = some (.ref fa))
    {aGameError aNoNumber : Addr}
    {f_is_less : Addr} {od_is_less an_is_less : Option Addr} {sl_is_less : Array (Option Value)} {oc_is_less kV_is_less dc_is_less pm_is_less cd_is_less ct_is_less : Value}
    {f_lies_in : Addr} {od_lies_in an_lies_in : Option Addr} {sl_lies_in : Array (Option Value)} {oc_lies_in kV_lies_in dc_lies_in pm_lies_in cd_lies_in ct_lies_in : Value}
    {f_nearest_whole : Addr} {od_nearest_whole an_nearest_whole : Option Addr} {sl_nearest_whole : Array (Option Value)} {oc_nearest_whole kV_nearest_whole dc_nearest_whole pm_nearest_whole cd_nearest_whole ct_nearest_whole : Value}
    {f_simplest : Addr} {od_simplest an_simplest : Option Addr} {sl_simplest : Array (Option Value)} {oc_simplest kV_simplest dc_simplest pm_simplest cd_simplest ct_simplest : Value}
    {f_law_cell : Addr} {od_law_cell an_law_cell : Option Addr} {sl_law_cell : Array (Option Value)} {oc_law_cell kV_law_cell dc_law_cell pm_law_cell cd_law_cell ct_law_cell : Value}
    {f_law_store : Addr} {od_law_store an_law_store : Option Addr} {sl_law_store : Array (Option Value)} {oc_law_store kV_law_store dc_law_store pm_law_store cd_law_store ct_law_store : Value}
    {f_law_take : Addr} {od_law_take an_law_take : Option Addr} {sl_law_take : Array (Option Value)} {oc_law_take kV_law_take dc_law_take pm_law_take cd_law_take ct_law_take : Value}
    {f_law_whole : Addr} {od_law_whole an_law_whole : Option Addr} {sl_law_whole : Array (Option Value)} {oc_law_whole kV_law_whole dc_law_whole pm_law_whole cd_law_whole ct_law_whole : Value}
    {f_law_fraction : Addr} {od_law_fraction an_law_fraction : Option Addr} {sl_law_fraction : Array (Option Value)} {oc_law_fraction kV_law_fraction dc_law_fraction pm_law_fraction cd_law_fraction ct_law_fraction : Value}
    {f_law_lowest : Addr} {od_law_lowest an_law_lowest : Option Addr} {sl_law_lowest : Array (Option Value)} {oc_law_lowest kV_law_lowest dc_law_lowest pm_law_lowest cd_law_lowest ct_law_lowest : Value}
    {f_law_lies : Addr} {od_law_lies an_law_lies : Option Addr} {sl_law_lies : Array (Option Value)} {oc_law_lies kV_law_lies dc_law_lies pm_law_lies cd_law_lies ct_law_lies : Value}
    {f_law_simplest : Addr} {od_law_simplest an_law_simplest : Option Addr} {sl_law_simplest : Array (Option Value)} {oc_law_simplest kV_law_simplest dc_law_simplest pm_law_simplest cd_law_simplest ct_law_simplest : Value}
    {f_law_drawn : Addr} {od_law_drawn an_law_drawn : Option Addr} {sl_law_drawn : Array (Option Value)} {oc_law_drawn kV_law_drawn dc_law_drawn pm_law_drawn cd_law_drawn ct_law_drawn : Value}
    {f_law_asked : Addr} {od_law_asked an_law_asked : Option Addr} {sl_law_asked : Array (Option Value)} {oc_law_asked kV_law_asked dc_law_asked pm_law_asked cd_law_asked ct_law_asked : Value}
    {f_law : Addr} {od_law an_law : Option Addr} {sl_law : Array (Option Value)} {oc_law kV_law dc_law pm_law cd_law ct_law : Value}
    (a_GameError : PySem.W.nsIn K mainGlobals "GameError" = some (some (.ref aGameError)))
    (a_NoNumber : PySem.W.nsIn K mainGlobals "NoNumber" = some (some (.ref aNoNumber)))
    (xk_GameError : PySem.W.keepIn K (.ref aGameError) = true)
    (xx_GameError : PySem.W.excIn K aGameError [.type "ValueError", .type "Exception", .type "BaseException", .type "object"] "ValueError.__new__" = true)
    (xb_GameError : PySem.W.subIn K (.ref aGameError) (.type "BaseException") = some true)
    (xt_GameError : PySem.W.typeIn K (.ref aGameError) = some (.type "type"))
    (xd_GameError : PySem.W.hasDictIn K aGameError = true)
    (xs_GameError : PySem.W.subIn K (.ref aGameError) (.ref aGameError) = some true)
    (xk_NoNumber : PySem.W.keepIn K (.ref aNoNumber) = true)
    (xx_NoNumber : PySem.W.excIn K aNoNumber [.type "ValueError", .type "Exception", .type "BaseException", .type "object"] "ValueError.__new__" = true)
    (xb_NoNumber : PySem.W.subIn K (.ref aNoNumber) (.type "BaseException") = some true)
    (xt_NoNumber : PySem.W.typeIn K (.ref aNoNumber) = some (.type "type"))
    (xd_NoNumber : PySem.W.hasDictIn K aNoNumber = true)
    (xs_NoNumber : PySem.W.subIn K (.ref aNoNumber) (.ref aGameError) = some true)
    (x_get : PySem.W.specialIn K (.builtin "object.__class__") "__get__" = some (some (.builtin "getset_descriptor.__get__")))
    (x_tak : PySem.W.takesIn K (.builtin "object.__class__") = some true)
    (ya_GameError : PySem.W.findIn K (.ref aGameError) "__getattribute__" = some (some (.builtin "BaseException.__getattribute__")))
    (yg_GameError : PySem.W.findIn K (.ref aGameError) "__getattr__" = some none)
    (yc_GameError : PySem.W.findIn K (.ref aGameError) "__class__" = some (some (.builtin "object.__class__")))
    (ym_GameError : PySem.W.mroIn K aGameError (.type "object") = some true)
    (yv_GameError : PySem.W.kitOne K (.ref aGameError) (.type "ValueError") = some true)
    (yi_GameError_GameError : PySem.W.kitOne K (.ref aGameError) (.ref aGameError) = some true)
    (yi_GameError_NoNumber : PySem.W.kitOne K (.ref aGameError) (.ref aNoNumber) = some false)
    (ya_NoNumber : PySem.W.findIn K (.ref aNoNumber) "__getattribute__" = some (some (.builtin "BaseException.__getattribute__")))
    (yg_NoNumber : PySem.W.findIn K (.ref aNoNumber) "__getattr__" = some none)
    (yc_NoNumber : PySem.W.findIn K (.ref aNoNumber) "__class__" = some (some (.builtin "object.__class__")))
    (ym_NoNumber : PySem.W.mroIn K aNoNumber (.type "object") = some true)
    (ys_NoNumber : PySem.W.subIn K (.ref aNoNumber) (.ref aNoNumber) = some true)
    (yv_NoNumber : PySem.W.kitOne K (.ref aNoNumber) (.type "ValueError") = some true)
    (yi_NoNumber_GameError : PySem.W.kitOne K (.ref aNoNumber) (.ref aGameError) = some true)
    (yi_NoNumber_NoNumber : PySem.W.kitOne K (.ref aNoNumber) (.ref aNoNumber) = some true)
    (n_ValueError : PySem.W.nsIn K mainGlobals "ValueError" = some none)
    (n_abs : PySem.W.nsIn K mainGlobals "abs" = some none)
    (n_bool : PySem.W.nsIn K mainGlobals "bool" = some none)
    (n_int : PySem.W.nsIn K mainGlobals "int" = some none)
    (n_isinstance : PySem.W.nsIn K mainGlobals "isinstance" = some none)
    (n_len : PySem.W.nsIn K mainGlobals "len" = some none)
    (n_max : PySem.W.nsIn K mainGlobals "max" = some none)
    (n_min : PySem.W.nsIn K mainGlobals "min" = some none)
    (n_range : PySem.W.nsIn K mainGlobals "range" = some none)
    (n_tuple : PySem.W.nsIn K mainGlobals "tuple" = some none)
    (a_is_less : PySem.W.nsIn K mainGlobals "is_less" = some (some (.ref f_is_less)))
    (l_is_less : K.lookup f_is_less = some ⟨oc_is_less, od_is_less, .func (PySem.W.fnOf "is_less" "is_less" (defArgs s_is_less) (defBody s_is_less) (defScope s_is_less) .none kV_is_less dc_is_less pm_is_less an_is_less cd_is_less ct_is_less), sl_is_less⟩)
    (c_is_less : PySem.W.codeIn K cd_is_less "is_less" = true)
    (k_is_less : PySem.W.keepIn K (.ref f_is_less) = true)
    (a_lies_in : PySem.W.nsIn K mainGlobals "lies_in" = some (some (.ref f_lies_in)))
    (l_lies_in : K.lookup f_lies_in = some ⟨oc_lies_in, od_lies_in, .func (PySem.W.fnOf "lies_in" "lies_in" (defArgs s_lies_in) (defBody s_lies_in) (defScope s_lies_in) .none kV_lies_in dc_lies_in pm_lies_in an_lies_in cd_lies_in ct_lies_in), sl_lies_in⟩)
    (c_lies_in : PySem.W.codeIn K cd_lies_in "lies_in" = true)
    (k_lies_in : PySem.W.keepIn K (.ref f_lies_in) = true)
    (a_nearest_whole : PySem.W.nsIn K mainGlobals "nearest_whole" = some (some (.ref f_nearest_whole)))
    (l_nearest_whole : K.lookup f_nearest_whole = some ⟨oc_nearest_whole, od_nearest_whole, .func (PySem.W.fnOf "nearest_whole" "nearest_whole" (defArgs s_nearest_whole) (defBody s_nearest_whole) (defScope s_nearest_whole) .none kV_nearest_whole dc_nearest_whole pm_nearest_whole an_nearest_whole cd_nearest_whole ct_nearest_whole), sl_nearest_whole⟩)
    (c_nearest_whole : PySem.W.codeIn K cd_nearest_whole "nearest_whole" = true)
    (k_nearest_whole : PySem.W.keepIn K (.ref f_nearest_whole) = true)
    (a_simplest : PySem.W.nsIn K mainGlobals "simplest" = some (some (.ref f_simplest)))
    (l_simplest : K.lookup f_simplest = some ⟨oc_simplest, od_simplest, .func (PySem.W.fnOf "simplest" "simplest" (defArgs s_simplest) (defBody s_simplest) (defScope s_simplest) .none kV_simplest dc_simplest pm_simplest an_simplest cd_simplest ct_simplest), sl_simplest⟩)
    (c_simplest : PySem.W.codeIn K cd_simplest "simplest" = true)
    (k_simplest : PySem.W.keepIn K (.ref f_simplest) = true)
    (a_law_cell : PySem.W.nsIn K mainGlobals "_law_cell" = some (some (.ref f_law_cell)))
    (l_law_cell : K.lookup f_law_cell = some ⟨oc_law_cell, od_law_cell, .func (PySem.W.fnOf "_law_cell" "_law_cell" (defArgs s_law_cell) (defBody s_law_cell) (defScope s_law_cell) .none kV_law_cell dc_law_cell pm_law_cell an_law_cell cd_law_cell ct_law_cell), sl_law_cell⟩)
    (c_law_cell : PySem.W.codeIn K cd_law_cell "_law_cell" = true)
    (k_law_cell : PySem.W.keepIn K (.ref f_law_cell) = true)
    (a_law_store : PySem.W.nsIn K mainGlobals "_law_store" = some (some (.ref f_law_store)))
    (l_law_store : K.lookup f_law_store = some ⟨oc_law_store, od_law_store, .func (PySem.W.fnOf "_law_store" "_law_store" (defArgs s_law_store) (defBody s_law_store) (defScope s_law_store) .none kV_law_store dc_law_store pm_law_store an_law_store cd_law_store ct_law_store), sl_law_store⟩)
    (c_law_store : PySem.W.codeIn K cd_law_store "_law_store" = true)
    (k_law_store : PySem.W.keepIn K (.ref f_law_store) = true)
    (a_law_take : PySem.W.nsIn K mainGlobals "_law_take" = some (some (.ref f_law_take)))
    (l_law_take : K.lookup f_law_take = some ⟨oc_law_take, od_law_take, .func (PySem.W.fnOf "_law_take" "_law_take" (defArgs s_law_take) (defBody s_law_take) (defScope s_law_take) .none kV_law_take dc_law_take pm_law_take an_law_take cd_law_take ct_law_take), sl_law_take⟩)
    (c_law_take : PySem.W.codeIn K cd_law_take "_law_take" = true)
    (k_law_take : PySem.W.keepIn K (.ref f_law_take) = true)
    (a_law_whole : PySem.W.nsIn K mainGlobals "_law_whole" = some (some (.ref f_law_whole)))
    (l_law_whole : K.lookup f_law_whole = some ⟨oc_law_whole, od_law_whole, .func (PySem.W.fnOf "_law_whole" "_law_whole" (defArgs s_law_whole) (defBody s_law_whole) (defScope s_law_whole) .none kV_law_whole dc_law_whole pm_law_whole an_law_whole cd_law_whole ct_law_whole), sl_law_whole⟩)
    (c_law_whole : PySem.W.codeIn K cd_law_whole "_law_whole" = true)
    (k_law_whole : PySem.W.keepIn K (.ref f_law_whole) = true)
    (a_law_fraction : PySem.W.nsIn K mainGlobals "_law_fraction" = some (some (.ref f_law_fraction)))
    (l_law_fraction : K.lookup f_law_fraction = some ⟨oc_law_fraction, od_law_fraction, .func (PySem.W.fnOf "_law_fraction" "_law_fraction" (defArgs s_law_fraction) (defBody s_law_fraction) (defScope s_law_fraction) .none kV_law_fraction dc_law_fraction pm_law_fraction an_law_fraction cd_law_fraction ct_law_fraction), sl_law_fraction⟩)
    (c_law_fraction : PySem.W.codeIn K cd_law_fraction "_law_fraction" = true)
    (k_law_fraction : PySem.W.keepIn K (.ref f_law_fraction) = true)
    (a_law_lowest : PySem.W.nsIn K mainGlobals "_law_lowest" = some (some (.ref f_law_lowest)))
    (l_law_lowest : K.lookup f_law_lowest = some ⟨oc_law_lowest, od_law_lowest, .func (PySem.W.fnOf "_law_lowest" "_law_lowest" (defArgs s_law_lowest) (defBody s_law_lowest) (defScope s_law_lowest) .none kV_law_lowest dc_law_lowest pm_law_lowest an_law_lowest cd_law_lowest ct_law_lowest), sl_law_lowest⟩)
    (c_law_lowest : PySem.W.codeIn K cd_law_lowest "_law_lowest" = true)
    (k_law_lowest : PySem.W.keepIn K (.ref f_law_lowest) = true)
    (a_law_lies : PySem.W.nsIn K mainGlobals "_law_lies" = some (some (.ref f_law_lies)))
    (l_law_lies : K.lookup f_law_lies = some ⟨oc_law_lies, od_law_lies, .func (PySem.W.fnOf "_law_lies" "_law_lies" (defArgs s_law_lies) (defBody s_law_lies) (defScope s_law_lies) .none kV_law_lies dc_law_lies pm_law_lies an_law_lies cd_law_lies ct_law_lies), sl_law_lies⟩)
    (c_law_lies : PySem.W.codeIn K cd_law_lies "_law_lies" = true)
    (k_law_lies : PySem.W.keepIn K (.ref f_law_lies) = true)
    (a_law_simplest : PySem.W.nsIn K mainGlobals "_law_simplest" = some (some (.ref f_law_simplest)))
    (l_law_simplest : K.lookup f_law_simplest = some ⟨oc_law_simplest, od_law_simplest, .func (PySem.W.fnOf "_law_simplest" "_law_simplest" (defArgs s_law_simplest) (defBody s_law_simplest) (defScope s_law_simplest) .none kV_law_simplest dc_law_simplest pm_law_simplest an_law_simplest cd_law_simplest ct_law_simplest), sl_law_simplest⟩)
    (c_law_simplest : PySem.W.codeIn K cd_law_simplest "_law_simplest" = true)
    (k_law_simplest : PySem.W.keepIn K (.ref f_law_simplest) = true)
    (a_law_drawn : PySem.W.nsIn K mainGlobals "_law_drawn" = some (some (.ref f_law_drawn)))
    (l_law_drawn : K.lookup f_law_drawn = some ⟨oc_law_drawn, od_law_drawn, .func (PySem.W.fnOf "_law_drawn" "_law_drawn" (defArgs s_law_drawn) (defBody s_law_drawn) (defScope s_law_drawn) .none kV_law_drawn dc_law_drawn pm_law_drawn an_law_drawn cd_law_drawn ct_law_drawn), sl_law_drawn⟩)
    (c_law_drawn : PySem.W.codeIn K cd_law_drawn "_law_drawn" = true)
    (k_law_drawn : PySem.W.keepIn K (.ref f_law_drawn) = true)
    (a_law_asked : PySem.W.nsIn K mainGlobals "_law_asked" = some (some (.ref f_law_asked)))
    (l_law_asked : K.lookup f_law_asked = some ⟨oc_law_asked, od_law_asked, .func (PySem.W.fnOf "_law_asked" "_law_asked" (defArgs s_law_asked) (defBody s_law_asked) (defScope s_law_asked) .none kV_law_asked dc_law_asked pm_law_asked an_law_asked cd_law_asked ct_law_asked), sl_law_asked⟩)
    (c_law_asked : PySem.W.codeIn K cd_law_asked "_law_asked" = true)
    (k_law_asked : PySem.W.keepIn K (.ref f_law_asked) = true)
    (a_law : PySem.W.nsIn K mainGlobals "law" = some (some (.ref f_law)))
    (l_law : K.lookup f_law = some ⟨oc_law, od_law, .func (PySem.W.fnOf "law" "law" (defArgs s_law) (defBody s_law) (defScope s_law) .none kV_law dc_law pm_law an_law cd_law ct_law), sl_law⟩)
    (c_law : PySem.W.codeIn K cd_law "law" = true)
    (k_law : PySem.W.keepIn K (.ref f_law) = true)
    : ∃ fd : FuncData, (∀ (s : Shared) (v : Value), BindsTo s fd ⟨[v], []⟩ [("script", v)]) ∧ ∀ base : Heap, K.In base → base.Ns mainGlobals mg → FnOk l.prog w K mg base CX0 7 fa fd ["script"] (sp_law_law K) := by
  have e := hfa.symm.trans (PySem.W.mg_of X G a_law)
  cases e
  let c : Cn := { P := l.prog, w := w, K := K, cGameError := aGameError, cNoNumber := aNoNumber }
  have T : Txt c mg := { n_ValueError := PySem.W.mg_none_of X G n_ValueError, n_abs := PySem.W.mg_none_of X G n_abs, n_bool := PySem.W.mg_none_of X G n_bool, n_int := PySem.W.mg_none_of X G n_int, n_isinstance := PySem.W.mg_none_of X G n_isinstance, n_len := PySem.W.mg_none_of X G n_len, n_max := PySem.W.mg_none_of X G n_max, n_min := PySem.W.mg_none_of X G n_min, n_range := PySem.W.mg_none_of X G n_range, n_tuple := PySem.W.mg_none_of X G n_tuple, g_GameError := PySem.W.mg_of X G a_GameError, g_NoNumber := PySem.W.mg_of X G a_NoNumber, x_GameError := ⟨PySem.W.mg_of X G a_GameError, xx_GameError, xk_GameError, xb_GameError, xt_GameError⟩, m_GameError := PySem.W.exm_ref xb_GameError xd_GameError xt_GameError xs_GameError, x_NoNumber := ⟨PySem.W.mg_of X G a_NoNumber, xx_NoNumber, xk_NoNumber, xb_NoNumber, xt_NoNumber⟩, m_NoNumber := PySem.W.exm_ref xb_GameError xd_GameError xt_GameError xs_NoNumber, e_GameError := ⟨ya_GameError, yg_GameError, xb_GameError, xd_GameError, yc_GameError, x_get, x_tak, ym_GameError⟩, iv_GameError := yv_GameError, i_GameError_GameError := yi_GameError_GameError, i_GameError_NoNumber := yi_GameError_NoNumber, e_NoNumber := ⟨ya_NoNumber, yg_NoNumber, xb_NoNumber, xd_NoNumber, yc_NoNumber, x_get, x_tak, ym_NoNumber⟩, iv_NoNumber := yv_NoNumber, mm_NoNumber := PySem.W.exm_ref xb_NoNumber xd_NoNumber xt_NoNumber ys_NoNumber, i_NoNumber_GameError := yi_NoNumber_GameError, i_NoNumber_NoNumber := yi_NoNumber_NoNumber, F_is_less := ⟨_, _, fun_mk (st := s_is_less) l_is_less c_is_less k_is_less, PySem.W.mg_of X G a_is_less, ((fun_mk (st := s_is_less) l_is_less c_is_less k_is_less).binds (ps := ["q", "r"]) fun _ _ _ _ _ _ us hl => match us, hl with | [_, _], _ => rfl)⟩, F_lies_in := ⟨_, _, fun_mk (st := s_lies_in) l_lies_in c_lies_in k_lies_in, PySem.W.mg_of X G a_lies_in, ((fun_mk (st := s_lies_in) l_lies_in c_lies_in k_lies_in).binds (ps := ["q", "low", "high"]) fun _ _ _ _ _ _ us hl => match us, hl with | [_, _, _], _ => rfl)⟩, F_nearest_whole := ⟨_, _, fun_mk (st := s_nearest_whole) l_nearest_whole c_nearest_whole k_nearest_whole, PySem.W.mg_of X G a_nearest_whole, ((fun_mk (st := s_nearest_whole) l_nearest_whole c_nearest_whole k_nearest_whole).binds (ps := ["low", "high"]) fun _ _ _ _ _ _ us hl => match us, hl with | [_, _], _ => rfl)⟩, F_simplest := ⟨_, _, fun_mk (st := s_simplest) l_simplest c_simplest k_simplest, PySem.W.mg_of X G a_simplest, ((fun_mk (st := s_simplest) l_simplest c_simplest k_simplest).binds (ps := ["low", "high"]) fun _ _ _ _ _ _ us hl => match us, hl with | [_, _], _ => rfl)⟩, F_law_cell := ⟨_, _, fun_mk (st := s_law_cell) l_law_cell c_law_cell k_law_cell, PySem.W.mg_of X G a_law_cell, ((fun_mk (st := s_law_cell) l_law_cell c_law_cell k_law_cell).binds (ps := ["script", "k"]) fun _ _ _ _ _ _ us hl => match us, hl with | [_, _], _ => rfl)⟩, F_law_store := ⟨_, _, fun_mk (st := s_law_store) l_law_store c_law_store k_law_store, PySem.W.mg_of X G a_law_store, ((fun_mk (st := s_law_store) l_law_store c_law_store k_law_store).binds (ps := ["cell"]) fun _ _ _ _ _ _ us hl => match us, hl with | [_], _ => rfl)⟩, F_law_take := ⟨_, _, fun_mk (st := s_law_take) l_law_take c_law_take k_law_take, PySem.W.mg_of X G a_law_take, ((fun_mk (st := s_law_take) l_law_take c_law_take k_law_take).binds (ps := ["store", "many"]) fun _ _ _ _ _ _ us hl => match us, hl with | [_, _], _ => rfl)⟩, F_law_whole := ⟨_, _, fun_mk (st := s_law_whole) l_law_whole c_law_whole k_law_whole, PySem.W.mg_of X G a_law_whole, ((fun_mk (st := s_law_whole) l_law_whole c_law_whole k_law_whole).binds (ps := ["found"]) fun _ _ _ _ _ _ us hl => match us, hl with | [_], _ => rfl)⟩, F_law_fraction := ⟨_, _, fun_mk (st := s_law_fraction) l_law_fraction c_law_fraction k_law_fraction, PySem.W.mg_of X G a_law_fraction, ((fun_mk (st := s_law_fraction) l_law_fraction c_law_fraction k_law_fraction).binds (ps := ["found"]) fun _ _ _ _ _ _ us hl => match us, hl with | [_], _ => rfl)⟩, F_law_lowest := ⟨_, _, fun_mk (st := s_law_lowest) l_law_lowest c_law_lowest k_law_lowest, PySem.W.mg_of X G a_law_lowest, ((fun_mk (st := s_law_lowest) l_law_lowest c_law_lowest k_law_lowest).binds (ps := ["top", "bottom"]) fun _ _ _ _ _ _ us hl => match us, hl with | [_, _], _ => rfl)⟩, F_law_lies := ⟨_, _, fun_mk (st := s_law_lies) l_law_lies c_law_lies k_law_lies, PySem.W.mg_of X G a_law_lies, ((fun_mk (st := s_law_lies) l_law_lies c_law_lies k_law_lies).binds (ps := ["q", "low", "high"]) fun _ _ _ _ _ _ us hl => match us, hl with | [_, _, _], _ => rfl)⟩, F_law_simplest := ⟨_, _, fun_mk (st := s_law_simplest) l_law_simplest c_law_simplest k_law_simplest, PySem.W.mg_of X G a_law_simplest, ((fun_mk (st := s_law_simplest) l_law_simplest c_law_simplest k_law_simplest).binds (ps := ["found", "low", "high"]) fun _ _ _ _ _ _ us hl => match us, hl with | [_, _, _], _ => rfl)⟩, F_law_drawn := ⟨_, _, fun_mk (st := s_law_drawn) l_law_drawn c_law_drawn k_law_drawn, PySem.W.mg_of X G a_law_drawn, ((fun_mk (st := s_law_drawn) l_law_drawn c_law_drawn k_law_drawn).binds (ps := ["store"]) fun _ _ _ _ _ _ us hl => match us, hl with | [_], _ => rfl)⟩, F_law_asked := ⟨_, _, fun_mk (st := s_law_asked) l_law_asked c_law_asked k_law_asked, PySem.W.mg_of X G a_law_asked, ((fun_mk (st := s_law_asked) l_law_asked c_law_asked k_law_asked).binds (ps := ["low", "high"]) fun _ _ _ _ _ _ us hl => match us, hl with | [_, _], _ => rfl)⟩ }
  exact ⟨_, fun s v => .of_eq rfl, fun base _ _ => ok_law T (fun_mk (st := s_law) l_law c_law k_law)⟩
theorem walk {l : PySem.W.OpenLaw} {q : Program} {loose : List Str} {XP : (Str → Option Value) → Heap → Prop} {YP : World → Heap → Prop} {d : DefRec} {K : Params → PySem.W.Frag} (hn : l.most = some 63) (hdf : d.params.defaults = [])
    (hY : ∀ (w : World) (h : Heap), YP w h → (K w.params).In h)
    (F : ∀ (w : World) (mg : Str → Option Value) (fa : Addr) (h : Heap), (K w.params).In h → h.Ns mainGlobals mg → mg d.name = some (.ref fa) →
      ∃ fd : FuncData, (∀ (s : Shared) (u : Value), BindsTo s fd ⟨[u], []⟩ [("script", u)]) ∧ ∀ base : Heap, (K w.params).In base → base.Ns mainGlobals mg → FnOk l.prog w (K w.params) mg base CX0 7 fa fd ["script"] (sp_law_law (K w.params))) :
    PySem.W.WalkO q loose XP YP l.row.toRowW d [] (fun f vs => PySem.call f vs) :=
  L2.walk_of (n := 63) (k := 7) (x := "script") (CX := fun _ => CX0) (sp := fun w => sp_law_law (K w.params)) hn (by decide) hdf ⟨rfl, by decide, by decide⟩ hY F (fun _ H a ns hl _ hS => ⟨rfl, a, ns, rfl, hS, hl, fun _ => rfl⟩) fun _ _ _ _ _ z => z
end Hm

open PySem PySem.W PyProof.Rows in
set_option maxRecDepth 100000 in
set_option maxHeartbeats 0 in
theorem PySem.Challenge.cw_hotmoves_k28_the_simplest_holds : PySem.Challenge.rw_hotmoves_k28_the_simplest.Holds := by
  w_on; o_law; k_head; (case hw => w_witness2)
  k_fill
  refine Hm.walk (l := PySem.Challenge.rw_hotmoves_k28_the_simplest) rfl rfl (fun w h Y => PySem.W.kIn_of Y) ?F
  case F =>
    intro w mg fa h KX G hmg
    refine' Hm.all_mk KX G hmg ?a_GameError ?a_NoNumber ?xk_GameError ?xx_GameError ?xb_GameError ?xt_GameError ?xd_GameError ?xs_GameError ?xk_NoNumber ?xx_NoNumber ?xb_NoNumber ?xt_NoNumber ?xd_NoNumber ?xs_NoNumber ?x_get ?x_tak ?ya_GameError ?yg_GameError ?yc_GameError ?ym_GameError ?yv_GameError ?yi_GameError_GameError ?yi_GameError_NoNumber ?ya_NoNumber ?yg_NoNumber ?yc_NoNumber ?ym_NoNumber ?ys_NoNumber ?yv_NoNumber ?yi_NoNumber_GameError ?yi_NoNumber_NoNumber ?n_ValueError ?n_abs ?n_bool ?n_int ?n_isinstance ?n_len ?n_max ?n_min ?n_range ?n_tuple ?a_is_less ?l_is_less ?c_is_less ?k_is_less ?a_lies_in ?l_lies_in ?c_lies_in ?k_lies_in ?a_nearest_whole ?l_nearest_whole ?c_nearest_whole ?k_nearest_whole ?a_simplest ?l_simplest ?c_simplest ?k_simplest ?a_law_cell ?l_law_cell ?c_law_cell ?k_law_cell ?a_law_store ?l_law_store ?c_law_store ?k_law_store ?a_law_take ?l_law_take ?c_law_take ?k_law_take ?a_law_whole ?l_law_whole ?c_law_whole ?k_law_whole ?a_law_fraction ?l_law_fraction ?c_law_fraction ?k_law_fraction ?a_law_lowest ?l_law_lowest ?c_law_lowest ?k_law_lowest ?a_law_lies ?l_law_lies ?c_law_lies ?k_law_lies ?a_law_simplest ?l_law_simplest ?c_law_simplest ?k_law_simplest ?a_law_drawn ?l_law_drawn ?c_law_drawn ?k_law_drawn ?a_law_asked ?l_law_asked ?c_law_asked ?k_law_asked ?a_law ?l_law ?c_law ?k_law
    (case a_GameError => k_is)
    (case a_NoNumber => k_is)
    (case xk_GameError => k_is)
    (case xx_GameError => k_exc)
    (case xb_GameError => k_is)
    (case xt_GameError => k_is)
    (case xd_GameError => k_is)
    (case xs_GameError => first | rfl | k_is)
    (case xk_NoNumber => k_is)
    (case xx_NoNumber => k_exc)
    (case xb_NoNumber => k_is)
    (case xt_NoNumber => k_is)
    (case xd_NoNumber => k_is)
    (case xs_NoNumber => first | rfl | k_is)
    (case x_get => k_is)
    (case x_tak => k_is)
    (case ya_GameError => k_is)
    (case yg_GameError => k_is)
    (case yc_GameError => k_is)
    (case ym_GameError => k_is)
    (case yv_GameError => first | kit_is | rfl)
    (case yi_GameError_GameError => first | kit_is | rfl)
    (case yi_GameError_NoNumber => first | kit_is | rfl)
    (case ya_NoNumber => k_is)
    (case yg_NoNumber => k_is)
    (case yc_NoNumber => k_is)
    (case ym_NoNumber => k_is)
    (case ys_NoNumber => first | rfl | k_is)
    (case yv_NoNumber => first | kit_is | rfl)
    (case yi_NoNumber_GameError => first | kit_is | rfl)
    (case yi_NoNumber_NoNumber => first | kit_is | rfl)
    (case n_ValueError => k_is)
    (case n_abs => k_is)
    (case n_bool => k_is)
    (case n_int => k_is)
    (case n_isinstance => k_is)
    (case n_len => k_is)
    (case n_max => k_is)
    (case n_min => k_is)
    (case n_range => k_is)
    (case n_tuple => k_is)
    (case a_is_less => k_is)
    (case l_is_less => k_is)
    (case c_is_less => k_is)
    (case k_is_less => k_is)
    (case a_lies_in => k_is)
    (case l_lies_in => k_is)
    (case c_lies_in => k_is)
    (case k_lies_in => k_is)
    (case a_nearest_whole => k_is)
    (case l_nearest_whole => k_is)
    (case c_nearest_whole => k_is)
    (case k_nearest_whole => k_is)
    (case a_simplest => k_is)
    (case l_simplest => k_is)
    (case c_simplest => k_is)
    (case k_simplest => k_is)
    (case a_law_cell => k_is)
    (case l_law_cell => k_is)
    (case c_law_cell => k_is)
    (case k_law_cell => k_is)
    (case a_law_store => k_is)
    (case l_law_store => k_is)
    (case c_law_store => k_is)
    (case k_law_store => k_is)
    (case a_law_take => k_is)
    (case l_law_take => k_is)
    (case c_law_take => k_is)
    (case k_law_take => k_is)
    (case a_law_whole => k_is)
    (case l_law_whole => k_is)
    (case c_law_whole => k_is)
    (case k_law_whole => k_is)
    (case a_law_fraction => k_is)
    (case l_law_fraction => k_is)
    (case c_law_fraction => k_is)
    (case k_law_fraction => k_is)
    (case a_law_lowest => k_is)
    (case l_law_lowest => k_is)
    (case c_law_lowest => k_is)
    (case k_law_lowest => k_is)
    (case a_law_lies => k_is)
    (case l_law_lies => k_is)
    (case c_law_lies => k_is)
    (case k_law_lies => k_is)
    (case a_law_simplest => k_is)
    (case l_law_simplest => k_is)
    (case c_law_simplest => k_is)
    (case k_law_simplest => k_is)
    (case a_law_drawn => k_is)
    (case l_law_drawn => k_is)
    (case c_law_drawn => k_is)
    (case k_law_drawn => k_is)
    (case a_law_asked => k_is)
    (case l_law_asked => k_is)
    (case c_law_asked => k_is)
    (case k_law_asked => k_is)
    (case a_law => k_is)
    (case l_law => k_is)
    (case c_law => k_is)
    (case k_law => k_is)

