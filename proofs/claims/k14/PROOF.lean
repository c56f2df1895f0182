import PyProof.Rows.All
import Wide.All
import OpenK.AllK
import Wide.FinOn
import HandS.ForMost
import HandS.ForExc
import HandS.Strs
import HandS.SetFor
import HandS.SortInts
import HandS.Deep
import HandS.Style
import HandS.Conv
import HandS.NoneIn
import HandS.IsInst
import HandS.Wide
import HandS.Codes
import HandS.Walk
import HandS.Zip
import HandS.StrMore
import HandS.RevRange
import HandS.Rev
import HandS.TupAny
import HandS.TupLen
import HandS.Steps
import HandS.Remove
import HandS.CallSlots
import HandS.ExcIs
import HandS.ExcValue
import KE.KDictDisplayH
import KE.KeyNested
import HandS.RaiseMore
import HandS.SortRule
import HandS.HotCalls
import HandS.ExcInitHot
import PySem.Challenge.RW_hotmoves_k14_words_and_refusals
set_option Elab.async false
set_option linter.all false
set_option maxRecDepth 100000
set_option maxHeartbeats 4000000
/-! F1: set(list of ints); sorted of a set of any size. -/
namespace Hm
open PySem PySem.Spec PyProof.Rows L2

/-- a set as it is made -/
abbrev emptySet (w : World) : Obj := { cls := .type "set", dict := none, data := .set #[] 0 (.fresh 0 0 (!w.params.followText "set-order")) }

section
variable {P : Program} {w : World} {A : Around} {E : Value → Shared → Prop} {s : Shared}

set_option maxHeartbeats 8000000 in
theorem set_of_list {l : Addr} {xs : Array Value} (ks : List Int) {Q : Value → Shared → Prop} (calm : A.handled = none) (isL : s.heap.IsList l xs) (are : IntsAre xs.toList ks) (few : ks.length + 1 < scanBound)
    (fin : ∀ (hp : Heap) (tk n : Nat), SetR w hp s.heap.objs.size (fun j => decide (j ∈ ks)) n → n ≤ ks.length → (∀ b o, s.heap.get? b = some o → hp.get? b = some o) → Q (.ref s.heap.objs.size) { s with heap := hp, toks := tk }) :
    wpAny (model P w) A (call (.type "set") [.ref l]) Q E s := by
  have sz : xs.size = ks.length := (Array.length_toList (xs := xs)).symm.trans (IntsAre.length are)
  have made := F.called_set.made
  have sub := F.called_set.sub
  obtain ⟨c, tl, mro⟩ := F.called_set.mro
  refine wpAny_call (codeAny_of_tree ?_)
  show wpAny _ _ (callAny (.type "set") _) _ _ _
  refine wpAny_pure ⟨Code.quiet_builtin _ (by decide +kernel), codeAny_builtin F.entry_type_call ?_⟩
  rw [Around.under_plain (weight_type_call_type "set" [.ref l] []) rfl]
  have f1 := F.called_set.notType
  have f2 := F.called_set.canCreate
  have f3 := F.typeCall_set_1 (.ref l)
  repeat (any_goals (first | assumption | wp_step))
  refine codeAny_mono (code_set_led1 (.ref l) (E := E) (Q₁ := fun v t => v = .ref s.heap.objs.size ∧ t = { s with heap := s.heap.push (emptySet w) }) ⟨rfl, rfl⟩) fun r t hr => ?_
  cases r with
  | error e => exact hr
  | ok fl =>
    cases fl with
    | next => exact hr.elim
    | brk => exact hr.elim
    | cont => exact hr.elim
    | ret v =>
      obtain ⟨rfl, rfl⟩ := hr
      have at0 : (s.heap.push (emptySet w)).get? s.heap.objs.size = some (emptySet w) := Heap.get?_push_size _ rfl
      have ty0 : Shared.TypeIs { s with heap := s.heap.push (emptySet w) } (.ref s.heap.objs.size) "set" := ⟨_, at0, rfl⟩
      have i1 := F.called_set.init.lookup
      have i2 := F.called_set.init.bind (.ref s.heap.objs.size)
      repeat (any_goals (first | assumption | wp_step))
      refine codeAny_mono (codeAny_call_builtin (R := wants (fun r t => r = .none ∧ ∃ hp tk n, t = { s with heap := hp, toks := tk } ∧ SetR w hp s.heap.objs.size (fun j => decide (j ∈ ks)) n ∧ n ≤ ks.length ∧ (∀ b o, s.heap.get? b = some o → hp.get? b = some o)) E)
        F.called_set.init.plain F.entry_set_init (check_set_init_1 ty0 ?_)) fun r t hr => ?_
      · obtain ⟨⟨oc, od, odt, osl⟩, got, e1, n0, e2⟩ := isL
        simp only at e1 e2
        subst e1 e2
        have got1 : (s.heap.push (emptySet w)).get? l = some { cls := .type "list", dict := od, data := .seq xs n0, slots := osl } := Heap.get?_push_of_some _ got
        have isL1 : (s.heap.push (emptySet w)).IsList l xs := ⟨_, got1, rfl, n0, rfl⟩
        have t1 := F.sub_list_set
        have t2 := F.sub_list_frozenset
        have t3 : (Value.type "list" == Value.type "dict") = false := by decide
        unfold Builtin.«set.__init__» noKeywords Builtin.Frozenset.updateFrom
        generalize eI : pyIter = I
        wp_walk
        subst eI
        refine wpAny_pyIter_list isL1 (wpAny_bind (wpAny_runValue ?_))
        have lt : l < s.heap.objs.size := Heap.lt_size got
        have calm3 : A.in1.in1.in1.handled = none := by simp [calm]
        have sz1 : (s.heap.push (emptySet w)).objs.size = s.heap.objs.size + 1 := Heap.size_push ..
        have neI : l ≠ (s.heap.push (emptySet w)).objs.size := by rw [sz1]; exact Nat.ne_of_lt (Nat.lt_succ_of_lt lt)
        have notS : s.heap.objs.size ∉ [(s.heap.push (emptySet w)).objs.size, l] := by
          rw [sz1]; intro z; simp only [List.mem_cons, List.not_mem_nil, or_false] at z
          rcases z with z | z
          · exact Nat.ne_of_lt (Nat.lt_succ_self _) z
          · exact Nat.ne_of_gt lt z
        have each : ∀ (i : Nat) (v : Value), xs[i]? = some v → ∃ k t, ks[i]? = some k ∧ v = .int k t := fun i v hv => by
          have hi : i < ks.length := by rw [← sz]; exact (Array.getElem?_eq_some_iff.mp hv).1
          obtain ⟨t, e⟩ := PyProof.Rows.IntsAre.int_at are i v (by rw [Array.getElem?_toList]; exact hv)
          exact ⟨ks[i], t, List.getElem?_eq_getElem hi, by rw [e, List.getD_eq_getElem?_getD, List.getElem?_eq_getElem hi]; rfl⟩
        refine set_update_ints ((Walks.list calm3 _ l neI xs).toS) s.heap.objs.size notS ks sz few each (xs.size - 0) 0 _ (by omega) (Nat.zero_le _)
          ⟨⟨_, Heap.get?_push_size _ rfl, rfl, rfl⟩, (isL1.push _)⟩ ?start ?done
        case start =>
          have g : ((s.heap.push (emptySet w)).push { cls := .type "list_iterator", data := .fields #[.ref l, .int 0 0] }).get? s.heap.objs.size = some (emptySet w) := Heap.get?_push_of_some _ at0
          exact ⟨0, Nat.le_refl 0, setR_new_at g⟩
        case done =>
          rintro ⟨hp, gs, dr, tk, os⟩ n mv nle R
          cases (show gs = s.gens from mv.gens)
          cases (show dr = s.drawn from mv.drawn)
          cases (show os = s.os from mv.os)
          show wpAny _ _ _ _ _ _
          refine wpAny_pure ?_
          show wpAny _ _ (ret Value.none) _ _ _
          rw [sz] at nle
          refine wpAny_pure ⟨rfl, hp, tk, n, rfl, R, nle, fun b o e => ?_⟩
          have b0 : b < s.heap.objs.size := Heap.lt_size e
          refine mv.heap b o (fun z => ?_) (Heap.get?_push_of_some _ (Heap.get?_push_of_some _ e))
          simp only [List.mem_cons, List.not_mem_nil, or_false] at z
          rw [sz1] at z
          rcases z with z | z
          · exact Nat.ne_of_lt b0 z
          · exact Nat.ne_of_lt (Nat.lt_succ_of_lt b0) z
      · cases r with
        | error e => exact hr
        | ok fl =>
          cases fl with
          | next => exact hr.elim
          | brk => exact hr.elim
          | cont => exact hr.elim
          | ret v =>
            obtain ⟨rfl, hp, tk, n, rfl, R, nle, keep⟩ := hr
            repeat (any_goals (first | assumption | wp_step))
            exact fin _ _ _ R nle keep

/-- sorted(s) of a set of ints of any size -/
theorem sorted_of_set {a : Addr} {S : Int → Bool} {n : Nat} {Q : Value → Shared → Prop} (R : SetR w s.heap a S n) (calm : A.handled = none)
    (fin : ∀ t p (out : Array Value) (c : Nat) (ns : List Int), (∀ b o, s.heap.get? b = some o → t.heap.get? b = some o) → t.gens = s.gens → t.os = s.os → s.heap.objs.size ≤ p →
      t.heap.get? p = some (seqObj "list" out c) → IntsAre out.toList ns → ns.Pairwise (· < ·) → (∀ k, k ∈ ns ↔ S k = true) → ns.length = n → Q (.ref p) t) :
    wpAny (model P w) A (call (.builtin "sorted") [.ref a]) Q E s := by
  obtain ⟨o, es, ep, t, ho, hex, hd, good, nd, mem, few, fits, num, ris, led⟩ := R
  refine Calls.call_function_entry kind_sorted plain_sorted entry_sorted (args_sorted1 _) ?_
  unfold Builtin.«sorted»
  refine wpAny_bind (m := checkCount "sorted" 1 1 _) (wpAny_pure ?_)
  refine wpAny_bind (collect_set (A := A.in1) calm ⟨o, ho, hex.1, hd⟩ fits few ris led fun s1 vs k1 big g1 o1 pm => ?_)
  have len : vs.length = n := by rw [pm.length_eq, List.length_map, Array.length_toList]; exact num
  have areI : IntsAre vs (vs.map Builtin.Re.reRawOf) := ints_of vs fun v hv => by
    obtain ⟨e, he, q⟩ := List.mem_map.mp (pm.mem_iff.mp hv)
    obtain ⟨k, tk, h1, _⟩ := good e he
    exact ⟨k, tk, q ▸ h1⟩
  have pk : (vs.map Builtin.Re.reRawOf).Perm (es.toList.map keyOf) := by
    have q := pm.map Builtin.Re.reRawOf
    rw [List.map_map] at q
    exact q
  have line : vs.length ≤ sizeLine := by
    rw [len, sizeLine_eq]; have : scanBound = 4096 := rfl; omega
  refine wpAny_bind (wpAny_newList ?_ line)
  have at1 : (s1.heap.push (seqObj "list" vs.toArray 0)).get? s1.heap.objs.size = some (seqObj "list" vs.toArray 0) := Heap.get?_push_size _ rfl
  refine wpAny_bind (wpAny_holding (wpAny_call_entry slot_list_sort ⟨_, at1, rfl⟩ entry_list_sort
    (SrtO.list_sort_ord SrtO.swo_int at1 line (fun h2 => SrtO.ints_sortable areI h2) fun out h1 h2 => ⟨_, rfl, ?_⟩) (args_list_sort _)))
  obtain ⟨j1, j2, j3⟩ := SrtO.ints_out areI h1 h2
  obtain ⟨c, hc⟩ := sortedHeap_at (vs := vs) (out := out.toArray) at1
  have pn : (out.map SrtO.iv).Perm (es.toList.map keyOf) := j2.trans pk
  refine wpAny_pure ⟨_, rfl, fin _ s1.heap.objs.size out.toArray c (out.map SrtO.iv) (fun b u e => ?_) g1 o1 big hc (by simpa using j1) (lt_of_le_nodup _ j3 (pn.nodup_iff.mpr nd)) (fun k => by rw [pn.mem_iff, ← mem k]) ?_⟩
  · have q := k1 b u e
    have lt := Heap.lt_size q
    show (sortedHeap (s1.heap.push (seqObj "list" vs.toArray 0)) s1.heap.objs.size vs out.toArray).get? b = some u
    rw [sortedHeap_old (Nat.ne_of_lt lt) (by rw [size_push']; exact Nat.lt_succ_of_lt lt)]
    exact Heap.get?_push_of_some _ q
  · rw [pn.length_eq, List.length_map, Array.length_toList]; exact num
end

section
variable {X : Cx}
/-- set(xs), xs a list of ints -/
def uSetI (K : PySem.W.Frag) (w : World) : List V → Hp → VK → Prop := fun xs H Q => ∃ (l : Addr) (ns : List Int), xs = [.ref l] ∧ SqL K H l (ns.map V.int) ∧ ns.length ≤ 4000 ∧
  ∀ (a : Addr) (n : Nat), H a = none → n ≤ ns.length → Q (.ref a) (upd H a (SetO w a (fun j => decide (j ∈ ns)) n))
theorem cu_setI (hc : X.calm = true) : CallR X (.type "set") (uSetI X.K X.w) := by
  intro pins s σ H xs us Q I r h
  obtain ⟨l, ns, rfl, hl, few, q⟩ := h
  rw [Vals.ref1 r]
  obtain ⟨its, rv, pl, hz⟩ := I.list hl
  have hs : scanBound = 4096 := rfl
  refine set_of_list ns (I.ok.hd hc) pl.isList (by simpa using rv.ints) (by omega) fun hp tk n R nle keep => ?_
  exact ⟨.ref _, upd H s.heap.objs.size (SetO X.w s.heap.objs.size (fun j => decide (j ∈ ns)) n), I.laid (t' := tk) keep (Nat.le_refl _) (setO_new R), rfl, q _ n (I.hok.fresh (Nat.le_refl _)) nle⟩
/-- sorted(s), s a set of ints -/
def uSortSet (w : World) : List V → Hp → VK → Prop := fun vs H Q => ∃ (a : Addr) (S : Int → Bool) (n : Nat), vs = [V.ref a] ∧ H a = some (SetO w a S n) ∧
  ∀ (ns : List Int) (p : Addr), ns.Pairwise (· < ·) → (∀ k : Int, k ∈ ns ↔ S k = true) → ns.length = n → H p = none → Q (.ref p) (upd H p (.lst (ns.map V.int)))
theorem cu_sortSet (hc : X.calm = true) : CallR X (.builtin "sorted") (uSortSet X.w) := by
  intro pins s σ H vs us Q I r h
  obtain ⟨a, S, n, rfl, ha, q⟩ := h
  have R := setO_get I ha
  have nb : n ≤ 4096 := by
    obtain ⟨_, es, _, _, _, _, _, _, _, _, few, _, num, _⟩ := R
    have hs : scanBound = 4096 := rfl
    omega
  rw [Vals.ref1 r]
  refine sorted_of_set R (I.ok.hd hc) fun s' p out c ns k g o big got areI up mem len => ?_
  have line : (ns.map V.int).length ≤ sizeLine := by rw [List.length_map, len, sizeLine_eq]; omega
  have new : H p = none := I.hok.fresh big
  have J : Inv X pins σ (upd H p (.lst (ns.map V.int))) { s with heap := s'.heap, gens := s'.gens, drawn := s'.drawn, toks := s'.toks } :=
    I.call (ch := []) (Un.laid k big new) (I.hok.laid k big ⟨line, out.toList, c, vals_of_ints areI, got⟩) (by rw [g]; exact I.bare) (fun _ z => nomatch z)
  have same : s' = { s with heap := s'.heap, gens := s'.gens, drawn := s'.drawn, toks := s'.toks } := by
    cases s'; cases s; cases o; rfl
  rw [same]
  exact ⟨.ref p, _, J, rfl, q ns p up mem len new⟩
end
end Hm

/-! F1b: dicts whose keys are nested tuples of ints and texts. -/
namespace Hm
open PySem PySem.Spec PyProof.Rows L2

mutual
/-- the value v is the key k, its tuples tracked -/
def NkV (H : Hp) : NestedKey → V → Prop
  | .none, v => v = .non
  | .num i, v => v = .int i
  | .text x, v => v = .str x
  | .tup ks, v => ∃ a vs, v = .ref a ∧ H a = some (.tup vs) ∧ NkVs H ks vs
def NkVs (H : Hp) : List NestedKey → List V → Prop
  | [], vs => vs = []
  | k :: ks, vs => ∃ v r, vs = v :: r ∧ NkV H k v ∧ NkVs H ks r
end
mutual
theorem NkV.keeps {H H' : Hp} (ht : ∀ b xs, H b = some (.tup xs) → H' b = some (.tup xs)) : ∀ (k : NestedKey) (v : V), NkV H k v → NkV H' k v
  | .none, _, h => by simpa only [NkV] using h
  | .num i, _, h => by simpa only [NkV] using h
  | .text x, _, h => by simpa only [NkV] using h
  | .tup ks, _, h => by
    simp only [NkV] at h ⊢
    obtain ⟨a, vs, e, ha, hs⟩ := h
    exact ⟨a, vs, e, ht _ _ ha, NkVs.keeps ht ks vs hs⟩
theorem NkVs.keeps {H H' : Hp} (ht : ∀ b xs, H b = some (.tup xs) → H' b = some (.tup xs)) : ∀ (ks : List NestedKey) (vs : List V), NkVs H ks vs → NkVs H' ks vs
  | [], _, h => by simpa only [NkVs] using h
  | k :: ks, _, h => by
    simp only [NkVs] at h ⊢
    obtain ⟨v, r, e, h1, h2⟩ := h
    exact ⟨v, r, e, NkV.keeps ht k v h1, NkVs.keeps ht ks r h2⟩
end
section
variable {P : Program} {w : World} {H : Hp} {h : Heap}
mutual
theorem nk_is (ok : HOk P w H h) : ∀ (k : NestedKey) (v : V) (u : Value), NkV H k v → RelV v u → NestedIs h k u
  | .none, _, _, e, r => by simp only [NkV] at e; subst e; cases r; exact .none
  | .num i, _, _, e, r => by simp only [NkV] at e; subst e; obtain ⟨t, rfl⟩ := r; exact .int i t
  | .text x, _, _, e, r => by simp only [NkV] at e; subst e; obtain ⟨t, rfl⟩ := r; exact .text x t
  | .tup ks, _, _, e, r => by
    simp only [NkV] at e
    obtain ⟨a, vs, rfl, ha, hs⟩ := e
    cases r
    obtain ⟨_, its, rv, o, h1, h2, n, h3⟩ := (show ObjOk P w H h a (.tup vs) from ok a _ ha)
    exact .tup h1 h2 h3 (by simpa using nks_are ok ks vs its hs rv)
theorem nks_are (ok : HOk P w H h) : ∀ (ks : List NestedKey) (vs : List V) (us : List Value), NkVs H ks vs → Vals vs us → NestedAll h ks us
  | [], _, _, e, r => by simp only [NkVs] at e; subst e; cases r; exact .nil
  | k :: ks, _, _, e, r => by
    simp only [NkVs] at e
    obtain ⟨v, rr, rfl, h1, h2⟩ := e
    cases r with
    | cons r1 r2 => exact .cons (nk_is ok k v _ h1 r1) (nks_are ok ks rr _ h2 r2)
end
end

/-- an entry: the key, its tuple's address, the value -/
abbrev NX := NestedKey × Addr × V
def NRel (p : NX) (q : NestedKey × Addr × Value) : Prop := p.1 = q.1 ∧ p.2.1 = q.2.1 ∧ RelV p.2.2 q.2.2
/-- the dict at a -/
def NdO (P : Program) (w : World) (a : Addr) (xs : List NX) : HO := .ext fun h => (a == sysModules) = false ∧ xs.length ≤ sizeLine ∧ ∃ ys, Paired NRel xs ys ∧
  ∃ o es ep, h.get? a = some o ∧ o.ExactDict ∧ o.data = .dict es ep ∧ es.toList = ys.map (entryOfKey (nestedKind P w)) ∧ (ys.map (·.1)).Nodup
structure NdAt (P : Program) (w : World) (H : Hp) (a : Addr) (xs : List NX) : Prop where
  here : H a = some (NdO P w a xs)
  keys : ∀ x ∈ xs, NkV H x.1 (.ref x.2.1) ∧ x.1.depth ≤ 8
def nval (xs : List NX) (k : NestedKey) : Option V := (xs.find? fun x => decide (x.1 = k)).map (·.2.2)
def nput (xs : List NX) (k : NestedKey) (a : Addr) (v : V) : List NX := if (nval xs k).isSome then xs.map fun x => if x.1 = k then (x.1, x.2.1, v) else x else xs ++ [(k, a, v)]

section
variable {P : Program} {w : World} {H H' : Hp} {h h' : Heap} {a : Addr} {xs : List NX}
theorem ndO_ok {ys : List (NestedKey × Addr × Value)} (z : (a == sysModules) = false) (l : xs.length ≤ sizeLine) (r : Paired NRel xs ys) (d : h.DictOfH (nestedKind P w) a ys) : ObjOk P w H h a (NdO P w a xs) := by
  obtain ⟨o, es, ep, e1, e2, e3, e4, e5, e6⟩ := d
  refine ⟨⟨z, l, ys, r, o, es, ep, e1, e2, e3, e4, e6⟩, ⟨o, e1⟩, fun h1 h2 q k => ?_⟩
  obtain ⟨z, l, ys, r, o, es, ep, f1, f⟩ := q
  exact ⟨z, l, ys, r, o, es, ep, k o f1, f⟩
theorem NdAt.get (ok : HOk P w H h) (N : NdAt P w H a xs) : (a == sysModules) = false ∧ xs.length ≤ sizeLine ∧ ∃ ys, Paired NRel xs ys ∧ h.DictOfH (nestedKind P w) a ys := by
  obtain ⟨⟨z, l, ys, r, o, es, ep, e1, e2, e3, e4, e6⟩, _, _⟩ := ok a _ N.here
  refine ⟨z, l, ys, r, o, es, ep, e1, e2, e3, e4, ?_, e6⟩
  have all : ∀ {l : List NX} {m : List (NestedKey × Addr × Value)}, Paired NRel l m → (∀ x ∈ l, NkV H x.1 (.ref x.2.1) ∧ x.1.depth ≤ 8) → ∀ y ∈ m, (nestedKind P w).is h y.1 y.2.1 := by
    intro l m q
    induction q with
    | nil => intro _ y hy; exact nomatch hy
    | @cons p q ps qs hq t ih =>
      intro hk y hy
      rcases List.mem_cons.mp hy with e | hy
      · subst e
        obtain ⟨k1, k2⟩ := hk p List.mem_cons_self
        rw [← hq.1, ← hq.2.1]
        exact ⟨nk_is ok p.1 _ _ k1 rfl, k2⟩
      · exact ih (fun x hx => hk x (List.mem_cons_of_mem _ hx)) y hy
  exact all r N.keys
theorem NRel.val {ys : List (NestedKey × Addr × Value)} (r : Paired NRel xs ys) (k : NestedKey) : RelO (nval xs k) ((atKey ys k).map (·.2)) := by
  induction r with
  | nil => exact True.intro
  | @cons p q ps qs hq t ih =>
    obtain ⟨h1, _, h3⟩ := hq
    by_cases e : p.1 = k
    · have e' : q.1 = k := h1.symm.trans e
      have b : atKey (q :: qs) k = some q.2 := by simp [atKey, List.find?_cons, e']
      have c : nval (p :: ps) k = some p.2.2 := by simp [nval, List.find?_cons, e]
      rw [c, b]; exact h3
    · have e' : ¬ q.1 = k := fun z => e (h1.trans z)
      have b : atKey (q :: qs) k = atKey qs k := by simp [atKey, List.find?_cons, e']
      have c : nval (p :: ps) k = nval ps k := by simp [nval, List.find?_cons, e]
      rw [c, b]; exact ih
theorem NRel.put {ys : List (NestedKey × Addr × Value)} (r : Paired NRel xs ys) (k : NestedKey) (b : Addr) {v : V} {u : Value} (rv : RelV v u) : Paired NRel (nput xs k b v) (storedH ys k b u) := by
  have e : (nval xs k).isSome = (atKey ys k).isSome := by rw [(NRel.val r k).isSome_eq, Option.isSome_map]
  unfold nput storedH
  rw [e]
  by_cases q : (atKey ys k).isSome = true
  · rw [if_pos q, if_pos q]
    clear e q
    induction r with
    | nil => exact .nil
    | @cons p q ps qs hq t ih =>
      rw [List.map_cons, List.map_cons]
      refine .cons ?_ ih
      obtain ⟨h1, h2, h3⟩ := hq
      unfold putAt
      by_cases e : p.1 = k
      · rw [if_pos e, if_pos (h1.symm.trans e)]; exact ⟨h1, h2, rv⟩
      · rw [if_neg e, if_neg (fun z => e (h1.trans z))]; exact ⟨h1, h2, h3⟩
  · rw [if_neg q, if_neg q]
    exact Paired.snoc r ⟨rfl, rfl, rv⟩
theorem nput_len (xs : List NX) (k : NestedKey) (b : Addr) (v : V) : (nput xs k b v).length ≤ xs.length + 1 := by
  unfold nput; split <;> simp
theorem nput_keys {k : NestedKey} {b : Addr} {v : V} (hk : ∀ x ∈ xs, NkV H x.1 (.ref x.2.1) ∧ x.1.depth ≤ 8) (hb : NkV H k (.ref b)) (d : k.depth ≤ 8) : ∀ x ∈ nput xs k b v, NkV H x.1 (.ref x.2.1) ∧ x.1.depth ≤ 8 := by
  intro x hx
  unfold nput at hx
  split at hx
  · obtain ⟨y, hy, e⟩ := List.mem_map.mp hx
    subst e
    split
    · exact hk y hy
    · exact hk y hy
  · rcases List.mem_append.mp hx with hx | hx
    · exact hk x hx
    · cases List.mem_singleton.mp hx; exact ⟨hb, d⟩
theorem NdAt.keep (N : NdAt P w H a xs) (ha : H' a = H a) (ht : ∀ b ys, H b = some (.tup ys) → H' b = some (.tup ys)) : NdAt P w H' a xs :=
  ⟨ha.trans N.here, fun x hx => ⟨NkV.keeps ht _ _ (N.keys x hx).1, (N.keys x hx).2⟩⟩
end

theorem nk_key {P : Program} {w : World} {H : Hp} {h : Heap} {k : NestedKey} {p : Addr} (ok : HOk P w H h) (kp : NkV H k (.ref p)) (d : k.depth ≤ 8) : (nestedKind P w).is h k p := ⟨nk_is ok k _ _ kp rfl, d⟩
section
variable {X : Cx}
/-- y in d -/
def uNIn (P : Program) (w : World) (neg : Bool) : R2 := fun y x H Q => ∃ a p k xs, x = .ref a ∧ y = .ref p ∧ NdAt P w H a xs ∧ NkV H k (.ref p) ∧ k.depth ≤ 8 ∧ Q (.bl (neg != (nval xs k).isSome)) H
theorem NdAt.isSome {P : Program} {w : World} {k : NestedKey} {xs : List NX} {ys : List (NestedKey × Addr × Value)} (r : Paired NRel xs ys) : (atKey ys k).isSome = (nval xs k).isSome := by
  rw [(NRel.val r k).isSome_eq, Option.isSome_map]
theorem ou_nin (hu : X.A.units + 64 < cLine) : OpR X (compareOp .In) (uNIn X.prog X.w false) := by
  intro pins s σ H y x v u Q I ry rx h
  obtain ⟨a, p, k, xs, rfl, rfl, N, kp, d, q⟩ := h
  cases rx; cases ry
  obtain ⟨z, l, ys, r, D⟩ := N.get I.hok
  refine wpAny_in_heap (show X.A.units + 1 + 8 < cLine by omega) (nk_key I.hok kp d) z D ?_
  rw [NdAt.isSome (P := X.prog) (w := X.w) r]
  exact ⟨.bl _, H, I.tok _, rfl, by simpa using q⟩
theorem ou_nnotin (hu : X.A.units + 64 < cLine) : OpR X (compareOp .NotIn) (uNIn X.prog X.w true) := by
  intro pins s σ H y x v u Q I ry rx h
  obtain ⟨a, p, k, xs, rfl, rfl, N, kp, d, q⟩ := h
  cases rx; cases ry
  obtain ⟨z, l, ys, r, D⟩ := N.get I.hok
  refine wpAny_notIn_heap (show X.A.units + 1 + 8 < cLine by omega) (nk_key I.hok kp d) z D ?_
  rw [NdAt.isSome (P := X.prog) (w := X.w) r]
  exact ⟨.bl _, H, I.tok _, rfl, by simpa using q⟩
/-- d[y] -/
def uNIx (P : Program) (w : World) : R2 := fun x y H Q => ∃ a p k xs v, x = .ref a ∧ y = .ref p ∧ NdAt P w H a xs ∧ NkV H k (.ref p) ∧ k.depth ≤ 8 ∧ nval xs k = some v ∧ Q v H
theorem ix_nd (hu : X.A.units + 64 < cLine) : IxR X (uNIx X.prog X.w) := by
  intro value slice pins s σ H x y v u Q I rx ry h hs
  obtain ⟨a, p, k, xs, z, rfl, rfl, N, kp, d, e, q⟩ := h
  cases rx; cases ry
  obtain ⟨_, l, ys, r, D⟩ := N.get I.hok
  obtain ⟨w', hw, rw'⟩ := RelO.some_of (v := z) (o := (atKey ys k).map (·.2)) (by rw [← e]; exact NRel.val r k)
  obtain ⟨q2, hq2, e2⟩ := Option.map_eq_some_iff.mp hw
  refine tail_any D.typeIs PySem.F.slot_dict_getitem.lookup (wpAny_getItem_heap (show X.A.units + 1 + 8 < cLine by omega) (nk_key I.hok kp d) D hq2 ?_) hs
  rw [e2]
  exact ⟨z, H, I.tok _, rw', q⟩
/-- a dict's item by int, text, or a flat tuple -/
def uDIx : R2 := fun x y H Q => ∃ a v, x = .ref a ∧ DGet H a y (some v) ∧ Q v H
theorem ix_d (hu : X.A.units + 64 < cLine) : IxR X uDIx := by
  intro value slice pins s σ H x y v u Q I rx ry h hs
  obtain ⟨a, z, rfl, g, q⟩ := h
  cases rx
  exact tail_any (dict_typeIs I g) PySem.F.slot_dict_getitem.lookup (d_getItem (by omega) I g ry fun w' s' I' rw' => ⟨z, H, I', rw', q⟩) hs
/-- y in d, keys ints, texts, flat tuples -/
def uDIn (neg : Bool) : R2 := fun y x H Q => ∃ a o, x = .ref a ∧ DGet H a y o ∧ Q (.bl (neg != o.isSome)) H
theorem ou_din (hu : X.A.units + 64 < cLine) : OpR X (compareOp .In) (uDIn false) := by
  intro pins s σ H y x v u Q I ry rx h
  obtain ⟨a, o, rfl, g, q⟩ := h
  cases rx
  exact d_in (by omega) I g ry fun s' I' => ⟨.bl _, H, I', rfl, by simpa using q⟩
theorem ou_dnotin (hu : X.A.units + 64 < cLine) : OpR X (compareOp .NotIn) (uDIn true) := by
  intro pins s σ H y x v u Q I ry rx h
  obtain ⟨a, o, rfl, g, q⟩ := h
  cases rx
  exact d_notIn (by omega) I g ry fun s' I' => ⟨.bl _, H, I', rfl, by simpa using q⟩
/-- d[y] = v -/
def uNSet (P : Program) (w : World) : V → V → V → Hp → (Hp → Prop) → Prop := fun o i v H Q => ∃ a p k xs, o = .ref a ∧ i = .ref p ∧ NdAt P w H a xs ∧ NkV H k (.ref p) ∧ k.depth ≤ 8 ∧ xs.length < sizeLine ∧ Q (upd H a (NdO P w a (nput xs k p v)))
theorem set_nd (hu : X.A.units + 64 < cLine) : PSet X (uNSet X.prog X.w) := by
  intro pins s σ H o i v ov iv u Q I ro ri rv h
  obtain ⟨a, p, k, xs, rfl, rfl, N, kp, d, few, q⟩ := h
  cases ro; cases ri
  obtain ⟨z, l, ys, r, D⟩ := N.get I.hok
  have hl : (nput xs k p v).length ≤ sizeLine := Nat.le_trans (nput_len xs k p v) few
  refine wpAny_setItem_heap (hsz := by rw [← Paired.length r]; exact l) (show X.A.units + 1 + 8 < cLine by omega) (nk_key I.hok kp d) D fun h' D' hs => ?_
  have he : ∃ q, h'.get? a = some q := let ⟨q, _, _, hq, _⟩ := D'; ⟨q, hq⟩
  exact ⟨_, d_write I (by rw [N.here]; exact True.intro) hs he (ndO_ok z hl (NRel.put r k p rv) D'), q⟩
def uDSet : V → V → V → Hp → (Hp → Prop) → Prop := fun o i v H Q => ∃ a H', o = .ref a ∧ DPut H a i v H' ∧ Q H'
theorem set_d (hu : X.A.units + 64 < cLine) : PSet X uDSet := by
  intro pins s σ H o i v ov iv u Q I ro ri rv h
  obtain ⟨a, H', rfl, g, q⟩ := h
  cases ro
  exact d_setItem (by omega) I g ri rv fun s' I' => ⟨H', I', q⟩
theorem PSet.or {X : Cx} {t t' : TSet} (h : PSet X t) (h' : PSet X t') : PSet X (fun o i v H Q => t o i v H Q ∨ t' o i v H Q) := by
  intro pins s σ H o i v ov iv u Q I ro ri rv q
  rcases q with q | q
  · exact h pins s σ H o i v ov iv u Q I ro ri rv q
  · exact h' pins s σ H o i v ov iv u Q I ro ri rv q
/-- {} with nested keys to come -/
theorem nd_empty {P : Program} {w : World} {H : Hp} (h : Heap) (hb : sysModules < h.objs.size) : ObjOk P w H (h.push { cls := .type "dict", data := .dict #[] }) h.objs.size (NdO P w h.objs.size []) :=
  ndO_ok (beq_eq_false_iff_ne.mpr (Ne.symm (Nat.ne_of_lt hb))) (Nat.zero_le _) .nil (Heap.DictOfH.new h)
def uDNew (P : Program) (w : World) : TE := fun _ H Q => (∃ kind : Bool, ∀ p, H p = none → Q (.ref p) (upd H p (if kind = true then .dK [] else NdO P w p []))) ∨ (∀ p, H p = none → Q (.ref p) (upd H p (.dT [])))
theorem pe_dnew {pos : Pos} : PE X (.Dict [] [] pos) (uDNew X.prog X.w) := ⟨fun pins s σ H Q I h => by
  rcases h with ⟨kind, q⟩ | q
  · cases kind with
    | true => exact wpAny_Dict_empty ⟨.ref s.heap.objs.size, _, I.laid (a := s.heap.objs.size) (o := .dK []) (t' := s.toks) (fun _ _ q => Heap.get?_push_of_some _ q) (Nat.le_refl _) (dk_empty s.heap I.big), rfl, q _ (I.hok.fresh (Nat.le_refl _))⟩
    | false => exact wpAny_Dict_empty ⟨.ref s.heap.objs.size, _, I.laid (a := s.heap.objs.size) (o := NdO X.prog X.w s.heap.objs.size []) (t' := s.toks) (fun _ _ q => Heap.get?_push_of_some _ q) (Nat.le_refl _) (nd_empty s.heap I.big), rfl, q _ (I.hok.fresh (Nat.le_refl _))⟩
  · exact pe_dnewT.run pins s σ H Q I q⟩
/-- {k: v} with one nested key -/
def uDisp1 (P : Program) (w : World) (tk tv : TE) : TE := fun σ H Q => ∀ p, H p = none → tk σ (upd H p (NdO P w p [])) fun x H1 => tv σ H1 fun y H2 =>
  ∃ k b, x = .ref b ∧ H2 p = some (NdO P w p []) ∧ NkV H2 k (.ref b) ∧ k.depth ≤ 8 ∧ Q (.ref p) (upd H2 p (NdO P w p [(k, b, y)]))
theorem pe_disp1 {ke ve : Expr} {tk tv : TE} {pos : Pos} (hu : X.A.units + 64 < cLine) (hk : PE X ke tk) (hv : PE X ve tv)
    (shape : (evalEachOpt [some ke] X.env).zip ((evalEach [ve] X.env).map fun v => do let x ← v; standAt pos; pure x) = [(eval ke X.env, (do let x ← eval ve X.env; standAt pos; pure x))].map fun p => (some p.1, p.2) := by rfl) :
    PE X (.Dict [some ke] [ve] pos) (uDisp1 X.prog X.w tk tv) := by
  refine ⟨fun pins s σ H Q I h => ?_⟩
  have hn := I.hok.fresh (Nat.le_refl s.heap.objs.size)
  have I1 := I.laid (a := s.heap.objs.size) (o := NdO X.prog X.w s.heap.objs.size []) (h' := s.heap.push { cls := .type "dict", data := .dict #[] }) (t' := s.toks) (fun _ _ q => Heap.get?_push_of_some _ q) (Nat.le_refl _) (nd_empty s.heap I.big)
  have h1 : PPs X pos [some ke] [ve] [(tk, tv)] := pps_cons hk hv pps_nil
  have trees : pairTrees [some ke] [ve] X.env pos = [(eval ke X.env, (do let x ← eval ve X.env; standAt pos; pure x))] := by rfl
  have run := h1.run pins _ σ _ (fun ps H2 => match ps with
    | [(x, y)] => ∃ k b, x = .ref b ∧ H2 s.heap.objs.size = some (NdO X.prog X.w s.heap.objs.size []) ∧ NkV H2 k (.ref b) ∧ k.depth ≤ 8 ∧ Q (.ref s.heap.objs.size) (upd H2 s.heap.objs.size (NdO X.prog X.w s.heap.objs.size [(k, b, y)]))
    | _ => False) I1 (h _ hn)
  rw [trees] at run
  rw [arm_eval_Dict, shape, dictDisplay_pairs _ (by simp) (by simp)]
  refine wpAny_bind (wpAny_standAt (wpAny_bind (wpAny_subDictH (knd := nestedKind X.prog X.w) (show X.A.units + 8 < cLine by omega) (by simp) (thn run fun vs s2 hh => ?_))))
  obtain ⟨ps, H2, I2, rel, q⟩ := hh
  split at q
  · rename_i x y
    obtain ⟨k, b, rfl, e, kb, d, q⟩ := q
    cases rel with
    | @cons p1 q1 ps qs rr t =>
    cases t
    obtain ⟨u1, u2⟩ := q1
    obtain ⟨r1, r2⟩ := rr
    cases (show u1 = Value.ref b from r1)
    obtain ⟨z, l, ys, rr, D⟩ := NdAt.get I2.hok (xs := []) ⟨e, fun _ hx => nomatch hx⟩
    cases rr
    refine ⟨[(k, b, u2)], ⟨rfl, rfl, nk_key I2.hok kb d, True.intro⟩, D, fun h' tk' D' hs => wpAny_pure ⟨.ref s.heap.objs.size, _, ?_, rfl, q⟩⟩
    have he : ∃ q, h'.get? s.heap.objs.size = some q := let ⟨q, _, _, hq, _⟩ := D'; ⟨q, hq⟩
    exact d_write I2 (by rw [e]; exact True.intro) hs he (ndO_ok (ys := [(k, b, u2)]) z (by rw [sizeLine_eq]; exact (by decide : (1 : Nat) ≤ 16777216)) (.cons ⟨rfl, rfl, r2⟩ .nil) D')
  · exact q.elim
end
/-! sorted(t), t a tuple of ints -/
section
open PyProof.Rows
variable {P : Program} {w : World} {A : Around} {E : Value → Shared → Prop} {s : Shared}
theorem collect_tup {l : Addr} {vs : List Value} {Q : List Value → Shared → Prop} (hl : s.heap.IsTuple l vs.toArray) (hsz : vs.length ≤ sizeLine)
    (h : Q vs { s with heap := (s.heap.push (seqObj "list" #[] 0)).update s.heap.objs.size (Obj.mapSeq (· ++ vs.toArray)) }) :
    wpAny (model P w) A (collect (.ref l)) Q E s := by
  obtain ⟨o, ho, hc, n, hd⟩ := id hl
  unfold collect
  refine wpAny_bind (wpAny_runValue (codeAny_builtin entry_proto_collect' ?_))
  show wpAny _ _ (do again (.builtin "list.__iadd__" ⟨[← newList [], .ref l], []⟩)) _ _ s
  refine wpAny_bind (wpAny_newList (wpAny_pure ⟨Code.quiet_builtin _ (by decide +kernel), codeAny_builtin entry_list_iadd' ?_⟩))
  show wpAny _ _ (Builtin.List.listExtendWith (.ref s.heap.objs.size) (.ref l) (.ref s.heap.objs.size)) _ _ { s with heap := s.heap.push (seqObj "list" #[] 0) }
  unfold Builtin.List.listExtendWith
  have ho' : (s.heap.push (seqObj "list" #[] 0)).get? l = some o := Heap.get?_push_of_some _ ho
  refine wpAny_bind (wpAny_typeOf (T := "tuple") ⟨o, ho', hc⟩ ?_)
  have ht : (Value.type "tuple" == Value.type "tuple") = true := by rfl
  rw [if_pos (by rw [ht]; simp)]
  refine wpAny_bind (listItems_at ho' hd ?_)
  refine wpAny_bind (listItems_at (xs := #[]) (n := 0) (Heap.get?_push_size _ rfl) rfl ?_)
  rw [if_neg (by simp)]
  refine wpAny_bind (listUpdate_at (xs := #[]) (n := 0) (Heap.get?_push_size _ rfl) rfl ?_ (Nat.zero_le _) (by show (#[] ++ vs.toArray).size ≤ sizeLine + 1; simp only [Array.size_append, List.size_toArray, List.length_nil]; omega))
  refine wpAny_pure ?_
  show wpAny (model P w) A (do
      let o ← load s.heap.objs.size
      match o.data with
      | .seq xs _ => pure xs.toList
      | _ => unsupported "internal:collect") Q E { s with heap := (s.heap.push (seqObj "list" #[] 0)).update s.heap.objs.size (Obj.mapSeq (· ++ vs.toArray)) }
  refine wpAny_bind (wpAny_load (get?_update_seq (Heap.get?_push_size _ rfl) _) ?_)
  show wpAny _ _ (pure ((#[] : Array Value) ++ vs.toArray).toList) Q E _
  rw [show ((#[] : Array Value) ++ vs.toArray).toList = vs by simp]
  exact wpAny_pure h
theorem sorted_of_tup {l : Addr} {vs : List Value} {ns : List Int} {Q : Value → Shared → Prop} (hl : s.heap.IsTuple l vs.toArray) (hsz : vs.length ≤ sizeLine) (areI : IntsAre vs ns)
    (fin : ∀ (h' : Heap) (p : Addr) (out : Array Value) (c : Nat) (ns' : List Int), (∀ b o, s.heap.get? b = some o → h'.get? b = some o) → s.heap.objs.size ≤ p → h'.get? p = some (seqObj "list" out c) → IntsAre out.toList ns' → ns'.Perm ns → ns'.Pairwise (· ≤ ·) → Q (.ref p) { s with heap := h' }) :
    wpAny (model P w) A (call (.builtin "sorted") [.ref l]) Q E s := by
  refine Calls.call_function_entry kind_sorted plain_sorted entry_sorted (args_sorted1 _) ?_
  unfold Builtin.«sorted»
  refine wpAny_bind (m := checkCount "sorted" 1 1 _) (wpAny_pure ?_)
  refine wpAny_bind (collect_tup hl hsz ?_)
  have k1 : ∀ b o, s.heap.get? b = some o → ((s.heap.push (seqObj "list" #[] 0)).update s.heap.objs.size (Obj.mapSeq (· ++ vs.toArray))).get? b = some o := fun b o q => by
    rw [Heap.get?_update_ne _ _ _ _ (Nat.ne_of_lt (Heap.lt_size q))]
    exact Heap.get?_push_of_some _ q
  have big : s.heap.objs.size ≤ ((s.heap.push (seqObj "list" #[] 0)).update s.heap.objs.size (Obj.mapSeq (· ++ vs.toArray))).objs.size := by
    rw [Heap.size_update, size_push']; omega
  generalize (s.heap.push (seqObj "list" #[] 0)).update s.heap.objs.size (Obj.mapSeq (· ++ vs.toArray)) = h1 at k1 big ⊢
  refine wpAny_bind (wpAny_newList ?_ hsz)
  have at1 : (h1.push (seqObj "list" vs.toArray 0)).get? h1.objs.size = some (seqObj "list" vs.toArray 0) := Heap.get?_push_size _ rfl
  refine wpAny_bind (wpAny_holding (wpAny_call_entry slot_list_sort ⟨_, at1, rfl⟩ entry_list_sort
    (SrtO.list_sort_ord SrtO.swo_int at1 hsz (fun h2 => SrtO.ints_sortable areI h2) fun out z1 z2 => ⟨_, rfl, ?_⟩) (args_list_sort _)))
  obtain ⟨j1, j2, j3⟩ := SrtO.ints_out areI z1 z2
  obtain ⟨c, hc⟩ := sortedHeap_at (vs := vs) (out := out.toArray) at1
  refine wpAny_pure ⟨_, rfl, fin _ h1.objs.size out.toArray c (out.map SrtO.iv) (fun b u e => ?_) big hc (by simpa using j1) j2 j3⟩
  have q := k1 b u e
  have lt := Heap.lt_size q
  rw [sortedHeap_old (Nat.ne_of_lt lt) (by rw [size_push']; exact Nat.lt_succ_of_lt lt)]
  exact Heap.get?_push_of_some _ q
end
section
variable {X : Cx}
def rSortTup (K : PySem.W.Frag) : List V → Hp → VK → Prop := fun xs H Q => ∃ (l : Addr) (ns : List Int), xs = [.ref l] ∧ SqT K H l (ns.map V.int) ∧
  ∀ (ns' : List Int) (p : Addr), ns'.Perm ns → ns'.Pairwise (· ≤ ·) → H p = none → Q (.ref p) (upd H p (.lst (ns'.map V.int)))
theorem cu_sortTup : CallR X (.builtin "sorted") (rSortTup X.K) := by
  intro pins s σ H vs us Q I r h
  obtain ⟨l, ns, rfl, hq, q⟩ := h
  rw [Vals.ref1 r]
  obtain ⟨its, rv, p, hz⟩ := I.tuple hq
  have areI : IntsAre its ns := rv.ints
  refine sorted_of_tup (show s.heap.IsTuple l its.toArray from p) (by rw [← rv.length]; exact hz) areI fun h' p' out c ns' k big got a1 a2 a3 => ?_
  have line : (ns'.map V.int).length ≤ sizeLine := by rw [List.length_map, a2.length_eq]; rw [List.length_map] at hz; exact hz
  have new : H p' = none := I.hok.fresh big
  exact ⟨.ref p', upd H p' (.lst (ns'.map V.int)), I.laid (t' := s.toks) k big ⟨line, out.toList, c, vals_of_ints a1, got⟩, rfl, q ns' p' a2 a3 new⟩
/-- sorted(d), d a dict whose keys are ints, of any size -/
def uSortDict : List V → Hp → VK → Prop := fun xs H Q => ∃ (a : Addr) (kvs : List (L2.Key × V)) (ks : List Int), xs = [.ref a] ∧ H a = some (.dK kvs) ∧ kvs.map (·.1) = ks.map Sum.inl ∧
  ∀ (ys : List Int) (p : Addr), ys.Perm ks → ys.Pairwise (· ≤ ·) → H p = none → Q (.ref p) (upd H p (.lst (ys.map V.int)))
theorem ints_each' : ∀ {us : List Value} {ks : List Int}, us.length = ks.length → (∀ (j : Nat) (v : Value), us[j]? = some v → ∃ (x : Int) (t : _), ks[j]? = some x ∧ v = .int x t) → IntsAre us ks
  | [], [], _, _ => .nil
  | u :: us, k :: ks, hl, h => by
    obtain ⟨x, t, e1, e2⟩ := h 0 u rfl
    have e1' : k = x := Option.some.inj e1
    subst e1'
    subst e2
    refine .cons _ _ (ints_each' (by simpa using hl) fun j v e => ?_)
    obtain ⟨x, t, a, b⟩ := h (j + 1) v (by simpa using e)
    exact ⟨x, t, by simpa using a, b⟩
  | [], _ :: _, hl, _ => by simp at hl
  | _ :: _, [], hl, _ => by simp at hl
theorem cu_sortDict (hcalm : X.calm = true) : CallR X (.builtin "sorted") uSortDict := by
  intro pins s σ H xs us Q I r q
  obtain ⟨a, kvs, ks, rfl, hd, hks, q⟩ := q
  rw [Vals.ref1 r]
  obtain ⟨z, lo, vs, rel, dd⟩ := dk_rd I.hok (.inl hd)
  obtain ⟨ep, hat⟩ := dd.dictAt
  have hkeys : vs.map (·.1) = ks.map Sum.inl := rel.keys.symm.trans hks
  have hl : vs.length = ks.length := by
    have e := congrArg List.length hkeys
    rw [List.length_map, List.length_map] at e
    exact e
  have h16 : vs.length ≤ sizeLine := by rw [← rel.length]; exact z
  refine Calls.call_function_entry kind_sorted plain_sorted entry_sorted (args_sorted1 _) ?_
  unfold Builtin.«sorted»
  refine wpAny_bind (m := checkCount "sorted" 1 1 _) (wpAny_pure ?_)
  refine wpAny_bind (PySem.W.kdu_collect (A := X.A.in1) (PySem.W.kdl_dict (knd := mixKind X.prog X.w) (kvs := vs) (ep := ep) lo) (I.ok.hd hcalm) hat h16 fun h' tk acc hk hacc => ?_)
  have hal : acc.toList.length = ks.length := by rw [Array.length_toList, hacc.1, hl]
  have areI : IntsAre acc.toList ks := ints_each' hal fun j v e => by
    obtain ⟨k, x, e1, e2⟩ := hacc.2 j v (by rw [← Array.getElem?_toList]; exact e)
    have e3 : (vs.map (·.1))[j]? = some k := by rw [List.getElem?_map, e1]; rfl
    rw [hkeys, List.getElem?_map] at e3
    cases e4 : ks[j]? with
    | none => rw [e4] at e3; cases e3
    | some y =>
      rw [e4] at e3
      have e5 : Sum.inl y = k := Option.some.inj e3
      subst e5
      rcases keyIs_shape (show keyIs (Sum.inl y) v = true from e2) with ⟨i, t, ek, ev⟩ | ⟨z, t, ek, ev⟩
      · cases ek
        exact ⟨y, t, rfl, ev⟩
      · cases ek
  have I1 : Inv X pins σ H { s with heap := h', toks := tk } := I.kept hk
  have hal2 : acc.toList.length ≤ sizeLine := by rw [hal, ← hl]; exact h16
  refine wpAny_bind (wpAny_newList ?_ hal2)
  have at1 : (h'.push (seqObj "list" acc.toList.toArray 0)).get? h'.objs.size = some (seqObj "list" acc.toList.toArray 0) := Heap.get?_push_size _ rfl
  show wpAny _ _ _ _ _ { s with heap := h'.push (seqObj "list" acc.toList.toArray 0), toks := tk }
  refine wpAny_bind (wpAny_holding (wpAny_call_entry slot_list_sort ⟨_, at1, rfl⟩ entry_list_sort
    (SrtO.list_sort_ord SrtO.swo_int (s := { s with heap := h'.push (seqObj "list" acc.toList.toArray 0), toks := tk }) at1 hal2 (fun h2 => SrtO.ints_sortable areI h2) fun out z1 z2 => ⟨_, rfl, ?_⟩) (args_list_sort _)))
  obtain ⟨j1, j2, j3⟩ := SrtO.ints_out areI z1 z2
  obtain ⟨c, hc⟩ := sortedHeap_at (vs := acc.toList) (out := out.toArray) at1
  have hlen : ((out.map SrtO.iv).map V.int).length ≤ sizeLine := by
    rw [List.length_map, j2.length_eq, ← hl]; exact h16
  refine wpAny_pure ⟨_, rfl, .ref h'.objs.size, upd H h'.objs.size (.lst ((out.map SrtO.iv).map V.int)), I1.laid (t' := tk) (fun b u e => ?_) (Nat.le_refl _)
    (show ObjOk X.prog X.w _ _ _ (.lst ((out.map SrtO.iv).map V.int)) from ⟨hlen, out, c, vals_of_ints j1, hc⟩), rfl, q _ _ j2 j3 (I1.hok.fresh (Nat.le_refl _))⟩
  have hb : b < h'.objs.size := Heap.lt_size e
  rw [sortedHeap_old (Nat.ne_of_lt hb) (by rw [size_push']; exact Nat.lt_succ_of_lt hb)]
  exact Heap.get?_push_of_some _ e
end
end Hm

/-! F2: rules by syntax alone (each a choice by values), and their readings. -/
namespace Hm
open PySem PySem.Spec PyProof.Rows L2

/-! ### choices by values -/
def bAdd (K : PySem.W.Frag) : R2 := fun x y H Q => rI0 (fun i j => .int (i + j)) x y H Q ∨ rCat x y H Q ∨
  (∃ i j, x = .str i ∧ y = .str j ∧ i.length + j.length ≤ sizeLine ∧ Q (.str (i ++ j)) H) ∨ rCatA K x y H Q
def bSub : R2 := rI0 fun i j => .int (i - j)
def bMul : R2 := fun x y H Q => rI CMul (fun i j => .int (i * j)) x y H Q ∨ rI CMulW (fun i j => .int (i * j)) x y H Q ∨ rRep x y H Q
def bMod : R2 := rI (fun _ j => 0 < j) fun i j => .int (i % j)
def bDiv : R2 := fun x y H Q => rI CDiv (fun i j => .int (i / j)) x y H Q ∨ rI CDivW (fun i j => .int (i / j)) x y H Q
def bPow : R2 := rI CPow fun i j => .int (i ^ j.toNat)
def bAnd : R2 := rI0 fun i j => .int (Builtin.bitAnd i j)
def bXor : R2 := rI0 fun i j => .int (Builtin.bitXor i j)
def cEq (K : PySem.W.Frag) : R2 := fun x y H Q => rEq x y H Q ∨ rEqD K x y H Q
def cNe (K : PySem.W.Frag) : R2 := fun x y H Q => rNe x y H Q ∨ rNeD K x y H Q
def cLt (K : PySem.W.Frag) : R2 := fun x y H Q => rI0 (fun i j => .bl (decide (i < j))) x y H Q ∨
  (∃ i j, x = .str i ∧ y = .str j ∧ Q (.bl (decide (i.cps.toList < j.cps.toList))) H) ∨ rLtT K x y H Q
def cLe : R2 := rI0 fun i j => .bl (decide (i ≤ j))
def cGt : R2 := rI0 fun i j => .bl (decide (j < i))
def cGe : R2 := rI0 fun i j => .bl (decide (j ≤ i))
def cIs : R2 := fun x y H Q => (y = .non ∧ Q (.bl (decide (x = .non))) H) ∨ rIsB x y H Q
def cIsNot : R2 := fun x y H Q => (y = .non ∧ Q (.bl (!decide (x = .non))) H) ∨ rNotB x y H Q
def cIn (P : Program) (w : World) (K : PySem.W.Frag) : R2 := fun x y H Q => rIn K false x y H Q ∨ rInD K x y H Q ∨ rInS x y H Q ∨ uDIn false x y H Q ∨ uNIn P w false x y H Q
def cNotIn (P : Program) (w : World) (K : PySem.W.Frag) : R2 := fun x y H Q => rIn K true x y H Q ∨ rNotInD K x y H Q ∨ rNotInS x y H Q ∨ uDIn true x y H Q ∨ uNIn P w true x y H Q
def bIx (P : Program) (w : World) (K : PySem.W.Frag) : R2 := fun x y H Q => rIxL K x y H Q ∨ rIxT K x y H Q ∨ rIxS x y H Q ∨ uDIx x y H Q ∨ uNIx P w x y H Q
def bSet (P : Program) (w : World) : TSet := fun o i v H Q => rSetL o i v H Q ∨ uDSet o i v H Q ∨ uNSet P w o i v H Q
def kLen (K : PySem.W.Frag) : List V → Hp → VK → Prop := fun xs H Q => (∃ x n, xs = [x] ∧ LenV K x H n ∧ Q (.int n) H) ∨ (∃ a kvs, xs = [V.ref a] ∧ H a = some (.dK kvs) ∧ Q (.int kvs.length) H)
def kList (K : PySem.W.Frag) : List V → Hp → VK → Prop := fun xs H Q => (∃ p ys, xs = [.ref p] ∧ (SqL K H p ys ∨ SqT K H p ys) ∧ ∀ l, H l = none → Q (.ref l) (upd H l (.lst ys))) ∨ rListD xs H Q
def kTuple (K : PySem.W.Frag) : List V → Hp → VK → Prop := fun xs H Q => ∃ p ys, xs = [.ref p] ∧ ((SqL K H p ys ∧ ∀ l, H l = none → Q (.ref l) (upd H l (.tup ys))) ∨ (SqT K H p ys ∧ Q (.ref p) H))
def kSorted (K : PySem.W.Frag) (w : World) : List V → Hp → VK → Prop := fun xs H Q => rSortedI K xs H Q ∨ uSortSet w xs H Q ∨ rSortTup K xs H Q ∨ uSortDict xs H Q
def kMax (K : PySem.W.Frag) : List V → Hp → VK → Prop := fun xs H Q => (∃ i j, xs = [.int i, .int j] ∧ Q (.int (if j > i then j else i)) H) ∨ rMax K xs H Q
def kMin (K : PySem.W.Frag) : List V → Hp → VK → Prop := fun xs H Q => (∃ i j, xs = [.int i, .int j] ∧ Q (.int (if j < i then j else i)) H) ∨ rMin K xs H Q
def kAbs : List V → Hp → VK → Prop := fun xs H Q => ∃ i, xs = [.int i] ∧ Q (.int (if i < 0 then -i else i)) H
def kInt : List V → Hp → VK → Prop := fun xs H Q => (∃ i, xs = [.int i] ∧ Q (.int i) H) ∨ ∃ k, xs = [.bl k] ∧ Q (.int (if k then 1 else 0)) H
def tTru (K : PySem.W.Frag) (ta : TE) : TT := fun σ H Q => ta σ H fun x H' => ∃ k, TruV K x H' k ∧ Q k H'
def bSl (K : PySem.W.Frag) : V → Option Int → Option Int → Hp → VK → Prop := fun x lo hi H Q => rSlL K x lo hi H Q ∨ rSlA K x lo hi H Q
/-- (a, b) = a tuple or a list of that length -/
def gSeq (K : PySem.W.Frag) (n : Nat) (t : TGs) : TG := fun v σ H Q => gTup K n t v σ H Q ∨ gUnl K n t v σ H Q
def kInsert : V → List V → Hp → VK → Prop := fun x vs H Q => ∃ (l : Addr) (xs : List V) (i : Int) (y : V), x = .ref l ∧ vs = [.int i, y] ∧ H l = some (.lst xs) ∧ xs.length < sizeLine ∧ 0 ≤ i ∧ i < 2 ^ 63 ∧
    Q .non (upd H l (.lst (xs.take i.toNat ++ [y] ++ xs.drop i.toNat)))
def kIndex (K : PySem.W.Frag) : V → List V → Hp → VK → Prop := fun x xs H Q => rIndex K x xs H Q ∨ rIndexD K x xs H Q

def rTupIndex (K : PySem.W.Frag) : V → List V → Hp → VK → Prop := fun x xs H Q => ∃ p, ∃ ys : List Str, ∃ z j, x = .ref p ∧ xs = [.str z] ∧ SqT K H p (ys.map V.str) ∧ ys[j]? = some z ∧ (∀ m, m < j → ys[m]? ≠ some z) ∧ Q (.int (j : Nat)) H

section
variable {X : Cx}
theorem hu64 {k : Nat} {A : Around} (hr : Room k A) : A.units + 64 < cLine := hr.units
theorem hu1 {k : Nat} {A : Around} (hr : Room k A) : A.units + 1 < cLine := by have := hr.un; omega
theorem hu65 {k : Nat} {A : Around} (hr : Room k A) : A.units + 65 < cLine := by have := hr.un; omega
theorem o_add : OpR X (binaryOp .Add) (bAdd X.K) := op_add.or (op_cat.or (op_add_str.or op_catA))
theorem o_sub : OpR X (binaryOp .Sub) bSub := op_sub
theorem o_mul : OpR X (binaryOp .Mult) bMul := op_mul.or (op_mulW.or op_rep)
theorem o_mod : OpR X (binaryOp .Mod) bMod := op_mod
theorem o_div : OpR X (binaryOp .FloorDiv) bDiv := op_fdiv.or op_fdivW
theorem o_pow : OpR X (binaryOp .Pow) bPow := op_pow
theorem o_and : OpR X (binaryOp .BitAnd) bAnd := op_and
theorem o_xor : OpR X (binaryOp .BitXor) bXor := op_xor
theorem o_eq (hu : X.A.units + 64 < cLine) : OpR X (compareOp .Eq) (cEq X.K) := op_eq.or (op_eqD hu)
theorem o_ne (hu : X.A.units + 64 < cLine) : OpR X (compareOp .NotEq) (cNe X.K) := op_ne.or (op_neD hu)
theorem o_lt (hu : X.A.units + 64 < cLine) : OpR X (compareOp .Lt) (cLt X.K) := op_lt.or (op_lt_str.or (op_ltT (by omega)))
theorem o_le : OpR X (compareOp .LtE) cLe := op_le
theorem o_gt : OpR X (compareOp .Gt) cGt := op_gt
theorem o_ge : OpR X (compareOp .GtE) cGe := op_ge
theorem o_is : OpR X (compareOp .Is) cIs := op_isN.or op_isBl
theorem o_isnot : OpR X (compareOp .IsNot) cIsNot := op_notN.or op_notBl
theorem o_in (hu : X.A.units + 65 < cLine) : OpR X (compareOp .In) (cIn X.prog X.w X.K) := op_in_seq.or ((op_inD hu).or (op_inS.or ((ou_din (by omega)).or (ou_nin (by omega)))))
theorem o_notin (hu : X.A.units + 65 < cLine) : OpR X (compareOp .NotIn) (cNotIn X.prog X.w X.K) := op_notIn_seq.or ((op_notInD hu).or (op_notInS.or ((ou_dnotin (by omega)).or (ou_nnotin (by omega)))))
theorem x_ix (hu : X.A.units + 64 < cLine) : IxR X (bIx X.prog X.w X.K) := ix_list.or (ix_tup.or (ix_str.or ((ix_d hu).or (ix_nd hu))))
theorem s_set (hu : X.A.units + 64 < cLine) : PSet X (bSet X.prog X.w) := PSet.or set_list (PSet.or (set_d hu) (set_nd hu))
theorem k_len : CallR X (.builtin "len") (kLen X.K) := call_len.or call_lenD
theorem k_list (hc : X.calm = true) : CallR X (.type "list") (kList X.K) := call_list_of.or (call_list_dK hc)
theorem k_tuple : CallR X (.type "tuple") (kTuple X.K) := call_tuple_of
theorem k_sorted (hc : X.calm = true) : CallR X (.builtin "sorted") (kSorted X.K X.w) := cr_sortedI.or ((cu_sortSet hc).or (cu_sortTup.or (cu_sortDict hc)))
theorem k_set (hc : X.calm = true) : CallR X (.type "set") (uSetI X.K X.w) := cu_setI hc
theorem k_max (hc : X.calm = true) : CallR X (.builtin "max") (kMax X.K) := (call_max2 hc).or (cr_max hc)
theorem k_min (hc : X.calm = true) : CallR X (.builtin "min") (kMin X.K) := (call_min2 hc).or (cr_min hc)
theorem k_abs : CallR X (.builtin "abs") kAbs := call_abs
theorem k_int : CallR X (.type "int") kInt := call_int1
theorem k_isi : CallR X (.builtin "isinstance") (rIsi X.K) := call_isi
theorem p_tru {a : Expr} {ta : TE} (ha : PE X a ta) (he : ∀ whole, isTrue a X.env whole = (do let v ← whole; standAt a.pos; holding [v] (truthy v)) := by intro _; rfl) : PT X a (tTru X.K ta) := pt_truth ha he
theorem s_sl : SlR X (bSl X.K) := sl_list.or sl_tupA
theorem g_seq {es : List Expr} {k : Nat} {t : TGs} {n : Nat} {pos : Pos} (hc : X.calm = true) (h : PGs X es t)
    (hn : (assignEach es X.env).length = n := by rfl) (hst : (assignEach es X.env).findIdx? (·.1) = none := by rfl) : PG X (.Tuple es k pos) (gSeq X.K n t) := by
  refine ⟨fun pins s σ H v u Q I r hw => ?_⟩
  rcases hw with hw | hw
  · exact (pg_tup hc h hn hst).run pins s σ H v u Q I r hw
  · exact (pg_unl hc h hn hst).run pins s σ H v u Q I r hw
/-- what a for walks, by its value -/
def kIter (K : PySem.W.Frag) (x : V) (H : Hp) (R : It → Hp → Prop) : Prop := (∃ a, x = .ref a ∧ (∃ xs, SqL K H a xs) ∧ R (Itl K a) H) ∨ (∃ a, x = .ref a ∧ (∃ xs, SqT K H a xs) ∧ R (Itt K a) H) ∨ ∃ z, x = .str z ∧ R (Its z) H
def iAny (K : PySem.W.Frag) (tl : TE) : TI := fun σ H R => tl σ H fun x H1 => kIter K x H1 R
theorem pi_any {tg l : Expr} {tl : TE} (hl : PE X l tl) : PI X tg l (iAny X.K tl) := by
  refine ⟨fun pins s σ H R I h => thn (hl.run pins s σ H _ I h) fun v s1 ⟨x, H1, I1, r1, q1⟩ => ?_⟩
  have own : ∀ {Q : Hp}, Inv X pins σ Q s1 → ∀ b ∈ [s1.heap.objs.size], FpOk X pins Q b := fun J b hb => by
    cases List.mem_singleton.mp hb
    exact J.fpOk (Nat.le_refl _) (J.hok.fresh (Nat.le_refl _))
  rcases q1 with ⟨a, rfl, ⟨xs, hq⟩, q⟩ | ⟨a, rfl, ⟨xs, hq⟩, q⟩ | ⟨z, rfl, q⟩
  · cases r1
    obtain ⟨its, rv, p, hz⟩ := I1.list hq
    exact wpAny_pyIter_list p.isList ⟨_, [s1.heap.objs.size], _, _, H1, rfl, I1.kept (t' := s1.toks) fun b o e => Heap.get?_push_of_some _ e, turn_list a _, ⟨_, Heap.get?_push_size _ rfl, rfl, rfl⟩, own I1, q⟩
  · cases r1
    obtain ⟨its, rv, p, hz⟩ := I1.tuple hq
    exact wpAny_pyIter_tuple (show s1.heap.IsTuple a its.toArray from p) ⟨_, [s1.heap.objs.size], _, _, H1, rfl, I1.kept (t' := s1.toks) fun b o e => Heap.get?_push_of_some _ e, turn_tuple a _, ⟨_, Heap.get?_push_size _ rfl, rfl, rfl⟩, own I1, q⟩
  · obtain ⟨t, rfl⟩ := r1
    cases ha : z.cps.all (· < 128)
    · exact wpAny_pyIter_wide ha (pi_one (tk := s1.toks) I1 _ (turn_str _ z t "str_iterator" (.inr rfl)) ⟨_, Heap.get?_push_size _ rfl, rfl, rfl⟩ q)
    · exact wpAny_pyIter_ascii ha (pi_one (tk := s1.toks) I1 _ (turn_str _ z t "str_ascii_iterator" (.inl rfl)) ⟨_, Heap.get?_push_size _ rfl, rfl, rfl⟩ q)
theorem mt_kindex (hu : X.A.units + 65 < cLine) : MtR X "list.index" (kIndex X.K) := mt_index.or (mt_indexD hu)
end
/-! ### defs, methods, classes of the text, by their promises -/
structure Cal (P : Program) (w : World) (K : PySem.W.Frag) (mg : Str → Option Value) (base : Heap) (CX : CXT) (k : Nat) (x : Str) (sp : Sp) : Prop where
  ex : ∃ (f : Addr) (fd : FuncData) (ps : List Str), FnOk P w K mg base CX k f fd ps sp ∧ mg x = some (.ref f) ∧ PySem.W.keepIn K (.ref f) = true ∧ Binds K fd ps []
structure Met (P : Program) (w : World) (K : PySem.W.Frag) (mg : Str → Option Value) (base : Heap) (CX : CXT) (k : Nat) (C : Addr) (m : Str) (sp : Sp) : Prop where
  ex : ∃ (f : Addr) (fd : FuncData) (ps : List Str), Cls K C ∧ Meth K C m f ∧ FnOk P w K mg base CX k f fd ps sp ∧ Binds K fd ps []
structure Mak (P : Program) (w : World) (K : PySem.W.Frag) (mg : Str → Option Value) (base : Heap) (CX : CXT) (k : Nat) (x : Str) (C : Addr) (sp : Sp) : Prop where
  ex : ∃ (f : Addr) (fd : FuncData) (ps : List Str), Mk K C f ∧ FnOk P w K mg base CX k f fd ps sp ∧ mg x = some (.ref C) ∧ Binds K fd ps []
section
variable {X : Cx} {CX : CXT} {E : XK} {k j : Nat} {C : Addr} {x m : Str} {sp : Sp} {p pos apos : Pos} {e o : Expr} {es : List Expr} {ta : TE} {t : TA}
theorem e_call (c : Cal X.prog X.w X.K X.mg X.base CX k x sp) (hr : Room j X.A) (hk : k ≤ j) (hx : Passes CX X E) (hg : Gl X x) (ha : PA X (e :: es) t)
    (hdb : (x == ("__debug__" : Str)) = false := by decide) (he : starEach (e :: es) X.env = (false, eval e X.env) :: starEach es X.env := by rfl) (hpl : (backTo pos (starEach es X.env)).any (·.1) = false := by rfl) :
    PE X (.Call (.Name x p) (e :: es) [] pos) (tCall sp [] E t) := by
  obtain ⟨f, fd, ps, F, hm, kp, b⟩ := c.ex
  exact pe_call F (hr.mono hk) hg hm kp b .nil hx ha hdb he hpl
theorem e_call0 (c : Cal X.prog X.w X.K X.mg X.base CX k x sp) (hr : Room j X.A) (hk : k ≤ j) (hx : Passes CX X E) (hg : Gl X x) (hdb : (x == ("__debug__" : Str)) = false := by decide) :
    PE X (.Call (.Name x p) [] [] pos) (tCall sp [] E tNil) := by
  obtain ⟨f, fd, ps, F, hm, kp, b⟩ := c.ex
  exact pe_call0 F (hr.mono hk) hg hm kp b .nil hx hdb
theorem e_make (c : Mak X.prog X.w X.K X.mg X.base CX k x C sp) (hr : Room j X.A) (hk : k + 1 ≤ j) (hx : Passes CX X E) (hg : Gl X x) (ha : PA X (e :: es) t)
    (hdb : (x == ("__debug__" : Str)) = false := by decide) (he : starEach (e :: es) X.env = (false, eval e X.env) :: starEach es X.env := by rfl) (hpl : (backTo pos (starEach es X.env)).any (·.1) = false := by rfl) :
    PE X (.Call (.Name x p) (e :: es) [] pos) (tMake C sp [] E t) := by
  obtain ⟨f, fd, ps, M, F, hm, b⟩ := c.ex
  exact pe_make M F (hr.mono hk) hg hm b .nil hx ha hdb he hpl
theorem e_make0 (c : Mak X.prog X.w X.K X.mg X.base CX k x C sp) (hr : Room j X.A) (hk : k + 1 ≤ j) (hx : Passes CX X E) (hg : Gl X x) (hdb : (x == ("__debug__" : Str)) = false := by decide) :
    PE X (.Call (.Name x p) [] [] pos) (tMake C sp [] E tNil) := by
  obtain ⟨f, fd, ps, M, F, hm, b⟩ := c.ex
  exact pe_make0 M F (hr.mono hk) hg hm b .nil hx hdb
theorem e_meth {pl : Sem Bool} (c : Met X.prog X.w X.K X.mg X.base CX k C m sp) (hr : Room j X.A) (hk : k ≤ j) (hx : Passes CX X E) (he : PE X o ta) (ha : PA X (e :: es) t)
    (h1 : starEach (e :: es) X.env = (false, eval e X.env) :: starEach es X.env := by rfl) (h2 : (backTo pos (starEach es X.env)).any (·.1) = false := by rfl)
    (h3 : eval (.Call (.Attribute o m apos) (e :: es) [] pos) X.env = (do let ov ← eval o X.env; standAt apos.atName; let (f, first) ← holding [ov] (getMethod ov m pl)
                                                                          callWith pos f first (backTo pos (starEach (e :: es) X.env)) (backToKw pos (keywordEach [] X.env))) := by rfl) :
    PE X (.Call (.Attribute o m apos) (e :: es) [] pos) (tMeth C m sp [] E ta t) := by
  obtain ⟨f, fd, ps, hc, hm, F, b⟩ := c.ex
  exact pe_meth (pl := pl) he hc hm F (hr.mono hk) b .nil hx ha h1 h2 h3
theorem e_meth0 {pl : Sem Bool} (c : Met X.prog X.w X.K X.mg X.base CX k C m sp) (hr : Room j X.A) (hk : k ≤ j) (hx : Passes CX X E) (he : PE X o ta)
    (h3 : eval (.Call (.Attribute o m apos) [] [] pos) X.env = (do let ov ← eval o X.env; standAt apos.atName; let (f, first) ← holding [ov] (getMethod ov m pl)
                                                                   callWith pos f first (backTo pos (starEach [] X.env)) (backToKw pos (keywordEach [] X.env))) := by rfl) :
    PE X (.Call (.Attribute o m apos) [] [] pos) (tMeth C m sp [] E ta tNil) := by
  obtain ⟨f, fd, ps, hc, hm, F, b⟩ := c.ex
  exact pe_meth0 (pl := pl) he hc hm F (hr.mono hk) b .nil hx h3
end
end Hm

/-! F3: readings, one lemma a head. -/
namespace Hm
open PySem L2

/-! ### heaps -/
/-- what stood stands, but for the cells of M -/
def Keep (M : Addr → Prop) (H H' : Hp) : Prop := ∀ a o, ¬ M a → H a = some o → H' a = some o
abbrev Nil : Addr → Prop := fun _ => False
theorem Keep.refl {M : Addr → Prop} {H : Hp} : Keep M H H := fun _ _ _ h => h
theorem Keep.trans {M : Addr → Prop} {H H1 H2 : Hp} (a : Keep M H H1) (b : Keep M H1 H2) : Keep M H H2 := fun c o n h => b c o n (a c o n h)
theorem Keep.mono {M N : Addr → Prop} {H H' : Hp} (k : Keep M H H') (s : ∀ a, M a → N a) : Keep N H H' := fun a o n h => k a o (fun z => n (s a z)) h
theorem Keep.weak {M : Addr → Prop} {H H' : Hp} (k : Keep Nil H H') : Keep M H H' := k.mono fun _ z => z.elim
theorem Keep.new {M : Addr → Prop} {H H' : Hp} {p : Addr} {o : HO} (k : Keep M H H') (hp : H' p = none) : Keep M H (upd H' p o) := fun a u n h => by
  rw [upd_ne (ne_of_none (k a u n h) hp)]; exact k a u n h
theorem Keep.alloc {M : Addr → Prop} {H : Hp} {p : Addr} {o : HO} (hp : H p = none) : Keep M H (upd H p o) := Keep.refl.new hp
theorem Keep.set {M : Addr → Prop} {H H' : Hp} {p : Addr} {o : HO} (k : Keep M H H') (hp : M p) : Keep M H (upd H' p o) := fun a u n h => by
  rw [upd_ne (fun z => n (by rw [z]; exact hp))]; exact k a u n h
/-- a cell that was new at the start may be forgotten -/
theorem Keep.hide {M : Addr → Prop} {H H' : Hp} {l : Addr} (k : Keep (fun a => M a ∨ a = l) H H') (hl : H l = none) : Keep M H H' := fun a o n h =>
  k a o (fun z => z.elim n fun e => by rw [e, hl] at h; cases h) h
theorem Keep.setN {M : Addr → Prop} {H H' : Hp} {p : Addr} {o : HO} (k : Keep M H H') (hp : H p = none) : Keep M H (upd H' p o) := fun a u n h => by
  rw [upd_ne (fun z => by rw [z, hp] at h; cases h)]; exact k a u n h
theorem Keep.get {M : Addr → Prop} {H H' : Hp} {a : Addr} {o : HO} (k : Keep M H H') (n : ¬ M a) (h : H a = some o) : H' a = some o := k a o n h
theorem is_upd {H : Hp} {p a : Addr} {o : HO} {v : Option HO} (e : upd H p o a = v) : upd H p o a = v := e
theorem upd_at {H : Hp} {p : Addr} {o o' : HO} (e : o = o') : upd H p o p = some o' := by rw [upd_same, e]
theorem get_new {H : Hp} {a p : Addr} {o u : HO} (hp : H p = none) (h : H a = some o) : upd H p u a = some o := by rw [upd_ne (ne_of_none h hp)]; exact h
theorem get_set {H : Hp} {a p : Addr} {o u : HO} (n : a ≠ p) (h : H a = some o) : upd H p u a = some o := by rw [upd_ne n]; exact h
theorem get_setK {H : Hp} {a p : Addr} {o u u0 : HO} (hp : H p = some u0) (h : H a = some o) (d : o ≠ u0) : upd H p u a = some o := get_set (ne_of h hp d) h
theorem ne_old {H : Hp} {a p : Addr} {o : HO} (hp : H p = none) (h : H a = some o) : a ≠ p := ne_of_none h hp
theorem ne_new {H : Hp} {a p : Addr} {o : HO} (hp : H p = none) (h : H a = some o) : p ≠ a := (ne_of_none h hp).symm
theorem none_of_upd {H : Hp} {a p : Addr} {o : HO} (h : upd H p o a = none) : H a = none := by
  unfold upd at h; split at h
  · cases h
  · exact h
theorem none_ne {H : Hp} {a p : Addr} {o : HO} (h : upd H p o a = none) : a ≠ p := fun z => by rw [z, upd_same] at h; cases h
theorem none_ne' {H : Hp} {a p : Addr} {o : HO} (h : upd H p o a = none) : p ≠ a := (none_ne h).symm

theorem seq_keep {K : PySem.W.Frag} {H H' : Hp} {a : Addr} {xs : List V} (k : Keep Nil H H') (h : SqL K H a xs) : SqL K H' a xs := Same.seq (fun b o e => k b o (fun z => z) e) h
theorem seq_new {K : PySem.W.Frag} {H : Hp} {a p : Addr} {o : HO} {xs : List V} (hp : H p = none) (h : SqL K H a xs) : SqL K (upd H p o) a xs := seq_keep (Keep.alloc hp) h
theorem keep_none {H H' : Hp} {p : Addr} (k : Keep Nil H H') (h : H' p = none) : H p = none := by
  cases e : H p with
  | none => rfl
  | some o => rw [k p o (fun z => z) e] at h; cases h
section
variable {P : Program} {w : World} {K : PySem.W.Frag} {σ : St} {H : Hp} {Q : VK} {D : Ends} {C : Addr} {E : XK} {sp : Sp} {f m : Str}
variable {t u tb : TS} {te ta td tv : TE} {tt : TT} {tr : TA} {g : TG} {i j : Nat} {v x y : V} {r : R2}

/-! ### constants of the text -/
theorem gint {mg : Str → Option Value} {x : Str} {i : Int} (h : ∃ t, mg x = some (.int i t)) : ∃ u, mg x = some u ∧ RelV (.int i) u := by
  obtain ⟨t, e⟩ := h
  exact ⟨_, e, t, rfl⟩
theorem gstr {mg : Str → Option Value} {x z : Str} (h : ∃ t, mg x = some (.str z t)) : ∃ u, mg x = some u ∧ RelV (.str z) u := by
  obtain ⟨t, e⟩ := h
  exact ⟨_, e, t, rfl⟩
/-! ### statements -/
theorem absQ {S : Hp → Prop} {v : V} (h : S H) (k : ∀ HT, S HT → Q v HT) : Q v H := k H h
theorem absS {S : Hp → Prop} (h : S H) (k : ∀ HT, S HT → t D σ HT) : t D σ H := k H h

theorem absT {S : Hp → Prop} {R : Bool → Hp → Prop} (h : S H) (k : ∀ HT, S HT → tt σ HT R) : tt σ H R := k H h
theorem absE {S : Hp → Prop} (h : S H) (k : ∀ HT, S HT → te σ HT Q) : te σ H Q := k H h
theorem r_seq (h : t { D with nx := u D } σ H) : tSeq t u D σ H := h
theorem r_nx {n b c : L2.St → Hp → Prop} {rt : VK} (h : n σ H) : (Ends.mk n rt b c).nx σ H := h
theorem r_rt {n b c : L2.St → Hp → Prop} {rt : VK} (h : rt v H) : (Ends.mk n rt b c).rt v H := h
theorem r_bk {n b c : L2.St → Hp → Prop} {rt : VK} (h : b σ H) : (Ends.mk n rt b c).bk σ H := h
theorem r_ct {n b c : L2.St → Hp → Prop} {rt : VK} (h : c σ H) : (Ends.mk n rt b c).ct σ H := h
theorem r_next (h : D.nx σ H) : tNext D σ H := h
theorem r_asg (h : te σ H fun x H1 => g x σ H1 D.nx) : tAsg te g D σ H := h
theorem r_gname {Q : St → Hp → Prop} (h : Q (σ.set i (some v)) H) : gName i v σ H Q := h
theorem r_drop (h : te σ H fun _ H1 => D.nx σ H1) : tDrop te D σ H := h
theorem r_ret (h : te σ H D.rt) : tRet te D σ H := h
theorem r_if (h : tt σ H fun b H1 => if b = true then t D σ H1 else u D σ H1) : tIfS tt t u D σ H := h
theorem r_brk (h : D.bk σ H) : tBreak D σ H := h
theorem r_cont (h : D.ct σ H) : tCont D σ H := h
theorem r_par {tas : TA} (h : tas σ H fun vs H1 => ∃ v w, vs = [v, w] ∧ D.nx ((σ.set i (some v)).set j (some w)) H1) : tPar i j tas D σ H := h
theorem r_par2 {v w : V} {R : V → V → Prop} (h : R v w) : ∃ v' w', [v, w] = [v', w'] ∧ R v' w' := ⟨v, w, rfl, h⟩
/-! ### tests -/
def kB (x : V) (R : Bool → Prop) : Prop := ∃ k, x = .bl k ∧ R k
theorem r_test {R : Bool → Hp → Prop} (h : te σ H fun x H' => kB x fun k => R k H') : tTest te σ H R := h
theorem r_kB {b : Bool} {R : Bool → Prop} (h : R b) : kB (.bl b) R := ⟨b, rfl, h⟩
theorem r_and {t1 t2 : TT} {R : Bool → Hp → Prop} (h : t1 σ H fun c H1 => if c = true then t2 σ H1 R else R false H1) : tAnd t1 t2 σ H R := h
theorem r_or {t1 t2 : TT} {R : Bool → Hp → Prop} (h : t1 σ H fun c H1 => if c = true then R true H1 else t2 σ H1 R) : tOr t1 t2 σ H R := h
theorem r_not {t1 : TT} {R : Bool → Hp → Prop} (h : t1 σ H fun c H1 => R (!c) H1) : tNot t1 σ H R := h
theorem r_tru {R : Bool → Hp → Prop} (h : te σ H fun x H' => ∃ k, TruV K x H' k ∧ R k H') : tTru K te σ H R := h
theorem r_tru_bl {b : Bool} {R : Bool → Prop} (h : R b) : ∃ k, TruV K (.bl b) H k ∧ R k := ⟨b, rfl, h⟩
theorem r_ite_tt {A B : Prop} (h : A) : if true = true then A else B := by rw [if_pos rfl]; exact h
theorem r_ite_ff {A B : Prop} (h : B) : if false = true then A else B := by rw [if_neg Bool.false_ne_true]; exact h
theorem r_ite {p A B : Prop} [Decidable p] (h1 : p → A) (h2 : ¬ p → B) : if decide p = true then A else B := by
  by_cases h : p
  · rw [if_pos (decide_eq_true h)]; exact h1 h
  · rw [if_neg (by simp [h])]; exact h2 h
theorem r_iteT' {p A B : Prop} [Decidable p] (c : p) (h : A) : if decide p = true then A else B := by rw [if_pos (decide_eq_true c)]; exact h
theorem r_iteF' {p A B : Prop} [Decidable p] (c : ¬ p) (h : B) : if decide p = true then A else B := by rw [if_neg (by simp [c])]; exact h
theorem r_iteNT' {p A B : Prop} [Decidable p] (c : ¬ p) (h : A) : if (!decide p) = true then A else B := by rw [if_pos (by simp [c])]; exact h
theorem r_iteNF' {p A B : Prop} [Decidable p] (c : p) (h : B) : if (!decide p) = true then A else B := by rw [if_neg (by simp [c])]; exact h
theorem r_ite_nt {A B : Prop} (h : B) : if (!true) = true then A else B := by rw [if_neg (by simp)]; exact h
theorem r_ite_nf {A B : Prop} (h : A) : if (!false) = true then A else B := by rw [if_pos (by simp)]; exact h
theorem r_iteN {p A B : Prop} [Decidable p] (h1 : ¬ p → A) (h2 : p → B) : if (!decide p) = true then A else B := by
  by_cases h : p
  · rw [if_neg (by simp [h])]; exact h2 h
  · rw [if_pos (by simp [h])]; exact h1 h
theorem r_iteB {b : Bool} {A B : Prop} (h1 : b = true → A) (h2 : b = false → B) : if b = true then A else B := by
  cases b
  · exact r_ite_ff (h2 rfl)
  · exact r_ite_tt (h1 rfl)
theorem r_iteNB {b : Bool} {A B : Prop} (h1 : b = false → A) (h2 : b = true → B) : if (!b) = true then A else B := by
  cases b
  · exact r_ite_tt (h1 rfl)
  · exact r_ite_ff (h2 rfl)
theorem r_ite_if {b : Bool} {A B : Prop} (hb : b = true) (h : A) : if b = true then A else B := by rw [if_pos hb]; exact h
theorem r_ite_else {b : Bool} {A B : Prop} (hb : b = false) (h : B) : if b = true then A else B := by rw [hb, if_neg Bool.false_ne_true]; exact h
/-! ### values -/
theorem r_var (h : σ[i]? = some (some v)) (k : Q v H) : tVar i σ H Q := ⟨v, h, k⟩
theorem r_c (k : Q v H) : tC v σ H Q := k
theorem r_op (k : ta σ H fun x H1 => te σ H1 fun y H2 => r x y H2 Q) : tOp r ta te σ H Q := k
theorem r_un {q : V → Hp → VK → Prop} (k : ta σ H fun x H1 => q x H1 Q) : tUn q ta σ H Q := k
theorem r_rU {gI : Int → V} {z : Int} (k : Q (gI z) H) : rU gI (.int z) H Q := ⟨z, rfl, k⟩
theorem r_nil {R : List V → Hp → Prop} (k : R [] H) : tNil σ H R := k
theorem r_cons {R : List V → Hp → Prop} (k : te σ H fun x H1 => tr σ H1 fun xs H2 => R (x :: xs) H2) : tCons te tr σ H R := k
theorem r_cb {q : List V → Hp → VK → Prop} (k : tr σ H fun vs H1 => q vs H1 Q) : tCB q tr σ H Q := k
theorem r_call (k : tr σ H fun vs H1 => sp vs H1 Q E) : tCall sp [] E tr σ H Q := by
  have e : (fun vs H1 => sp (vs ++ []) H1 Q E) = fun vs H1 => sp vs H1 Q E := by funext vs H1; rw [List.append_nil]
  show tr σ H fun vs H1 => sp (vs ++ []) H1 Q E
  rw [e]; exact k
def kMeth (C : Addr) (m : Str) (sp : Sp) (E : XK) (tr : TA) (σ : St) (x : V) (H : Hp) (Q : VK) : Prop := ∃ a dx fs, x = .ref a ∧ H a = some (.ins C dx fs) ∧ fs.lookup m = none ∧ tr σ H fun vs H2 => sp (x :: vs) H2 Q E
theorem r_meth (k : ta σ H fun x H1 => kMeth C m sp E tr σ x H1 Q) : tMeth C m sp [] E ta tr σ H Q := by
  have e : ∀ x, (fun vs H1 => sp (x :: (vs ++ [])) H1 Q E) = fun vs H1 => sp (x :: vs) H1 Q E := fun x => by funext vs H1; rw [List.append_nil]
  show ta σ H fun x H1 => ∃ a dx fs, x = .ref a ∧ H1 a = some (.ins C dx fs) ∧ fs.lookup m = none ∧ tr σ H1 fun vs H2 => sp (x :: (vs ++ [])) H2 Q E
  simp only [e]; exact k
theorem r_kmeth {a dx : Addr} {fs : List (Str × V)} (h : H a = some (.ins C dx fs)) (l : fs.lookup m = none) (k : tr σ H fun vs H2 => sp (.ref a :: vs) H2 Q E) : kMeth C m sp E tr σ (.ref a) H Q := ⟨a, dx, fs, rfl, h, l, k⟩
theorem r_make (k : tr σ H fun vs H1 => ∀ x dx, H1 x = none → H1 dx = none → dx ≠ x → sp (.ref x :: vs) (upd (upd H1 dx (.own x)) x (.ins C dx [])) (fun v H2 => v = .non ∧ Q (.ref x) H2) E) : tMake C sp [] E tr σ H Q := by
  have e : ∀ (x : Addr) (S : VK), (fun vs H1 => sp (.ref x :: (vs ++ [])) H1 S E) = fun vs H1 => sp (.ref x :: vs) H1 S E := fun x S => by funext vs H1; rw [List.append_nil]
  show tr σ H fun vs H1 => ∀ x dx, H1 x = none → H1 dx = none → dx ≠ x → sp (.ref x :: (vs ++ [])) (upd (upd H1 dx (.own x)) x (.ins C dx [])) (fun v H2 => v = .non ∧ Q (.ref x) H2) E
  simp only [List.append_nil]; exact k
def kFld (K : PySem.W.Frag) (f : Str) (x : V) (H : Hp) (Q : VK) : Prop := ∃ a C dx fs v, x = .ref a ∧ H a = some (.ins C dx fs) ∧ Cls K C ∧ NoAttr K C f ∧ fs.lookup f = some v ∧ Q v H
theorem r_fld (k : ta σ H fun x H1 => kFld K f x H1 Q) : tFld K ta f σ H Q := k
theorem r_kfld {a dx : Addr} {fs : List (Str × V)} (h : H a = some (.ins C dx fs)) (c : Cls K C) (n : NoAttr K C f) (l : fs.lookup f = some v) (k : Q v H) : kFld K f (.ref a) H Q := ⟨a, C, dx, fs, v, rfl, h, c, n, l, k⟩
def kSFld (K : PySem.W.Frag) (f : Str) (x y : V) (H : Hp) (R : Hp → Prop) : Prop := ∃ a C dx fs, x = .ref a ∧ H a = some (.ins C dx fs) ∧ Cls K C ∧ NoAttr K C f ∧ fs.length < 1000 ∧ R (upd H a (.ins C dx (putF f y fs)))
theorem r_sfld (k : tv σ H fun y H1 => ta σ H1 fun x H2 => kSFld K f x y H2 fun H3 => D.nx σ H3) : sFld K ta tv f D σ H := k
theorem r_ksfld {a dx : Addr} {fs : List (Str × V)} {R : Hp → Prop} (h : H a = some (.ins C dx fs)) (c : Cls K C) (n : NoAttr K C f) (l : fs.length < 1000) (k : R (upd H a (.ins C dx (putF f y fs)))) : kSFld K f (.ref a) y H R := ⟨a, C, dx, fs, rfl, h, c, n, l, k⟩
def kTup (xs : List V) (H : Hp) (Q : VK) : Prop := xs.length ≤ sizeLine ∧ ∀ p, H p = none → Q (.ref p) (upd H p (.tup xs))
def kLst (xs : List V) (H : Hp) (Q : VK) : Prop := xs.length ≤ sizeLine ∧ ∀ p, H p = none → Q (.ref p) (upd H p (.lst xs))
theorem r_tup (k : tr σ H fun xs H1 => kTup xs H1 Q) : tTup tr σ H Q := k
theorem r_lst (k : tr σ H fun xs H1 => kLst xs H1 Q) : tLst tr σ H Q := k
theorem few {n : Nat} (h : n ≤ 100) : n ≤ sizeLine := by rw [sizeLine_eq]; omega
theorem few1 {n : Nat} (h : n ≤ 100000) : n < sizeLine := by rw [sizeLine_eq]; omega
theorem few2 {n : Nat} (h : n ≤ 100000) : n ≤ sizeLine := by rw [sizeLine_eq]; omega
theorem r_ktup {xs : List V} (l : xs.length ≤ 100) (k : ∀ p, H p = none → Q (.ref p) (upd H p (.tup xs))) : kTup xs H Q := ⟨few l, k⟩
theorem r_klst {xs : List V} (l : xs.length ≤ 100) (k : ∀ p, H p = none → Q (.ref p) (upd H p (.lst xs))) : kLst xs H Q := ⟨few l, k⟩
theorem r_sl {q : V → Option Int → Option Int → Hp → VK → Prop} {tl th : TO} (k : te σ H fun x H1 => tl σ H1 fun l H2 => th σ H2 fun u H3 => q x l u H3 Q) : tSl q te tl th σ H Q := k
theorem r_nopart {R : Option Int → Hp → Prop} (k : R none H) : tNoPart σ H R := k
def kI (x : V) (R : Int → Prop) : Prop := ∃ i, x = .int i ∧ R i
theorem r_part {R : Option Int → Hp → Prop} (k : te σ H fun x H1 => kI x fun i => R (some i) H1) : tPart te σ H R := k
theorem r_kI {z : Int} {R : Int → Prop} (h : R z) : kI (.int z) R := ⟨z, rfl, h⟩
def kBM (K : PySem.W.Frag) (T : String) (q : V → List V → Hp → VK → Prop) (tr : TA) (σ : St) (x : V) (H : Hp) (Q : VK) : Prop := tyV K T x H ∧ tr σ H fun xs H2 => q x xs H2 Q
theorem r_bm {T : String} {q : V → List V → Hp → VK → Prop} (k : ta σ H fun x H1 => kBM K T q tr σ x H1 Q) : tBM K T q ta tr σ H Q := k
theorem r_bm0 {T : String} {q : V → List V → Hp → VK → Prop} (k : ta σ H fun x H1 => kBM K T q tNil σ x H1 Q) : tBM0 K T q ta σ H Q := k
theorem r_kbm_l {q : V → List V → Hp → VK → Prop} {l : Addr} {xs : List V} (h : H l = some (.lst xs)) (k : tr σ H fun xs H2 => q (.ref l) xs H2 Q) : kBM K "list" q tr σ (.ref l) H Q := ⟨.inl ⟨rfl, xs, SqL.of h⟩, k⟩
theorem r_revL {l : Addr} {xs : List V} (k : te σ H fun x H1 => x = .ref l ∧ H1 l = some (.lst xs) ∧ ∀ p, H1 p = none → Q (.ref p) (upd H1 p (.lst xs.reverse))) (mono : ∀ S S' : VK, (∀ x H, S x H → S' x H) → te σ H S → te σ H S') : tRevL K te σ H Q :=
  mono _ _ (fun x H1 h => ⟨l, xs, h.1, SqL.of h.2.1, h.2.2⟩) k
def kRev (K : PySem.W.Frag) (x : V) (H : Hp) (Q : VK) : Prop := ∃ a xs, x = .ref a ∧ SqL K H a xs ∧ ∀ p, H p = none → Q (.ref p) (upd H p (.lst xs.reverse))
theorem r_rev (k : te σ H fun x H1 => kRev K x H1 Q) : tRevL K te σ H Q := k
theorem r_krev {l : Addr} {xs : List V} (h : H l = some (.lst xs)) (k : ∀ p, H p = none → Q (.ref p) (upd H p (.lst xs.reverse))) : kRev K (.ref l) H Q := ⟨l, xs, rfl, SqL.of h, k⟩
def kNotV (x : V) (R : Bool → Prop) : Prop := kB x R
theorem r_notV (k : ta σ H fun x H1 => kB x fun b => Q (.bl (!b)) H1) : tNotV ta σ H Q := k
theorem r_andV (k : ta σ H fun x H1 => kB x fun b => if b = true then te σ H1 Q else Q (.bl false) H1) : tAndV ta te σ H Q := k
theorem r_orV (k : ta σ H fun x H1 => kB x fun b => if b = true then Q (.bl true) H1 else te σ H1 Q) : tOrV ta te σ H Q := k
theorem r_chain {r' : R2} {tc : TE} (k : ta σ H fun x H1 => te σ H1 fun y H2 => r x y H2 fun z H3 => kB z fun b => if b = true then tc σ H3 fun w' H4 => r' y w' H4 Q else Q (.bl false) H3) : tChain r r' ta te tc σ H Q := k
theorem r_gsub {tsv : TSet} {R : St → Hp → Prop} (k : ta σ H fun o H1 => te σ H1 fun i H2 => tsv o i v H2 fun H3 => R σ H3) : gSub ta te tsv v σ H R := k
/-! ### operators by values -/
variable {a b : Int} {l l' p q : Addr} {xs zs : List V}
theorem v_add (k : Q (.int (a + b)) H) : bAdd K (.int a) (.int b) H Q := .inl ⟨a, b, rfl, rfl, k⟩
theorem v_addL (h1 : H l = some (.lst xs)) (h2 : H l' = some (.lst zs)) (n : xs.length + zs.length ≤ sizeLine) (k : ∀ p, H p = none → Q (.ref p) (upd H p (.lst (xs ++ zs)))) : bAdd K (.ref l) (.ref l') H Q := .inr (.inl ⟨l, l', xs, zs, rfl, rfl, h1, h2, n, k⟩)
theorem v_addS {s z : Str} (n : s.length + z.length ≤ sizeLine) (k : Q (.str (s ++ z)) H) : bAdd K (.str s) (.str z) H Q := .inr (.inr (.inl ⟨s, z, rfl, rfl, n, k⟩))
theorem v_addT (h1 : H l = some (.tup xs)) (h2 : H l' = some (.tup zs)) (n : xs.length + zs.length ≤ sizeLine) (k : ∀ p H', H' p = some (.tup (xs ++ zs)) → Keep Nil H H' → Q (.ref p) H') : bAdd K (.ref l) (.ref l') H Q := by
  refine .inr (.inr (.inr ⟨l, l', xs, zs, rfl, rfl, SqT.of h1, SqT.of h2, n, fun e => ?_, fun _ e => ?_, fun _ _ p hp => k p _ upd_same (Keep.alloc hp)⟩))
  · subst e; exact k l' H (by simpa using h2) Keep.refl
  · subst e; exact k l H (by simpa using h1) Keep.refl
theorem v_sub (k : Q (.int (a - b)) H) : bSub (.int a) (.int b) H Q := ⟨a, b, rfl, rfl, k⟩
theorem v_mul (n : -(2 ^ 64) < a ∧ a < 2 ^ 64) (k : Q (.int (a * b)) H) : bMul (.int a) (.int b) H Q := .inl ⟨a, b, rfl, rfl, .inl n, k⟩
theorem v_mulR (n : -(2 ^ 64) < b ∧ b < 2 ^ 64) (k : Q (.int (a * b)) H) : bMul (.int a) (.int b) H Q := .inl ⟨a, b, rfl, rfl, .inr n, k⟩
theorem v_mulW (n : CMulW a b) (k : Q (.int (a * b)) H) : bMul (.int a) (.int b) H Q := .inr (.inl ⟨a, b, rfl, rfl, n, k⟩)
theorem v_mulL (h : H l = some (.lst xs)) (n : -(2 ^ 63) ≤ a ∧ a < 2 ^ 63 ∧ xs.length * a.toNat ≤ sizeLine) (k : ∀ p, H p = none → Q (.ref p) (upd H p (.lst (List.replicate a.toNat xs).flatten))) : bMul (.ref l) (.int a) H Q :=
  .inr (.inr ⟨l, a, xs, rfl, rfl, h, n.1, n.2.1, n.2.2, k⟩)
theorem v_mod (n : 0 < b) (k : Q (.int (a % b)) H) : bMod (.int a) (.int b) H Q := ⟨a, b, rfl, rfl, n, k⟩
theorem v_div (n : 0 < b ∧ b < 1073741824) (k : Q (.int (a / b)) H) : bDiv (.int a) (.int b) H Q := .inl ⟨a, b, rfl, rfl, n, k⟩
theorem v_divW (n : CDivW a b) (k : Q (.int (a / b)) H) : bDiv (.int a) (.int b) H Q := .inr ⟨a, b, rfl, rfl, n, k⟩
theorem v_pow (n : CPow a b) (k : Q (.int (a ^ b.toNat)) H) : bPow (.int a) (.int b) H Q := ⟨a, b, rfl, rfl, n, k⟩
theorem v_eq (k : Q (.bl (decide (a = b))) H) : cEq K (.int a) (.int b) H Q := .inl ⟨rfl, by
  have e : decide (V.int a = V.int b) = decide (a = b) := by
    by_cases h : a = b
    · subst h; simp
    · rw [decide_eq_false h, decide_eq_false (fun z => h (V.int.inj z))]
  rw [e]; exact k⟩
theorem v_eqS {s z : Str} (k : Q (.bl (decide (s = z))) H) : cEq K (.str s) (.str z) H Q := .inl ⟨rfl, by
  have e : decide (V.str s = V.str z) = decide (s = z) := by
    by_cases h : s = z
    · subst h; simp
    · rw [decide_eq_false h, decide_eq_false (fun z => h (V.str.inj z))]
  rw [e]; exact k⟩
theorem v_ne (k : Q (.bl (!decide (a = b))) H) : cNe K (.int a) (.int b) H Q := .inl ⟨rfl, by
  have e : decide (V.int a = V.int b) = decide (a = b) := by
    by_cases h : a = b
    · subst h; simp
    · rw [decide_eq_false h, decide_eq_false (fun z => h (V.int.inj z))]
  rw [e]; exact k⟩
theorem v_neS {s z : Str} (k : Q (.bl (!decide (s = z))) H) : cNe K (.str s) (.str z) H Q := .inl ⟨rfl, by
  have e : decide (V.str s = V.str z) = decide (s = z) := by
    by_cases h : s = z
    · subst h; simp
    · rw [decide_eq_false h, decide_eq_false (fun z => h (V.str.inj z))]
  rw [e]; exact k⟩
theorem v_eqD {d e : PyData} (h1 : Dp K H x d) (h2 : Dp K H y e) (s1 : SeqAt.shaped d = true) (s2 : SeqAt.shaped e = true) (k : Q (.bl (PyData.eqv d e)) H) : cEq K x y H Q := .inr ⟨d, e, h1, h2, s1, s2, k⟩
theorem v_neD {d e : PyData} (h1 : Dp K H x d) (h2 : Dp K H y e) (s1 : SeqAt.shaped d = true) (s2 : SeqAt.shaped e = true) (k : Q (.bl (!PyData.eqv d e)) H) : cNe K x y H Q := .inr ⟨d, e, h1, h2, s1, s2, k⟩
theorem v_lt (k : Q (.bl (decide (a < b))) H) : cLt K (.int a) (.int b) H Q := .inl ⟨a, b, rfl, rfl, k⟩
theorem v_le (k : Q (.bl (decide (a ≤ b))) H) : cLe (.int a) (.int b) H Q := ⟨a, b, rfl, rfl, k⟩
theorem v_gt (k : Q (.bl (decide (b < a))) H) : cGt (.int a) (.int b) H Q := ⟨a, b, rfl, rfl, k⟩
theorem v_ge (k : Q (.bl (decide (b ≤ a))) H) : cGe (.int a) (.int b) H Q := ⟨a, b, rfl, rfl, k⟩
theorem v_isN (k : Q (.bl (decide (x = .non))) H) : cIs x .non H Q := .inl ⟨rfl, k⟩
theorem v_notN (k : Q (.bl (!decide (x = .non))) H) : cIsNot x .non H Q := .inl ⟨rfl, k⟩
theorem v_isB {c d : Bool} (k : Q (.bl (decide (c = d))) H) : cIs (.bl c) (.bl d) H Q := .inr ⟨c, d, rfl, rfl, k⟩
theorem v_notB {c d : Bool} (k : Q (.bl (!decide (c = d))) H) : cIsNot (.bl c) (.bl d) H Q := .inr ⟨c, d, rfl, rfl, k⟩
theorem v_ixL (h : H l = some (.lst xs)) (n : atI xs a = some v) (k : Q v H) : bIx P w K (.ref l) (.int a) H Q := .inl ⟨l, xs, a, v, rfl, rfl, SqL.of h, n, k⟩
theorem v_ixK (h : SqL K H l xs) (n : atI xs a = some v) (k : Q v H) : bIx P w K (.ref l) (.int a) H Q := .inl ⟨l, xs, a, v, rfl, rfl, h, n, k⟩
theorem v_ixT (h : H l = some (.tup xs)) (n : atI xs a = some v) (k : Q v H) : bIx P w K (.ref l) (.int a) H Q := .inr (.inl ⟨l, xs, a, v, rfl, rfl, SqT.of h, n, k⟩)
theorem v_setL {R : Hp → Prop} {jj : Nat} (h : H l = some (.lst xs)) (n : ixN xs.length a = some jj) (k : R (upd H l (.lst (xs.set jj v)))) : bSet P w (.ref l) (.int a) v H R := .inl ⟨l, xs, a, jj, rfl, rfl, h, n, k⟩
theorem v_lenL (h : H l = some (.lst xs)) (k : Q (.int xs.length) H) : kLen K [.ref l] H Q := .inl ⟨.ref l, xs.length, rfl, .inl ⟨xs, SqL.of h, rfl⟩, k⟩
theorem v_lenK (h : SqL K H l xs) (k : Q (.int xs.length) H) : kLen K [.ref l] H Q := .inl ⟨.ref l, xs.length, rfl, .inl ⟨xs, h, rfl⟩, k⟩
theorem v_lenT (h : H l = some (.tup xs)) (k : Q (.int xs.length) H) : kLen K [.ref l] H Q := .inl ⟨.ref l, xs.length, rfl, .inr ⟨xs, SqT.of h, rfl⟩, k⟩
theorem v_int (k : Q (.int a) H) : kInt [.int a] H Q := .inl ⟨a, rfl, k⟩
theorem v_intB {c : Bool} (k : Q (.int (if c then 1 else 0)) H) : kInt [.bl c] H Q := .inr ⟨c, rfl, k⟩
theorem v_max (k : Q (.int (if b > a then b else a)) H) : kMax K [.int a, .int b] H Q := .inl ⟨a, b, rfl, k⟩
theorem v_min (k : Q (.int (if b < a then b else a)) H) : kMin K [.int a, .int b] H Q := .inl ⟨a, b, rfl, k⟩
theorem v_maxL {ns : List Int} (h : H l = some (.lst (ns.map V.int))) (n : 0 < ns.length) (k : ∀ m, m ∈ ns → (∀ y, y ∈ ns → y ≤ m) → Q (.int m) H) : kMax K [.ref l] H Q := .inr ⟨l, ns, rfl, SqL.of h, n, k⟩
theorem v_abs (k : Q (.int (if a < 0 then -a else a)) H) : kAbs [.int a] H Q := ⟨a, rfl, k⟩
theorem v_listL (h : H l = some (.lst xs)) (k : ∀ p, H p = none → Q (.ref p) (upd H p (.lst xs))) : kList K [.ref l] H Q := .inl ⟨l, xs, rfl, .inl (SqL.of h), k⟩
theorem v_listT (h : H l = some (.tup xs)) (k : ∀ p, H p = none → Q (.ref p) (upd H p (.lst xs))) : kList K [.ref l] H Q := .inl ⟨l, xs, rfl, .inr (SqT.of h), k⟩
theorem v_tupleL (h : H l = some (.lst xs)) (k : ∀ p, H p = none → Q (.ref p) (upd H p (.tup xs))) : kTuple K [.ref l] H Q := ⟨l, xs, rfl, .inl ⟨SqL.of h, k⟩⟩
theorem v_sortedL {ns : List Int} (h : H l = some (.lst (ns.map V.int))) (k : ∀ (ns' : List Int) (p : Addr), ns'.Perm ns → ns'.Pairwise (· ≤ ·) → H p = none → Q (.ref p) (upd H p (.lst (ns'.map V.int)))) : kSorted K w [.ref l] H Q := .inl ⟨l, ns, rfl, SqL.of h, k⟩
theorem v_sortedS {S : Int → Bool} {n : Nat} (h : H l = some (SetO w l S n)) (k : ∀ (ns : List Int) (p : Addr), ns.Pairwise (· < ·) → (∀ z : Int, z ∈ ns ↔ S z = true) → ns.length = n → H p = none → Q (.ref p) (upd H p (.lst (ns.map V.int)))) : kSorted K w [.ref l] H Q := .inr (.inl ⟨l, S, n, rfl, h, k⟩)
theorem v_sortedT {ns : List Int} (h : H l = some (.tup (ns.map V.int))) (k : ∀ (ns' : List Int) (p : Addr), ns'.Perm ns → ns'.Pairwise (· ≤ ·) → H p = none → Q (.ref p) (upd H p (.lst (ns'.map V.int)))) : kSorted K w [.ref l] H Q := .inr (.inr (.inl ⟨l, ns, rfl, SqT.of h, k⟩))
theorem v_sortedD {kvs : List (L2.Key × V)} {ks : List Int} (h : H l = some (.dK kvs)) (e : kvs.map (·.1) = ks.map Sum.inl) (k : ∀ (ns' : List Int) (p : Addr), ns'.Perm ks → ns'.Pairwise (· ≤ ·) → H p = none → Q (.ref p) (upd H p (.lst (ns'.map V.int)))) : kSorted K w [.ref l] H Q := .inr (.inr (.inr ⟨l, kvs, ks, rfl, h, e, k⟩))
theorem v_set {ns : List Int} (h : H l = some (.lst (ns.map V.int))) (n : ns.length ≤ 4000) (k : ∀ (p : Addr) (c : Nat), H p = none → c ≤ ns.length → Q (.ref p) (upd H p (SetO w p (fun j => decide (j ∈ ns)) c))) : uSetI K w [.ref l] H Q := ⟨l, ns, rfl, SqL.of h, n, k⟩
theorem v_append (h : H l = some (.lst xs)) (n : xs.length < sizeLine) (k : Q .non (upd H l (.lst (xs ++ [v])))) : rAppend (.ref l) [v] H Q := ⟨l, xs, v, rfl, rfl, h, n, k⟩
theorem v_clear (h : H l = some (.lst xs)) (k : Q .non (upd H l (.lst []))) : rClear (.ref l) [] H Q := ⟨l, xs, rfl, rfl, h, k⟩
theorem v_insert (h : H l = some (.lst xs)) (n : xs.length < sizeLine) (z : 0 ≤ a ∧ a < 2 ^ 63) (k : Q .non (upd H l (.lst (xs.take a.toNat ++ [v] ++ xs.drop a.toNat)))) : kInsert (.ref l) [.int a, v] H Q := ⟨l, xs, a, v, rfl, rfl, h, n, z.1, z.2, k⟩
theorem v_slL {lo hi : Option Int} (h : H l = some (.lst xs)) (k : ∀ p, H p = none → Q (.ref p) (upd H p (.lst (cutV xs lo hi)))) : bSl K (.ref l) lo hi H Q := .inl ⟨l, xs, rfl, SqL.of h, k⟩
theorem v_isi {t u : Value} {c : V} {b : Bool} (c1 : ClsV c u) (c2 : TyX K H x t) (e : PySem.W.kitOne K t u = some b) (k : Q (.bl b) H) : rIsi K [x, c] H Q := ⟨x, c, t, u, b, rfl, c1, c2, e, k⟩
theorem v_isiI {n : String} {b : Bool} (e : kitB "int" n = some b) (k : Q (.bl b) H) : rIsi K [.int a, .ty n] H Q := v_isi (.ty n) (.base (.int _)) (kit_ty e) k
theorem v_isiB {n : String} {c b : Bool} (e : kitB "bool" n = some b) (k : Q (.bl b) H) : rIsi K [.bl c, .ty n] H Q := v_isi (.ty n) (.base (.bl _)) (kit_ty e) k
theorem v_isiL {n : String} {b : Bool} (h : H l = some (.lst xs)) (e : kitB "list" n = some b) (k : Q (.bl b) H) : rIsi K [.ref l, .ty n] H Q := v_isi (.ty n) (.base (.lst h)) (kit_ty e) k
theorem v_isiT {n : String} {b : Bool} (h : H l = some (.tup xs)) (e : kitB "tuple" n = some b) (k : Q (.bl b) H) : rIsi K [.ref l, .ty n] H Q := v_isi (.ty n) (.base (.tup h)) (kit_ty e) k
theorem v_isiS {n : String} {s : Str} {b : Bool} (e : kitB "str" n = some b) (k : Q (.bl b) H) : rIsi K [.str s, .ty n] H Q := v_isi (.ty n) (.base (.str _)) (kit_ty e) k
theorem kit_int_int : kitB "int" "int" = some true := by decide +kernel
theorem kit_int_bool : kitB "int" "bool" = some false := by decide +kernel
theorem kit_int_list : kitB "int" "list" = some false := by decide +kernel
theorem kit_int_tuple : kitB "int" "tuple" = some false := by decide +kernel
theorem kit_int_str : kitB "int" "str" = some false := by decide +kernel
theorem kit_bool_int : kitB "bool" "int" = some true := by decide +kernel
theorem kit_bool_bool : kitB "bool" "bool" = some true := by decide +kernel
theorem kit_bool_list : kitB "bool" "list" = some false := by decide +kernel
theorem kit_bool_tuple : kitB "bool" "tuple" = some false := by decide +kernel
theorem kit_bool_str : kitB "bool" "str" = some false := by decide +kernel
theorem kit_list_int : kitB "list" "int" = some false := by decide +kernel
theorem kit_list_bool : kitB "list" "bool" = some false := by decide +kernel
theorem kit_list_list : kitB "list" "list" = some true := by decide +kernel
theorem kit_list_tuple : kitB "list" "tuple" = some false := by decide +kernel
theorem kit_list_str : kitB "list" "str" = some false := by decide +kernel
theorem kit_tuple_int : kitB "tuple" "int" = some false := by decide +kernel
theorem kit_tuple_bool : kitB "tuple" "bool" = some false := by decide +kernel
theorem kit_tuple_list : kitB "tuple" "list" = some false := by decide +kernel
theorem kit_tuple_tuple : kitB "tuple" "tuple" = some true := by decide +kernel
theorem kit_tuple_str : kitB "tuple" "str" = some false := by decide +kernel
theorem kit_str_int : kitB "str" "int" = some false := by decide +kernel
theorem kit_str_bool : kitB "str" "bool" = some false := by decide +kernel
theorem kit_str_list : kitB "str" "list" = some false := by decide +kernel
theorem kit_str_tuple : kitB "str" "tuple" = some false := by decide +kernel
theorem kit_str_str : kitB "str" "str" = some true := by decide +kernel
theorem kit_NoneType_int : kitB "NoneType" "int" = some false := by decide +kernel
theorem kit_NoneType_bool : kitB "NoneType" "bool" = some false := by decide +kernel
theorem kit_NoneType_list : kitB "NoneType" "list" = some false := by decide +kernel
theorem kit_NoneType_tuple : kitB "NoneType" "tuple" = some false := by decide +kernel
theorem kit_NoneType_str : kitB "NoneType" "str" = some false := by decide +kernel
theorem kit_dict_int : kitB "dict" "int" = some false := by decide +kernel
theorem kit_dict_bool : kitB "dict" "bool" = some false := by decide +kernel
theorem kit_dict_list : kitB "dict" "list" = some false := by decide +kernel
theorem kit_dict_tuple : kitB "dict" "tuple" = some false := by decide +kernel
theorem kit_dict_str : kitB "dict" "str" = some false := by decide +kernel
/-! ### loops -/
def kFor (J : It) (g : TG) (tb : TS) (D : Ends) (σ : St) (H : Hp) : Prop := ∃ W : Nat → Nat → St → Hp → Prop, (∃ m, W 0 m σ H) ∧ ∀ i m σ H, W i m σ H →
  (J.stop i H ∧ D.nx σ H) ∨ (J.go i H ∧ ∃ N : St → Hp → Prop, (∀ σ' H', N σ' H' → ∃ m', m' < m ∧ W (i + 1) m' σ' H') ∧ ∀ x H', J.yld i H x H' → g x σ H' fun σ2 H2 => tb { D with nx := N, ct := N, bk := D.nx } σ2 H2)
theorem r_for {wi : TI} (k : wi σ H fun J H1 => kFor J g tb D σ H1) : tFor wi g tb D σ H := k
def kRng1 (vs : List V) (H : Hp) (R : It → Hp → Prop) : Prop := ∃ j : Int, vs = [.int j] ∧ -(2 ^ 62) ≤ j ∧ j < 2 ^ 62 ∧ R (Itr 0 j.toNat) H
theorem r_rng1 {R : It → Hp → Prop} (k : tr σ H fun vs H1 => kRng1 vs H1 R) : iRng1 tr σ H R := k
theorem r_krng1 {R : It → Hp → Prop} (n : -(2 ^ 62) ≤ a ∧ a < 2 ^ 62) (k : R (Itr 0 a.toNat) H) : kRng1 [.int a] H R := ⟨a, rfl, n.1, n.2, k⟩
theorem r_iany {R : It → Hp → Prop} (k : te σ H fun x H1 => kIter K x H1 R) : iAny K te σ H R := k
theorem r_kiterL {R : It → Hp → Prop} (h : H l = some (.lst xs)) (k : R (Itl K l) H) : kIter K (.ref l) H R := .inl ⟨l, rfl, ⟨xs, SqL.of h⟩, k⟩
theorem r_kiterT {R : It → Hp → Prop} (h : H l = some (.tup xs)) (k : R (Itt K l) H) : kIter K (.ref l) H R := .inr (.inl ⟨l, rfl, ⟨xs, SqT.of h⟩, k⟩)
def kLc (J : It) (g : TG) (tt : TT) (te : TE) (vs : List Nat) (σ : St) (H1 : Hp) (Q : VK) : Prop := ∀ D, H1 D = none → ∃ W : Nat → Nat → Hp → Prop, (∃ m, W 0 m (upd H1 D (.lst []))) ∧ ∀ i m H, W i m H →
  (J.stop i H ∧ Q (.ref D) H) ∨ (J.go i H ∧ ∃ Nx : Hp → Prop, (∀ H', Nx H' → ∃ m', m' < m ∧ W (i + 1) m' H') ∧ ∀ x H', J.yld i H x H' → g x (wipe σ vs) H' fun σ2 H2 => wipe σ2 vs = wipe σ vs ∧ tt σ2 H2 fun b H3 =>
    if b = true then te σ2 H3 fun y H4 => ∃ acc, H4 D = some (.lst acc) ∧ acc.length < sizeLine ∧ Nx (upd H4 D (.lst (acc ++ [y]))) else Nx H3)
theorem r_lc {wi : TI} {vs : List Nat} (k : wi σ H fun J H1 => kLc J g tt te vs σ H1 Q) : tLc wi g tt te vs σ H Q := k
def kRg (x : V) (H : Hp) (R : Int → Int → Hp → Prop) : Prop := ∃ n, x = .int n ∧ R 0 n H
theorem r_lstRg1 (k : te σ H fun x H1 => kRg x H1 fun c d H2 => RgOk c d ∧ ∀ q, H2 q = none → Q (.ref q) (upd H2 q (.lst (rgV c d)))) : tLstRg (tRg1 te) σ H Q := k
theorem r_krg {R : Int → Int → Hp → Prop} (k : R 0 a H) : kRg (.int a) H R := ⟨a, rfl, k⟩
theorem absF {J : It} {S : Hp → Prop} (h : S H) (k : ∀ HT, S HT → kFor J g tb D σ HT) : kFor J g tb D σ H := k H h
theorem r_yes {R : Bool → Hp → Prop} (k : R true H) : tYes σ H R := k
theorem r_seqT {n : Nat} {ts : TGs} {R : St → Hp → Prop} (h : H l = some (.tup xs)) (e : xs.length = n) (k : ts xs σ H R) : gSeq K n ts (.ref l) σ H R := .inl ⟨l, xs, rfl, SqT.of h, e, k⟩
theorem r_seqL {n : Nat} {ts : TGs} {R : St → Hp → Prop} (h : H l = some (.lst xs)) (e : xs.length = n) (k : ts xs σ H R) : gSeq K n ts (.ref l) σ H R := .inr ⟨l, xs, rfl, SqL.of h, e, k⟩
theorem r_gcons {ts : TGs} {R : St → Hp → Prop} (k : g v σ H fun σ' H' => ts xs σ' H' R) : gCons g ts (v :: xs) σ H R := ⟨v, xs, rfl, k⟩
theorem r_gnil {R : St → Hp → Prop} (k : R σ H) : gNil [] σ H R := ⟨rfl, k⟩
end
end Hm

/-! F4: a caught error held as a value behind its suite; isinstance of it. -/
namespace Hm
open PySem PySem.Spec PyProof.Rows L2
/-- an error of the class cls at a -/
def ExV (cls : Value) (a : Addr) : HO := .ext fun h => ∃ (oe : Obj) (vs : Array Value), h.get? a = some oe ∧ Zc cls none oe ∧ oe.data = .fields vs
theorem exV_ok {P : Program} {w : World} {H : Hp} {h : Heap} {a : Addr} {cls : Value} {oe : Obj} {vs : Array Value} (e : h.get? a = some oe) (z : Zc cls none oe) (d : oe.data = .fields vs) : ObjOk P w H h a (ExV cls a) :=
  ⟨⟨oe, vs, e, z, d⟩, ⟨oe, e⟩, fun _ _ ⟨o, v, q, r⟩ k => ⟨o, v, k o q, r⟩⟩
section
variable {X : Cx} {pins : List (Addr × Obj)} {σ : L2.St} {H : Hp} {s : Shared}
/-- an object of ours, not told of yet, is told of -/
theorem show_ {a : Addr} {φ : Heap → Prop} (I : Inv X pins σ H s) (ha : H a = none) (h0 : X.s_0.heap.get? a = none) (hL : X.env.locals ≠ a) (hc : ∀ x c, X.env.cells.lookup x = some c → c ≠ a) (hp : ∀ p ∈ X.pn ++ pins, p.1 ≠ a)
    (new : ObjOk X.prog X.w (upd H a (.ext φ)) s.heap a (.ext φ)) : Inv X pins σ (upd H a (.ext φ)) s := by
  have old : ∀ b o, H b = some o → upd H a (.ext φ) b = some o := fun b o e => by rw [upd_ne (ne_of_none e ha)]; exact e
  refine ⟨I.ok, I.os, I.bare, ⟨I.base.keep, I.base.slot, fun b o e n hx => ?_, I.base.there, fun b xs e => old _ _ (I.base.tups b xs e), fun b o u e => old _ _ (I.base.frzs b o u e), fun b ps e => ?_⟩, I.loc, I.cell, ?_, fun x c e => ?_, fun p hpp => ?_, fun b u e => ?_, I.len⟩
  · rw [upd_ne (fun z => by rw [z, h0] at e; cases e)]
    exact I.base.free b o e n hx
  · obtain ⟨more, q⟩ := I.base.tbls b ps e
    exact ⟨more, old _ _ q⟩
  · rw [upd_ne hL]; exact I.free
  · rw [upd_ne (hc x c e)]; exact I.freeC x c e
  · obtain ⟨q1, q2, q3⟩ := I.pin p hpp
    exact ⟨q1, by rw [upd_ne (hp p hpp)]; exact q2, q3⟩
  · by_cases hb : b = a
    · subst hb
      rw [upd_same] at e
      cases e
      exact new
    · rw [upd_ne hb] at e
      exact (I.hok b u e).stay (fun _ _ _ q => q) (fun c q => old _ _ q) fun c xs q => old _ _ q
end
/-- what a clause «except c as n» wishes, the error kept: slot i is n's -/
def wVal (K : PySem.W.Frag) (c : Value) (i : Nat) (ts : Addr → Value → TS) (Wout : WX) (D : Ends) : WX := fun cls d σ H =>
  d = none ∧ ∃ b, PySem.W.exmOne K cls c = some b ∧
    (b = true → ∀ a, H a = none → ts a cls { nx := fun σ' H' => D.nx (σ'.set i none) (upd H' a (ExV cls a)), rt := D.rt, bk := fun _ _ => False, ct := fun _ _ => False } (σ.set i (some (.ref a))) H) ∧ (b = false → Wout cls d σ H)
section
variable {X : Cx} {x n : Str} {c : Value} {i : Nat} {body suite : List Stmt} {b₀ : Stmt} {np pos pos' : Pos} {tb : WX → TS} {ts : Addr → Value → TS} {Wout : WX}
/-- try: body, except x as n: suite; what is caught stays an object that is known -/
theorem ps_try_val (hs : X.stack = X.env :: X.outer) (hf : X.env.frame = some X.env.locals) (hN : X.N.Nodup) (hi : X.N[i]? = some n) (hln : X.env.kindOf n = some .local) (hc : Names X x c) (tk : Takes X Wout) (hex : X.ex = [])
    (hb : ∀ (W : WX) (pn : List (Addr × Obj)) (xe : Value → Shared → Prop), Takes (X.tr pn xe) W → PassesOwn (model X.prog X.w) X.A X.env xe → PSs (X.tr pn xe) body (tb W))
    (hsu : ∀ (a : Addr) (oe : Obj) (cls : Value) (pn : List (Addr × Obj)), PSs (X.suite a ((a, oe) :: pn)) (b₀ :: suite) (ts a cls)) :
    PS X (.Try body [.ExceptHandler (some (.Name x np)) (some n) (b₀ :: suite) pos'] [] [] pos) (fun D σ H => tb (wVal X.K c i ts Wout D) D σ H) := by
  refine ⟨fun pins s σ H D I h => wpAny_Try_except ?_⟩
  have ok := I.ok
  have hfr : X.A.frames = some (X.env :: X.outer) := by rw [ok.frames, hs]
  have run := (hb (wVal X.K c i ts Wout D) (X.pn ++ pins) (fun e s₁ => wpAny (model X.prog X.w) X.A (noteFrame e X.env) (fun _ s₂ => wpAny (model X.prog X.w) X.A (setFlight e none)
    (fun _ s₃ => wpAny (model X.prog X.w) X.A (handleBy e X.env [.ExceptHandler (some (.Name x np)) (some n) (b₀ :: suite) pos']) (SP X pins D) X.xe s₃) X.xe s₂) X.xe s₁) ?_ PassesOwn.looking).run [] s σ H D (I.toTry _) h
  · refine wpAny_mono run (fun f s1 hsp => ?_) fun _ _ z => z
    cases f with
    | next => obtain ⟨σ', H', J', q⟩ := hsp; exact wpAny_execs_nil ⟨σ', H', J'.ofTry ok, q⟩
    | brk => obtain ⟨σ', H', J', q⟩ := hsp; exact ⟨σ', H', J'.ofTry ok, q⟩
    | cont => obtain ⟨σ', H', J', q⟩ := hsp; exact ⟨σ', H', J'.ofTry ok, q⟩
    | ret u => obtain ⟨v, σ', H', J', r, q⟩ := hsp; exact ⟨v, σ', H', J'.ofTry ok, r, q⟩
  rintro u s' ⟨a, B, sI, pins', σ', H', cls, d, rfl, J', nb, up, sky, na, os, ag, rfl, b, hb1, hyes, hno⟩
  have J : Inv X pins σ' H' sI := J'.ofTry ok
  have air : Sky B (X.env :: X.outer) a (Zc cls none) X.env.locals s'.heap := by rw [← hs]; exact sky
  show wpAny (model X.prog X.w) X.A (noteFrame (.ref a) X.env) _ _ _
  refine Sky.land Zc.steady hfr hf air fun h3 fl3 up3 => ?_
  have J3 : Inv X pins σ' H' { s' with heap := h3 } := J.landed nb fl3.1 (up.trans up3) os ag
  obtain ⟨oe3, vs3, he3, hz3, hd3⟩ := fl3.there
  have aside : a ∉ frs (X.env :: X.outer) := fun hm => by
    obtain ⟨_, o', e', hnf⟩ := fl3.2.2.1.mem hm
    rw [he3] at e'; cases e'
    exact hnf _ hd3
  have gI : sI.heap.get? a = none := by
    cases e : sI.heap.get? a with
    | none => rfl
    | some o =>
      have q := nb a o e (by show a ∉ frs X.stack; rw [hs]; exact aside)
      rw [fl3.2.1] at q; cases q
  have nL : a ≠ X.env.locals := fun z => aside (List.mem_filterMap.mpr ⟨X.env, List.mem_cons_self, by rw [hf, z]⟩)
  have nF : a ∉ X.fs := fun hm => by
    obtain ⟨e, he, q⟩ := List.mem_filterMap.mp hm
    exact aside (List.mem_filterMap.mpr ⟨e, List.mem_cons_of_mem _ he, q⟩)
  have h00 : X.s_0.heap.get? a = none := by
    cases e : X.s_0.heap.get? a with
    | none => rfl
    | some o =>
      obtain ⟨o', q⟩ := J.base.there a o e (by rw [hex]; exact List.not_mem_nil)
      rw [gI] at q; cases q
  have noCell : ∀ y k, X.env.cells.lookup y = some k → k ≠ a := fun y k e z => by
    obtain ⟨v, o, q, _⟩ := J.cell y k e
    rw [z, gI] at q; cases q
  have noPin : ∀ p ∈ X.pn ++ pins, p.1 ≠ a := fun p hp z => by
    have q := (J.pin p hp).1
    rw [z, gI] at q; cases q
  have S3 := J3.suite he3 hd3 na nL nF
  refine wpAny_handleBy_cons (codeAny_handlers_test ?_) (by intro q; cases q)
  have LT : PySem.W.Looks (model X.prog X.w) h3 (typeOf (.ref a)) cls := fun A Q E s k q => wpAny_typeOf_ref (k _ _ he3) (by rw [hz3.1]; exact q)
  have LM := PySem.W.exm_one (M := model X.prog X.w) (J3.kIn) LT hb1
  have test : ∀ {Q : Value → Shared → Prop} {E : Value → Shared → Prop}, Q c { s' with heap := h3 } → wpAny (model X.prog X.w) (X.A.mark (some (.ref a))) (eval (.Name x np) X.env) Q E { s' with heap := h3 } := fun {Q E} q => by
    obtain ⟨hg, hdbg, hm | ⟨hm, hv, hnn⟩⟩ := hc
    · exact ld_glob (X := X.suite a ((a, oe3) :: (X.pn ++ pins))) S3 hg hm q hdbg
    · exact ld_blt (X := X.suite a ((a, oe3) :: (X.pn ++ pins))) S3 hg hm hv q hnn hdbg
  refine test (LM.here ?_)
  cases b with
  | false =>
    show wpAny _ X.A (handleBy (.ref a) X.env []) _ _ _
    refine wpAny_handleBy_nil ?_
    obtain ⟨k1, k2, k3, oe, vs, T, oT, ts', he, hz, hd, h1, hr⟩ := id fl3
    unfold PySem.passOn
    refine wpAny_bind (wpAny_field he hd h1 ?_)
    rw [if_neg (show ¬ ((Value.ref T == Value.none) = true) from by simp)]
    have fin : wpAny (model X.prog X.w) X.A (setFlight (.ref a) X.env.frame) (fun _ s4 => wpAny (model X.prog X.w) X.A (throw (.ref a) : Sem Flow) (SP X pins D) X.xe s4) X.xe { s' with heap := h3 } := by
      rw [hf]
      refine HandSPX.setFlight_upZ fl3 fun h4 hh4 up4 => wpAny_throw (tk _ _ ?_)
      exact ⟨a, B, sI, pins, σ', H', cls, none, rfl, J, nb, (up.trans up3).trans up4, .inr (.inr (by rw [hs]; exact hh4)), na, os, ag, hno rfl⟩
    first
      | exact wpAny_bind (wpAny_pure (wpAny_bind fin))
      | exact wpAny_bind fin
  | true =>
    refine codeAny_handlers_suite_as (HandSPX.lands_againZ fl3 fun h4 fl4 up4 => ?_)
    have J4 : Inv X pins σ' H' { s' with heap := h4 } := J.landed nb fl4.1 ((up.trans up3).trans up4) os ag
    obtain ⟨oe4, vs4, he4, hz4, hd4⟩ := fl4.there
    have S4 := J4.suite he4 hd4 na nL nF
    refine store_ok (X := X.suite a ((a, oe4) :: (X.pn ++ pins))) (v := .ref a) S4 hN hi (.inl hln) rfl (fun s5 S5 => ?_) (.inr hln)
    refine wpAny_mono ((hsu a oe4 cls (X.pn ++ pins)).run [] s5 _ H' _ S5 (hyes rfl a na)) (fun f s6 hsp => ?_) (fun _ _ z => False.elim z)
    cases f with
    | next =>
      obtain ⟨σ6, H6, S6, q6⟩ := hsp
      obtain ⟨e6, n6, _⟩ := S6.pin (a, oe4) (List.mem_append_left _ List.mem_cons_self)
      have J6 : Inv X pins σ6 H6 s6 := S6.unsuite ok
      have J7 := show_ (φ := fun h => ∃ (oe : Obj) (vs : Array Value), h.get? a = some oe ∧ Zc cls none oe ∧ oe.data = .fields vs) J6 n6 h00 nL.symm noCell noPin (exV_ok e6 hz4 hd4)
      exact gone_ok J7 hN hi hln fun s7 J8 => ⟨_, _, J8, q6⟩
    | brk => obtain ⟨σ6, H6, S6, q6⟩ := hsp; exact q6.elim
    | cont => obtain ⟨σ6, H6, S6, q6⟩ := hsp; exact q6.elim
    | ret u =>
      obtain ⟨v6, σ6, H6, S6, r6, q6⟩ := hsp
      exact gone_ok (S6.unsuite ok) hN hi hln fun s7 J7 => ⟨_, _, _, J7, r6, q6⟩
end
/-- isinstance(e, C), e an error that is known -/
def uIsV (K : PySem.W.Frag) : List V → Hp → VK → Prop := fun xs H Q => ∃ (a D : Addr) (c : V) (u : Value) (b : Bool), xs = [.ref a, c] ∧ H a = some (ExV (.ref D) a) ∧ ExcC K D ∧ ClsV c u ∧ PySem.W.kitOne K (.ref D) u = some b ∧ Q (.bl b) H
theorem k_isV {X : Cx} : CallR X (.builtin "isinstance") (uIsV X.K) := by
  intro pins s σ H xs us Q I r h
  obtain ⟨a, D, c, u, b, rfl, ha, C, hc, e, q⟩ := h
  obtain ⟨u1, u2, rfl, r1, r2⟩ := vals2 r
  have e2 := hc.eq r2
  subst e2
  cases r1
  obtain ⟨⟨oe, vs, hg, hz, hv⟩, _⟩ := I.hok a _ ha
  have J : PySem.W.InstAt s.heap a oe D none := by
    obtain ⟨oc, od, oda, osl⟩ := oe
    obtain ⟨h1, h2⟩ := hz
    dsimp only at h1 h2 hv
    subst h1 h2 hv
    exact ⟨hg, rfl, rfl, trivial⟩
  exact PySem.W.kia_one (PySem.W.handS_kitx_exc C.hg C.hk C.hs C.hd C.ha C.hn C.ht C.hm) I.kIn J e (fun z => nomatch z) fun tk => ⟨.bl b, H, I.tok tk, rfl, q⟩
/-! ### defs that raise, called within a try -/
section
variable {X : Cx} {k j : Nat} {C : Addr} {x m : Str} {sp : Sp} {p pos apos : Pos} {e o : Expr} {es : List Expr} {ta : TE} {t : TA} {W : WX}
def tMethS (C : Addr) (m : Str) (sp : Sp) (W : WX) (ta : TE) (t : TA) : TE := fun σ H Q => tMeth C m sp [] (fun cls d H => W cls d σ H) ta t σ H Q
theorem r_methS {σ : L2.St} {H : Hp} {Q : VK} (h : tMeth C m sp [] (fun cls d H => W cls d σ H) ta t σ H Q) : tMethS C m sp W ta t σ H Q := h
def tCallW (sp : Sp) (W : WX) (t : TA) : TE := fun σ H Q => tCall sp [] (fun cls d H => W cls d σ H) t σ H Q
theorem r_callW {σ : L2.St} {H : Hp} {Q : VK} (h : tCall sp [] (fun cls d H => W cls d σ H) t σ H Q) : tCallW sp W t σ H Q := h
theorem e_callS (c : Cal X.prog X.w X.K X.mg X.base (L2.CX X.prog X.w) k x sp) (hr : Room j X.A) (hk : k ≤ j) (tk : Takes X W) (hg : Gl X x) (ha : PA X (e :: es) t)
    (hdb : (x == ("__debug__" : Str)) = false := by decide) (he : starEach (e :: es) X.env = (false, eval e X.env) :: starEach es X.env := by rfl) (hpl : (backTo pos (starEach es X.env)).any (·.1) = false := by rfl) :
    PE X (.Call (.Name x p) (e :: es) [] pos) (tCallW sp W t) := by
  obtain ⟨f, fd, ps, F, hm, kp, b⟩ := c.ex
  refine ⟨fun pins s σ H Q I h => ?_⟩
  refine (pe_callS (E := WE W) F (hr.mono hk) hg hm kp b (fun σ => passAt tk σ) ha hdb he hpl).run pins s σ H Q I ?_
  have h' : t σ H fun vs H1 => sp (vs ++ []) H1 Q (fun cls d H => W cls d σ H) := h
  show t σ H fun vs H1 => sp vs H1 Q (fun cls d H => W cls d σ H)
  simpa only [List.append_nil] using h'
theorem e_methS {pl : Sem Bool} (c : Met X.prog X.w X.K X.mg X.base (L2.CX X.prog X.w) k C m sp) (hr : Room j X.A) (hk : k ≤ j) (tk : Takes X W) (he : PE X o ta) (ha : PA X (e :: es) t)
    (h1 : starEach (e :: es) X.env = (false, eval e X.env) :: starEach es X.env := by rfl) (h2 : (backTo pos (starEach es X.env)).any (·.1) = false := by rfl)
    (h3 : eval (.Call (.Attribute o m apos) (e :: es) [] pos) X.env = (do let ov ← eval o X.env; standAt apos.atName; let (f, first) ← holding [ov] (getMethod ov m pl)
                                                                          callWith pos f first (backTo pos (starEach (e :: es) X.env)) (backToKw pos (keywordEach [] X.env))) := by rfl) :
    PE X (.Call (.Attribute o m apos) (e :: es) [] pos) (tMethS C m sp W ta t) := by
  obtain ⟨f, fd, ps, hc, hm, F, b⟩ := c.ex
  refine ⟨fun pins s σ H Q I h => PySem.W.methodCall_KW (pl := pl) (thn (he.run pins s σ H _ I h) fun u s1 ⟨y, H1, I1, rx, a, dx, fs, ey, ea, l, q⟩ => ?_) h3⟩
  subst ey
  obtain rfl : u = Value.ref a := rx
  refine getmeth_ok I1 ea hc hm l (PySem.W.callWith_K (first := [.ref a]) (h₀ := X.base) I.ok.mod.kin hm.kp (thn (ha.run pos pins s1 σ H1 _ I1 q) fun us s2 ⟨vs, H2, I2, r, q2⟩ => ⟨I2.kIn, ?_⟩) h1 h2)
  refine run_fnS (E := WE W) (us := .ref a :: us) (vs := .ref a :: vs) F (hr.mono hk) b (fun _ _ _ e s' I c => tk e s' (XE.of_call I (fun _ _ _ h => h) c)) I2 (.cons rfl r) ?_
  have q' : sp (.ref a :: vs ++ []) H2 Q (fun cls d H => W cls d σ H) := q2
  simpa only [List.append_nil] using q'
end
/-! ### raise -/
def tRaiseC (C : Addr) (W : WX) : TS := fun _ σ H => W (.ref C) none σ H
def tRaiseE (C : Addr) (W : WX) (te : TE) : TS := fun _ σ H => te σ H fun _ H1 => W (.ref C) none σ H1
theorem r_raiseC {C : Addr} {W : WX} {D : Ends} {σ : L2.St} {H : Hp} (h : W (.ref C) none σ H) : tRaiseC C W D σ H := h
theorem r_raiseE {C : Addr} {W : WX} {te : TE} {D : Ends} {σ : L2.St} {H : Hp} (h : te σ H fun _ H1 => W (.ref C) none σ H1) : tRaiseE C W te D σ H := h
/-- what stands of a refusal's class -/
structure XCl (K : PySem.W.Frag) (mg : Str → Option Value) (x : Str) (C : Addr) : Prop where
  g : mg x = some (.ref C)
  x : PySem.W.excIn K C [.type "ValueError", .type "Exception", .type "BaseException", .type "object"] "ValueError.__new__" = true
  k : PySem.W.keepIn K (.ref C) = true
  b : PySem.W.subIn K (.ref C) (.type "BaseException") = some true
  t : PySem.W.typeIn K (.ref C) = some (.type "type")
section
variable {X : Cx} {C : Addr} {x m : Str} {p p2 pos pos' : Pos} {jj : Nat} {e : Expr} {ta : TE} {W : WX}
theorem ps_raiseC (hc : X.calm = true) (tk : Takes X W) (c : XCl X.K X.mg x C) (hg : Gl X x) (hdb : (x == ("__debug__" : Str)) = false := by decide) : PS X (.Raise (some (.Call (.Name x p) [.Constant (.str m) jj p2] [] pos)) none pos') (tRaiseC C W) :=
  ps_raise hc tk (pmk_own PySem.F.excBase_ValueError c.x c.g c.k (raises_own c.b c.t) hg hdb)
theorem ps_raiseE (hc : X.calm = true) (tk : Takes X W) (c : XCl X.K X.mg x C) (hg : Gl X x) (he : PE X e ta) (hs : starEach [e] X.env = (false, eval e X.env) :: starEach [] X.env := by rfl) (hdb : (x == ("__debug__" : Str)) = false := by decide) :
    PS X (.Raise (some (.Call (.Name x p) [e] [] pos)) none pos') (tRaiseE C W ta) :=
  ps_raise hc tk (SkE.pmk_own1 PySem.F.excBase_ValueError c.x c.g c.k (raises_own c.b c.t) hg he hs hdb)
end
/-! ### try -/
def tTryV (K : PySem.W.Frag) (c : Value) (i : Nat) (ts : TS) (tb : WX → TS) : TS := fun D σ H => tb (wVal K c i (fun _ _ => ts) (fun _ _ _ _ => False) D) D σ H
theorem r_tryV {K : PySem.W.Frag} {c : Value} {i : Nat} {ts : TS} {tb : WX → TS} {D : Ends} {σ : L2.St} {H : Hp} (h : tb (wVal K c i (fun _ _ => ts) (fun _ _ _ _ => False) D) D σ H) : tTryV K c i ts tb D σ H := h
theorem w_val {K : PySem.W.Frag} {c cls : Value} {i : Nat} {ts : TS} {D : Ends} {σ : L2.St} {H : Hp} (hm : PySem.W.exmOne K cls c = some true)
    (h : ∀ a, H a = none → ts { nx := fun σ' H' => D.nx (σ'.set i none) (upd H' a (ExV cls a)), rt := D.rt, bk := fun _ _ => False, ct := fun _ _ => False } (σ.set i (some (.ref a))) H) : wVal K c i (fun _ _ => ts) (fun _ _ _ _ => False) D cls none σ H :=
  ⟨rfl, true, hm, fun _ a ha => h a ha, fun z => nomatch z⟩
section
variable {X : Cx} {x n : Str} {c : Value} {i : Nat} {body suite : List Stmt} {b₀ : Stmt} {np pos pos' : Pos} {tb : WX → TS} {ts : TS}
theorem ps_tryV (hs : X.stack = X.env :: X.outer) (hf : X.env.frame = some X.env.locals) (hN : X.N.Nodup) (hi : X.N[i]? = some n) (hln : X.env.kindOf n = some .local) (hc : Names X x c) (hex : X.ex = [])
    (hb : ∀ (W : WX) (pn : List (Addr × Obj)) (xe : Value → Shared → Prop), Takes (X.tr pn xe) W → PassesOwn (model X.prog X.w) X.A X.env xe → PSs (X.tr pn xe) body (tb W))
    (hsu : ∀ (a : Addr) (oe : Obj) (pn : List (Addr × Obj)), PSs (X.suite a ((a, oe) :: pn)) (b₀ :: suite) ts) :
    PS X (.Try body [.ExceptHandler (some (.Name x np)) (some n) (b₀ :: suite) pos'] [] [] pos) (tTryV X.K c i ts tb) :=
  ps_try_val (tb := tb) (ts := fun _ _ => ts) hs hf hN hi hln hc takes0 hex (fun W pn xe tk po => hb W pn xe tk po) fun a oe _ pn => hsu a oe pn
end
theorem v_isiN {K : PySem.W.Frag} {H : Hp} {Q : VK} {n : String} {b : Bool} (e : kitB "NoneType" n = some b) (k : Q (.bl b) H) : rIsi K [.non, .ty n] H Q := v_isi (.ty n) (.base .non) (kit_ty e) k
theorem v_isV {K : PySem.W.Frag} {a D : Addr} {c : V} {u : Value} {b : Bool} {H : Hp} {Q : VK} (h : H a = some (ExV (.ref D) a)) (d : ExcC K D) (hc : ClsV c u) (e : PySem.W.kitOne K (.ref D) u = some b) (q : Q (.bl b) H) : uIsV K [.ref a, c] H Q := ⟨a, D, c, u, b, rfl, h, d, hc, e, q⟩
/-! ### list(d.values()), xs.remove(k) -/
/-- a view of the values of the dict at a -/
def ValO (a p : Addr) : HO := .ext fun h => h.IsValuesView p a
def rDVals : V → List V → Hp → VK → Prop := fun x xs H Q => ∃ (a : Addr) (kvs : List (L2.Key × V)), x = .ref a ∧ xs = [] ∧ H a = some (.dK kvs) ∧ ∀ p, H p = none → Q (.ref p) (upd H p (ValO a p))
def rListV : List V → Hp → VK → Prop := fun xs H Q => ∃ (a p : Addr) (kvs : List (L2.Key × V)), xs = [.ref p] ∧ H p = some (ValO a p) ∧ H a = some (.dK kvs) ∧ ∀ q, H q = none → Q (.ref q) (upd H q (.lst (kvs.map (·.2))))
section
variable {X : Cx}
theorem mt_dvals : MtR X "dict.values" rDVals := by
  intro pins s σ H x xs v us Q I rx r h
  obtain ⟨a, kvs, rfl, rfl, ha, q⟩ := h
  obtain rfl : v = Value.ref a := rx
  cases r
  obtain ⟨_, hsys, vs, rel, dof⟩ := dk_of I.hok ha
  obtain ⟨ep, dat⟩ := dof.dictAt
  obtain ⟨ob, es, ho, ex, hdat, hko, hpr, hnd⟩ := id dat
  refine call_meetsIn F.slot_dict_values ⟨ob, ho, ex.1⟩ F.entry_dict_values (F.args_dict_values_1 _) (meets_dict_values (mixKind X.prog X.w) a hsys) ⟨⟨vs, dof⟩, ?_⟩
  exact ⟨.ref s.heap.objs.size, upd H s.heap.objs.size (ValO a s.heap.objs.size), I.laid (t' := s.toks) (fun b u e => Heap.get?_push_of_some _ e) (Nat.le_refl _) ⟨⟨_, Heap.get?_push_size _ rfl, rfl, rfl⟩, ⟨_, Heap.get?_push_size _ rfl⟩, fun _ _ ⟨o, e, z⟩ k => ⟨o, k o e, z⟩⟩, rfl, q _ (I.hok.fresh (Nat.le_refl _))⟩
theorem k_listV (hc : X.calm = true) : CallR X (.type "list") rListV := by
  intro pins s σ H xs us Q I r h
  obtain ⟨a, p, kvs, rfl, hp, ha, q⟩ := h
  obtain ⟨u, rfl, rx⟩ := vals1 r
  obtain rfl : u = Value.ref p := rx
  obtain ⟨view, _⟩ := I.hok p _ hp
  obtain ⟨z, hsys, vs, rel, dof⟩ := dk_of I.hok ha
  obtain ⟨ep, dat⟩ := dof.dictAt
  have hl : kvs.length = vs.length := KV.length rel
  refine PySem.W.kdl_call (PySem.W.kdl_values (knd := mixKind X.prog X.w) (kvs := vs) (ep := ep)) (I.ok.hd hc) ⟨view, dat⟩ (by rw [← hl]; exact z) fun h' tk acc' c' hkeep hS hacc => ?_
  refine ⟨.ref s.heap.objs.size, upd H s.heap.objs.size (.lst (kvs.map (·.2))), I.laid (t' := tk) hkeep (Nat.le_refl _) (show ObjOk X.prog X.w _ _ _ (.lst (kvs.map (·.2))) from ⟨by rw [List.length_map]; exact z, acc'.toList, c', ?_, by rw [Array.toArray_toList]; exact hS⟩), rfl, q _ (I.hok.fresh (Nat.le_refl _))⟩
  have el : acc'.toList.length = acc'.size := by simp
  refine vals_of_at (by rw [List.length_map, el, hacc.1, hl]) fun j x w h1 h2 => ?_
  obtain ⟨k, hk⟩ := hacc.2 j w (by rw [← Array.getElem?_toList]; exact h2)
  obtain ⟨x', e1, e2⟩ := KV.at' rel hk
  rw [List.getElem?_map, e1] at h1
  cases h1
  exact e2
end
theorem v_dvals {a : Addr} {kvs : List (L2.Key × V)} {H : Hp} {Q : VK} (h : H a = some (.dK kvs)) (k : ∀ p, H p = none → Q (.ref p) (upd H p (ValO a p))) : rDVals (.ref a) [] H Q := ⟨a, kvs, rfl, rfl, h, k⟩
theorem r_dvals {K : PySem.W.Frag} {a : Addr} {kvs : List (L2.Key × V)} {H : Hp} {Q : VK} {σ : L2.St} (h : H a = some (.dK kvs)) (k : ∀ p, H p = none → Q (.ref p) (upd H p (ValO a p))) : kBM K "dict" rDVals tNil σ (.ref a) H Q := ⟨.inr (.inr (.inl ⟨rfl, .inl ⟨kvs, h⟩⟩)), v_dvals h k⟩
theorem v_listV {a p : Addr} {kvs : List (L2.Key × V)} {H : Hp} {Q : VK} (h : H p = some (ValO a p)) (h2 : H a = some (.dK kvs)) (k : ∀ q, H q = none → Q (.ref q) (upd H q (.lst (kvs.map (·.2))))) : rListV [.ref p] H Q := ⟨a, p, kvs, rfl, h, h2, k⟩
theorem r_remX {K : PySem.W.Frag} {W : WX} {to te : TE} {σ : L2.St} {H : Hp} {Q : VK} (h : to σ H fun x H1 => tyV K "list" x H1 ∧ te σ H1 fun y H2 => ∃ (l : Addr) (ns : List Int) (k : Int), x = .ref l ∧ y = .int k ∧ H2 l = some (.lst (ns.map V.int)) ∧
  (k ∈ ns → Q .non (upd H2 l (.lst ((ns.erase k).map V.int)))) ∧ (k ∉ ns → ∀ d, W (.type "ValueError") d σ H2)) : tRemX K W to te σ H Q := h
end Hm

/-! F5: values. Rp W H v d: v is the data d, all its objects outside of W. -/
namespace Hm
open PySem PySem.Spec PyProof.Rows L2
mutual
inductive Rp (W : Addr → Prop) (H : Hp) : V → PyData → Prop
  | non : Rp W H .non .none
  | bl (b : Bool) : Rp W H (.bl b) (.bool b)
  | int (i : Int) : Rp W H (.int i) (.int i)
  | str (x : Str) : Rp W H (.str x) (.str x)
  | lst {a : Addr} {xs : List V} {ds : List PyData} : H a = some (.lst xs) → ¬ W a → RpA W H xs ds → Rp W H (.ref a) (.list ds)
  | tup {a : Addr} {xs : List V} {ds : List PyData} : H a = some (.tup xs) → ¬ W a → RpA W H xs ds → Rp W H (.ref a) (.tuple ds)
inductive RpA (W : Addr → Prop) (H : Hp) : List V → List PyData → Prop
  | nil : RpA W H [] []
  | cons {v : V} {vs : List V} {d : PyData} {ds : List PyData} : Rp W H v d → RpA W H vs ds → RpA W H (v :: vs) (d :: ds)
end
section
variable {W W' : Addr → Prop} {H H' : Hp} {K : PySem.W.Frag}
mutual
theorem Rp.move (f : ∀ a o, ¬ W a → H a = some o → H' a = some o ∧ ¬ W' a) : ∀ (d : PyData) (v : V), Rp W H v d → Rp W' H' v d
  | .none, _, h => by cases h; exact .non
  | .bool b, _, h => by cases h; exact .bl b
  | .int i, _, h => by cases h; exact .int i
  | .str x, _, h => by cases h; exact .str x
  | .list ds, _, h => by
    cases h with
    | lst e n r => exact .lst (f _ _ n e).1 (f _ _ n e).2 (RpA.move f ds _ r)
  | .tuple ds, _, h => by
    cases h with
    | tup e n r => exact .tup (f _ _ n e).1 (f _ _ n e).2 (RpA.move f ds _ r)
  | .dict _, _, h => by cases h
theorem RpA.move (f : ∀ a o, ¬ W a → H a = some o → H' a = some o ∧ ¬ W' a) : ∀ (ds : List PyData) (vs : List V), RpA W H vs ds → RpA W' H' vs ds
  | [], _, h => by cases h; exact .nil
  | d :: ds, _, h => by
    cases h with
    | cons r s => exact .cons (Rp.move f d _ r) (RpA.move f ds _ s)
end
mutual
theorem Rp.dp : ∀ (d : PyData) (v : V), Rp W H v d → Dp K H v d
  | .none, _, h => by cases h; exact .non
  | .bool b, _, h => by cases h; exact .bl b
  | .int i, _, h => by cases h; exact .int i
  | .str x, _, h => by cases h; exact .str x
  | .list ds, _, h => by
    cases h with
    | lst e n r => exact .lst (SqL.of e) (RpA.dp ds _ r)
  | .tuple ds, _, h => by
    cases h with
    | tup e n r => exact .tup (SqT.of e) (RpA.dp ds _ r)
  | .dict _, _, h => by cases h
theorem RpA.dp : ∀ (ds : List PyData) (vs : List V), RpA W H vs ds → DpAll K H vs ds
  | [], _, h => by cases h; exact .nil
  | d :: ds, _, h => by
    cases h with
    | cons r s => exact .cons (Rp.dp d _ r) (RpA.dp ds _ s)
end
theorem Rp.keep {v : V} {d : PyData} (h : Rp W H v d) (k : Keep W H H') : Rp W H' v d := Rp.move (fun a o n e => ⟨k a o n e, n⟩) d v h
theorem RpA.keep {v : List V} {d : List PyData} (h : RpA W H v d) (k : Keep W H H') : RpA W H' v d := RpA.move (fun a o n e => ⟨k a o n e, n⟩) d v h
theorem Rp.same {v : V} {d : PyData} (h : Rp W H v d) (k : Keep Nil H H') : Rp W H' v d := h.keep k.weak
theorem RpA.same {v : List V} {d : List PyData} (h : RpA W H v d) (k : Keep Nil H H') : RpA W H' v d := h.keep k.weak
theorem Rp.sub {v : V} {d : PyData} (h : Rp W H v d) (s : ∀ x, W' x → W x) : Rp W' H v d := Rp.move (fun a o n e => ⟨e, fun z => n (s _ z)⟩) d v h
theorem RpA.sub {v : List V} {d : List PyData} (h : RpA W H v d) (s : ∀ x, W' x → W x) : RpA W' H v d := RpA.move (fun a o n e => ⟨e, fun z => n (s _ z)⟩) d v h
/-- a new cell may be marked as one that changes -/
theorem Rp.own {v : V} {d : PyData} {p : Addr} (h : Rp W H v d) (hp : H p = none) : Rp (fun x => W x ∨ x = p) H v d :=
  Rp.move (fun a o n e => ⟨e, fun z => z.elim n (ne_of_none e hp)⟩) d v h
theorem RpA.own {v : List V} {d : List PyData} {p : Addr} (h : RpA W H v d) (hp : H p = none) : RpA (fun x => W x ∨ x = p) H v d :=
  RpA.move (fun a o n e => ⟨e, fun z => z.elim n (ne_of_none e hp)⟩) d v h
/-- W' is W and cells that are new at H -/
theorem Rp.grow {v : V} {d : PyData} (h : Rp W H v d) (s : ∀ x, W' x → W x ∨ H x = none) : Rp W' H v d :=
  Rp.move (fun a o n e => ⟨e, fun z => (s _ z).elim n fun w => by rw [e] at w; cases w⟩) d v h
theorem RpA.grow {v : List V} {d : List PyData} (h : RpA W H v d) (s : ∀ x, W' x → W x ∨ H x = none) : RpA W' H v d :=
  RpA.move (fun a o n e => ⟨e, fun z => (s _ z).elim n fun w => by rw [e] at w; cases w⟩) d v h
theorem Rp.list_ {v : V} {ds : List PyData} (h : Rp W H v (.list ds)) : ∃ a xs, v = .ref a ∧ H a = some (.lst xs) ∧ ¬ W a ∧ RpA W H xs ds := by
  cases h with
  | lst e n r => exact ⟨_, _, rfl, e, n, r⟩
theorem Rp.tuple_ {v : V} {ds : List PyData} (h : Rp W H v (.tuple ds)) : ∃ a xs, v = .ref a ∧ H a = some (.tup xs) ∧ ¬ W a ∧ RpA W H xs ds := by
  cases h with
  | tup e n r => exact ⟨_, _, rfl, e, n, r⟩
theorem Rp.int_ {v : V} {i : Int} (h : Rp W H v (.int i)) : v = .int i := by cases h; rfl
theorem Rp.str_ {v : V} {i : Str} (h : Rp W H v (.str i)) : v = .str i := by cases h; rfl
theorem Rp.bool_ {v : V} {i : Bool} (h : Rp W H v (.bool i)) : v = .bl i := by cases h; rfl
theorem Rp.none_ {v : V} (h : Rp W H v .none) : v = .non := by cases h; rfl
theorem RpA.nil_ {vs : List V} (h : RpA W H vs []) : vs = [] := by cases h; rfl
theorem RpA.cons_ {vs : List V} {d : PyData} {ds : List PyData} (h : RpA W H vs (d :: ds)) : ∃ v r, vs = v :: r ∧ Rp W H v d ∧ RpA W H r ds := by
  cases h with
  | cons r s => exact ⟨_, _, rfl, r, s⟩
theorem Rp.two {v : V} {d e : PyData} (h : Rp W H v (.tuple [d, e])) : ∃ a x y, v = .ref a ∧ H a = some (.tup [x, y]) ∧ ¬ W a ∧ Rp W H x d ∧ Rp W H y e := by
  obtain ⟨a, xs, rfl, e, n, r⟩ := h.tuple_
  obtain ⟨x, _, rfl, r1, r⟩ := r.cons_
  obtain ⟨y, _, rfl, r2, r⟩ := r.cons_
  cases r.nil_
  exact ⟨a, x, y, rfl, e, n, r1, r2⟩
theorem Rp.mk2 {a : Addr} {x y : V} {d e : PyData} (h : H a = some (.tup [x, y])) (n : ¬ W a) (r1 : Rp W H x d) (r2 : Rp W H y e) : Rp W H (.ref a) (.tuple [d, e]) := .tup h n (.cons r1 (.cons r2 .nil))
theorem RpA.len : ∀ {ds : List PyData} {vs : List V}, RpA W H vs ds → vs.length = ds.length
  | [], _, h => by rw [h.nil_]; rfl
  | d :: ds, _, h => by
    obtain ⟨v, r, rfl, _, h⟩ := h.cons_
    rw [List.length_cons, List.length_cons, h.len]
theorem RpA.at_ : ∀ {ds : List PyData} {vs : List V} {i : Nat} {d : PyData}, RpA W H vs ds → ds[i]? = some d → ∃ v, vs[i]? = some v ∧ Rp W H v d
  | [], _, _, _, _, e => by simp at e
  | d :: ds, _, i, x, h, e => by
    obtain ⟨v, r, rfl, h1, h⟩ := h.cons_
    cases i with
    | zero => simp at e; subst e; exact ⟨v, rfl, h1⟩
    | succ i =>
      obtain ⟨w, e1, e2⟩ := h.at_ (i := i) (by simpa using e)
      exact ⟨w, by simpa using e1, e2⟩
theorem RpA.at' {ds : List PyData} {vs : List V} {i : Nat} {v : V} (h : RpA W H vs ds) (e : vs[i]? = some v) : ∃ d, ds[i]? = some d ∧ Rp W H v d := by
  have hi : i < ds.length := by rw [← h.len]; exact (List.getElem?_eq_some_iff.mp e).1
  obtain ⟨w, e1, e2⟩ := h.at_ (List.getElem?_eq_getElem hi)
  rw [e] at e1; cases e1
  exact ⟨_, List.getElem?_eq_getElem hi, e2⟩
theorem RpA.app : ∀ {ds es : List PyData} {vs us : List V}, RpA W H vs ds → RpA W H us es → RpA W H (vs ++ us) (ds ++ es)
  | [], _, _, _, h, k => by rw [h.nil_]; exact k
  | d :: ds, _, _, _, h, k => by
    obtain ⟨v, r, rfl, h1, h⟩ := h.cons_
    exact .cons h1 (h.app k)
theorem RpA.snoc {ds : List PyData} {vs : List V} {v : V} {d : PyData} (h : RpA W H vs ds) (k : Rp W H v d) : RpA W H (vs ++ [v]) (ds ++ [d]) := h.app (.cons k .nil)
theorem RpA.take : ∀ (n : Nat) {ds : List PyData} {vs : List V}, RpA W H vs ds → RpA W H (vs.take n) (ds.take n)
  | 0, _, _, _ => by simp; exact .nil
  | n + 1, [], _, h => by rw [h.nil_]; simp; exact .nil
  | n + 1, d :: ds, _, h => by
    obtain ⟨v, r, rfl, h1, h⟩ := h.cons_
    exact .cons h1 (h.take n)
theorem RpA.drop : ∀ (n : Nat) {ds : List PyData} {vs : List V}, RpA W H vs ds → RpA W H (vs.drop n) (ds.drop n)
  | 0, _, _, h => h
  | n + 1, [], _, h => by rw [h.nil_]; simp; exact .nil
  | n + 1, d :: ds, _, h => by
    obtain ⟨v, r, rfl, h1, h⟩ := h.cons_
    exact h.drop n
theorem RpA.rev : ∀ {ds : List PyData} {vs : List V}, RpA W H vs ds → RpA W H vs.reverse ds.reverse
  | [], _, h => by rw [h.nil_]; exact .nil
  | d :: ds, _, h => by
    obtain ⟨v, r, rfl, h1, h⟩ := h.cons_
    rw [List.reverse_cons, List.reverse_cons]
    exact h.rev.snoc h1
theorem RpA.ints_ : ∀ {l : List Int} {vs : List V}, RpA W H vs (l.map .int) → vs = l.map V.int
  | [], _, h => h.nil_
  | x :: l, _, h => by
    obtain ⟨v, r, rfl, h1, h⟩ := h.cons_
    rw [h1.int_, h.ints_]; rfl
theorem RpA.ints : ∀ (l : List Int), RpA W H (l.map V.int) (l.map .int)
  | [] => .nil
  | x :: l => .cons (.int x) (RpA.ints l)
theorem RpA.strs_ : ∀ {l : List Str} {vs : List V}, RpA W H vs (l.map .str) → vs = l.map V.str
  | [], _, h => h.nil_
  | x :: l, _, h => by
    obtain ⟨v, r, rfl, h1, h⟩ := h.cons_
    rw [h1.str_, h.strs_]; rfl
theorem RpA.strs : ∀ (l : List Str), RpA W H (l.map V.str) (l.map .str)
  | [] => .nil
  | x :: l => .cons (.str x) (RpA.strs l)
end
/-- data of ints -/
abbrev dI (l : List Int) : PyData := .list (l.map PyData.int)
theorem Rp.ints_ {W : Addr → Prop} {H : Hp} {v : V} {l : List Int} (h : Rp W H v (dI l)) : ∃ a, v = .ref a ∧ H a = some (.lst (l.map V.int)) ∧ ¬ W a := by
  obtain ⟨a, xs, rfl, e, n, r⟩ := h.list_
  rw [r.ints_] at e
  exact ⟨a, rfl, e, n⟩
theorem Rp.ints {W : Addr → Prop} {H : Hp} {a : Addr} {l : List Int} (h : H a = some (.lst (l.map V.int))) (n : ¬ W a) : Rp W H (.ref a) (dI l) := .lst h n (RpA.ints l)
/-! ### data that Python tells apart as we do -/
mutual
def pl : PyData → Bool
  | .none => true
  | .int _ => true
  | .str x => (PyData.str x).canLay0
  | .bool _ => false
  | .dict _ => false
  | .list ds => plA ds
  | .tuple ds => plA ds
def plA : List PyData → Bool
  | [] => true
  | d :: ds => pl d && plA ds
end
mutual
theorem eqv_iff : ∀ (d e : PyData), pl d = true → pl e = true → (PyData.eqv d e = true ↔ d = e)
  | .none, e, _, _ => by cases e <;> simp [PyData.eqv]
  | .int i, e, _, h => by cases e <;> simp [PyData.eqv] <;> simp [pl] at h
  | .str i, e, _, _ => by cases e <;> simp [PyData.eqv]
  | .bool _, _, h, _ => by simp [pl] at h
  | .dict _, _, h, _ => by simp [pl] at h
  | .list ds, e, h, k => by
    cases e <;> simp [PyData.eqv]
    exact eqvA_iff ds _ (by simpa [pl] using h) (by simpa [pl] using k)
  | .tuple ds, e, h, k => by
    cases e <;> simp [PyData.eqv]
    exact eqvA_iff ds _ (by simpa [pl] using h) (by simpa [pl] using k)
theorem eqvA_iff : ∀ (ds es : List PyData), plA ds = true → plA es = true → (PyData.eqvAll ds es = true ↔ ds = es)
  | [], es, _, _ => by cases es <;> simp [PyData.eqvAll]
  | d :: ds, es, h, k => by
    cases es with
    | nil => simp [PyData.eqvAll]
    | cons e es =>
      rw [plA, Bool.and_eq_true] at h k
      simp only [PyData.eqvAll, Bool.and_eq_true, List.cons.injEq]
      rw [eqv_iff d e h.1 k.1, eqvA_iff ds es h.2 k.2]
end
theorem plA_mem : ∀ {ds : List PyData}, plA ds = true ↔ ∀ d ∈ ds, pl d = true
  | [] => by simp [plA]
  | d :: ds => by simp [plA, plA_mem (ds := ds)]
theorem plA_map {α : Type} {f : α → PyData} {l : List α} (h : ∀ x, pl (f x) = true) : plA (l.map f) = true := plA_mem.mpr fun d hd => by
  obtain ⟨x, _, rfl⟩ := List.mem_map.mp hd
  exact h x
open Classical in
theorem eqv_dec {d e : PyData} (h : pl d = true) (k : pl e = true) : PyData.eqv d e = decide (d = e) := by
  by_cases z : d = e
  · rw [decide_eq_true z]; exact (eqv_iff d e h k).mpr z
  · rw [decide_eq_false z]
    cases q : PyData.eqv d e with
    | false => rfl
    | true => exact absurd ((eqv_iff d e h k).mp q) z
theorem eqv_inj {α : Type} [DecidableEq α] {f : α → PyData} (hp : ∀ x, pl (f x) = true) (inj : ∀ x y, f x = f y → x = y) (a b : α) : PyData.eqv (f a) (f b) = decide (a = b) := by
  by_cases z : a = b
  · subst z; rw [decide_eq_true rfl]; exact (eqv_iff _ _ (hp _) (hp _)).mpr rfl
  · rw [decide_eq_false z]
    cases q : PyData.eqv (f a) (f b) with
    | false => rfl
    | true => exact absurd (inj _ _ ((eqv_iff _ _ (hp _) (hp _)).mp q)) z
mutual
theorem lay_pl : ∀ d : PyData, pl d = true → d.canLay0 = true
  | .none, _ => rfl
  | .int _, _ => rfl
  | .str _, h => by simpa [pl] using h
  | .bool _, h => by simp [pl] at h
  | .dict _, h => by simp [pl] at h
  | .list ds, h => by simp only [PyData.canLay0]; exact layA_pl ds (by simpa [pl] using h)
  | .tuple ds, h => by simp only [PyData.canLay0]; exact layA_pl ds (by simpa [pl] using h)
theorem layA_pl : ∀ ds : List PyData, plA ds = true → PyData.canLayAll0 ds = true
  | [], _ => by simp [PyData.canLayAll0]
  | d :: ds, h => by
    rw [plA, Bool.and_eq_true] at h
    simp [PyData.canLayAll0, lay_pl d h.1, layA_pl ds h.2]
end
theorem sh_pl {d : PyData} (h : pl d = true) (k : d.depth ≤ 64) : SeqAt.shaped d = true := by
  show (d.canLay0 && decide (d.depth ≤ 64)) = true
  rw [Bool.and_eq_true]
  exact ⟨lay_pl d h, decide_eq_true k⟩
theorem depthA_le {n : Nat} : ∀ {ds : List PyData}, (∀ d ∈ ds, d.depth ≤ n) → PyData.depthAll ds ≤ n
  | [], _ => by simp [PyData.depthAll]
  | d :: ds, h => by
    have h1 := h d List.mem_cons_self
    have h2 := depthA_le fun x hx => h x (List.mem_cons_of_mem _ hx)
    simp only [PyData.depthAll]; omega
theorem depth_list {n : Nat} {ds : List PyData} (h : ∀ d ∈ ds, d.depth ≤ n) : (PyData.list ds).depth ≤ n + 1 := by
  have := depthA_le h
  simp only [PyData.depth]; omega
theorem depth_tup {n : Nat} {ds : List PyData} (h : ∀ d ∈ ds, d.depth ≤ n) : (PyData.tuple ds).depth ≤ n + 1 := by
  have := depthA_le h
  simp only [PyData.depth]; omega
theorem depth_ints (l : List Int) : (PyData.list (l.map PyData.int)).depth ≤ 64 := by
  have := depth_list (n := 1) (ds := l.map PyData.int) fun d hd => by
    obtain ⟨x, _, rfl⟩ := List.mem_map.mp hd
    simp [PyData.depth]
  omega
theorem pl_ints (l : List Int) : pl (.list (l.map PyData.int)) = true := by
  show plA _ = true
  exact plA_map fun x => rfl
theorem sh_ints (l : List Int) : SeqAt.shaped (.list (l.map PyData.int)) = true := sh_pl (pl_ints l) (depth_ints l)
/-! ### what is new is none of what changes -/
def Al (W : Addr → Prop) (H : Hp) : Prop := ∀ x, H x = none → ¬ W x
theorem Al.same {W : Addr → Prop} {H H' : Hp} (a : Al W H) (k : Keep Nil H H') : Al W H' := fun x hx => a x (keep_none k hx)
theorem Al.nil {H : Hp} : Al Nil H := fun _ _ z => z
theorem Al.or {W V : Addr → Prop} {H : Hp} (a : Al W H) (b : Al V H) : Al (fun x => W x ∨ V x) H := fun x hx z => z.elim (a x hx) (b x hx)
theorem Al.one {W : Addr → Prop} {H : Hp} {p : Addr} {o : HO} (a : Al W H) (h : H p = some o) : Al (fun x => W x ∨ x = p) H := fun x hx z => z.elim (a x hx) fun e => by rw [e, h] at hx; cases hx
section
variable {W : Addr → Prop} {H : Hp} {K : PySem.W.Frag} {P : Program} {w : World} {Q : VK} {x y : V} {d e : PyData}
theorem v_addV {ds es : List PyData} (al : Al W H) (h1 : Rp W H x (.list ds)) (h2 : Rp W H y (.list es)) (few : ds.length + es.length ≤ 100000) (k : ∀ (p : Addr) (H' : Hp), Keep Nil H H' → Rp W H' (.ref p) (.list (ds ++ es)) → Q (.ref p) H') : bAdd K x y H Q := by
  obtain ⟨a, xs, rfl, e1, n1, r1⟩ := h1.list_
  obtain ⟨b, ys, rfl, e2, n2, r2⟩ := h2.list_
  refine v_addL e1 e2 (few2 (by rw [r1.len, r2.len]; exact few)) fun p hp => k p _ (Keep.alloc hp) ?_
  have kk : Keep Nil H (upd H p (.lst (xs ++ ys))) := Keep.alloc hp
  exact .lst upd_same (al p hp) ((r1.same kk).app (r2.same kk))
theorem v_eqV (h1 : Rp W H x d) (h2 : Rp W H y e) (s1 : SeqAt.shaped d = true) (s2 : SeqAt.shaped e = true) (k : Q (.bl (PyData.eqv d e)) H) : cEq K x y H Q := .inr ⟨d, e, Rp.dp _ _ h1, Rp.dp _ _ h2, s1, s2, k⟩
theorem v_neV (h1 : Rp W H x d) (h2 : Rp W H y e) (s1 : SeqAt.shaped d = true) (s2 : SeqAt.shaped e = true) (k : Q (.bl (!PyData.eqv d e)) H) : cNe K x y H Q := .inr ⟨d, e, Rp.dp _ _ h1, Rp.dp _ _ h2, s1, s2, k⟩
theorem v_inV {ds : List PyData} (h1 : Rp W H x d) (h2 : Rp W H y (.list ds)) (s1 : SeqAt.shaped d = true) (s2 : SeqAt.shaped (.list ds) = true) (k : Q (.bl (ds.any fun z => PyData.eqv z d)) H) : cIn P w K x y H Q := .inr (.inl ⟨d, ds, Rp.dp _ _ h1, Rp.dp _ _ h2, s1, s2, k⟩)
theorem v_ninV {ds : List PyData} (h1 : Rp W H x d) (h2 : Rp W H y (.list ds)) (s1 : SeqAt.shaped d = true) (s2 : SeqAt.shaped (.list ds) = true) (k : Q (.bl (!ds.any fun z => PyData.eqv z d)) H) : cNotIn P w K x y H Q := .inr (.inl ⟨d, ds, Rp.dp _ _ h1, Rp.dp _ _ h2, s1, s2, k⟩)
end
/-! ### len(set(..)) -/
def kLenS (w : World) : List V → Hp → VK → Prop := fun xs H Q => ∃ (a : Addr) (S : Int → Bool) (n : Nat), xs = [.ref a] ∧ H a = some (SetO w a S n) ∧ ∀ es : List Int, es.Nodup → (∀ z : Int, S z = true ↔ z ∈ es) → es.length = n → Q (.int n) H
theorem k_lenS {X : Cx} : CallR X (.builtin "len") (kLenS X.w) := by
  intro pins s σ H xs us Q I r h
  obtain ⟨a, S, n, rfl, ha, q⟩ := h
  obtain ⟨o, es, ep, t, ho, hex, hd, good, nd, mem, few, fits, num, _⟩ := setO_get I ha
  rw [Vals.ref1 r]
  have hs : scanBound = 4096 := rfl
  refine call_len_set ho hex hd fits (by omega) ?_
  rw [num]
  exact ⟨.int n, H, (I.tok _).tok _, ⟨_, rfl⟩, q (es.toList.map keyOf) nd mem (by rw [List.length_map, Array.length_toList]; exact num)⟩
theorem v_lenS {w : World} {a : Addr} {ns : List Int} {n : Nat} {H : Hp} {Q : VK} (h : H a = some (SetO w a (fun j => decide (j ∈ ns)) n)) (k : ∀ es : List Int, es.Nodup → (∀ z : Int, z ∈ es ↔ z ∈ ns) → Q (.int es.length) H) : kLenS w [.ref a] H Q :=
  ⟨a, _, n, rfl, h, fun es nd m l => l ▸ k es nd fun z => by rw [← m z, decide_eq_true_iff]⟩
/-! ### walks -/
/-- the walk J yields the data ds, outside of W, whatever of N changes -/
structure Yv (N W : Addr → Prop) (J : It) (H0 : Hp) (ds : List PyData) : Prop where
  go : ∀ (H : Hp) (i : Nat), Keep N H0 H → i < ds.length → J.go i H
  stop : ∀ (H : Hp), Keep N H0 H → J.stop ds.length H
  yld : ∀ (H H' : Hp) (i : Nat) (x : V) (d : PyData), Keep N H0 H → ds[i]? = some d → J.yld i H x H' → Keep Nil H H' ∧ Rp W H' x d
theorem yv_list {N W : Addr → Prop} {K : PySem.W.Frag} {H : Hp} {a : Addr} {xs : List V} {ds : List PyData} (h : H a = some (.lst xs)) (n : ¬ N a) (r : RpA W H xs ds) (s : ∀ x, N x → W x) : Yv N W (Itl K a) H ds := by
  refine ⟨fun H1 i k hi => ⟨xs, xs[i]'(by rw [r.len]; exact hi), SqL.of (k _ _ n h), List.getElem?_eq_getElem _⟩, fun H1 k => ⟨xs, SqL.of (k _ _ n h), by rw [r.len]; exact Nat.le_refl _⟩, fun H1 H2 i x d k e y => ?_⟩
  obtain ⟨rfl, y⟩ := y
  obtain ⟨v, e1, e2⟩ := r.at_ e
  have := y xs (SqL.of (k _ _ n h))
  rw [e1] at this; cases this
  exact ⟨Keep.refl, e2.keep (k.mono s)⟩
theorem yv_ints {N W : Addr → Prop} {K : PySem.W.Frag} {H : Hp} {a : Addr} {l : List Int} (h : H a = some (.lst (l.map V.int))) (n : ¬ N a) : Yv N W (Itl K a) H (l.map PyData.int) := by
  have y := yv_list (N := N) (W := N) (K := K) h n (RpA.ints l) (fun _ z => z)
  refine ⟨y.go, y.stop, fun H1 H2 i x d k e q => ?_⟩
  obtain ⟨k2, r⟩ := y.yld H1 H2 i x d k e q
  rw [List.getElem?_map] at e
  obtain ⟨z, _, rfl⟩ := Option.map_eq_some_iff.mp e
  rw [r.int_]
  exact ⟨k2, .int _⟩
theorem yv_tup {N W : Addr → Prop} {K : PySem.W.Frag} {H : Hp} {a : Addr} {xs : List V} {ds : List PyData} (h : H a = some (.tup xs)) (n : ¬ N a) (r : RpA W H xs ds) (s : ∀ x, N x → W x) : Yv N W (Itt K a) H ds := by
  refine ⟨fun H1 i k hi => ⟨xs, xs[i]'(by rw [r.len]; exact hi), SqT.of (k _ _ n h), List.getElem?_eq_getElem _⟩, fun H1 k => ⟨xs, SqT.of (k _ _ n h), by rw [r.len]; exact Nat.le_refl _⟩, fun H1 H2 i x d k e y => ?_⟩
  obtain ⟨rfl, y⟩ := y
  obtain ⟨v, e1, e2⟩ := r.at_ e
  have := y xs (SqT.of (k _ _ n h))
  rw [e1] at this; cases this
  exact ⟨Keep.refl, e2.keep (k.mono s)⟩
def rng (lo : Int) (n : Nat) : List PyData := (List.range n).map fun i => PyData.int (lo + (i : Nat))
theorem rng_len (lo : Int) (n : Nat) : (rng lo n).length = n := by unfold rng; rw [List.length_map, List.length_range]
theorem rng_get {lo : Int} {n i : Nat} {d : PyData} (h : (rng lo n)[i]? = some d) : i < n ∧ d = .int (lo + (i : Nat)) := by
  have hi : i < n := by have := (List.getElem?_eq_some_iff.mp h).1; rw [rng_len] at this; exact this
  unfold rng at h
  rw [List.getElem?_map, List.getElem?_range hi] at h
  exact ⟨hi, by simpa using h.symm⟩
theorem yv_rng {N W : Addr → Prop} {H : Hp} {lo : Int} {n : Nat} : Yv N W (Itr lo n) H (rng lo n) := by
  refine ⟨fun H1 i k hi => by rw [rng_len] at hi; exact hi, fun H1 k => by rw [rng_len]; exact Nat.le_refl _, fun H1 H2 i x d k e y => ?_⟩
  obtain ⟨rfl, rfl⟩ := y
  obtain ⟨_, rfl⟩ := rng_get e
  exact ⟨Keep.refl, .int _⟩
def signs (x : Str) : List PyData := x.cps.toList.map fun c => PyData.str ⟨#[c]⟩
theorem yv_str {N W : Addr → Prop} {H : Hp} {x : Str} : Yv N W (Its x) H (signs x) := by
  have len : (signs x).length = x.cps.size := by unfold signs; rw [List.length_map, Array.length_toList]
  refine ⟨fun H1 i k hi => by rw [len] at hi; exact hi, fun H1 k => by rw [len]; exact Nat.le_refl _, fun H1 H2 i v d k e y => ?_⟩
  obtain ⟨rfl, c, hc, rfl⟩ := y
  unfold signs at e
  rw [List.getElem?_map, Array.getElem?_toList, hc] at e
  cases e
  exact ⟨Keep.refl, .str _⟩
section
variable {J : It} {g : TG} {tt : TT} {te : TE} {vs : List Nat} {σ : L2.St} {H : Hp} {Q : VK}
/-- a comprehension that reads and makes new things alone -/
theorem lcT {α : Type} (W : Addr → Prop) (enc : α → PyData) (l : List α) (p : α → Bool) (f : α → PyData) (al : Al W H) (few : l.length < sizeLine) (Y : ∀ D, H D = none → Yv Nil (fun x => W x ∨ x = D) J H (l.map enc))
    (body : ∀ (D : Addr) (i : Nat) (x : V) (d : α) (H1 : Hp) (R : VK) (N : Hp → Prop), H D = none → l[i]? = some d → Keep Nil H H1 → Al (fun x => W x ∨ x = D) H1 → Rp (fun x => W x ∨ x = D) H1 x (enc d) →
      (∀ y H4, Keep Nil H1 H4 → Rp (fun x => W x ∨ x = D) H4 y (f d) → p d = true → R y H4) → (∀ H3, Keep Nil H1 H3 → p d = false → N H3) →
      g x (wipe σ vs) H1 fun σ2 H2 => wipe σ2 vs = wipe σ vs ∧ tt σ2 H2 fun b H3 => if b = true then te σ2 H3 R else N H3)
    (cont : ∀ (D : Addr) (H' : Hp), H D = none → Keep Nil H H' → Rp W H' (.ref D) (.list ((l.filter p).map f)) → Q (.ref D) H') : kLc J g tt te vs σ H Q := by
  intro D hD
  refine ⟨fun i m H' => m = l.length - i ∧ i ≤ l.length ∧ ∃ us, H' D = some (.lst us) ∧ RpA (fun x => W x ∨ x = D) H' us (((l.take i).filter p).map f) ∧ Keep Nil H H', ⟨_, rfl, Nat.zero_le _, [], upd_same, by simp; exact .nil, Keep.alloc hD⟩, ?_⟩
  rintro i m H1 ⟨rfl, hi, us, eD, ru, k1⟩
  have nD : ¬ W D := al D hD
  by_cases lt : i < l.length
  · refine .inr ⟨(Y D hD).go H1 i k1 (by rw [List.length_map]; exact lt), fun H' => ∃ us, H' D = some (.lst us) ∧ RpA (fun x => W x ∨ x = D) H' us (((l.take (i + 1)).filter p).map f) ∧ Keep Nil H H', fun H' h => ⟨l.length - (i + 1), by omega, rfl, lt, h⟩, fun x H2 hy => ?_⟩
    have hd := List.getElem?_eq_getElem lt
    obtain ⟨k2, rx⟩ := (Y D hD).yld H1 H2 i x (enc l[i]) k1 (by rw [List.getElem?_map, hd]; rfl) hy
    have k12 := k1.trans k2
    have eD2 := k2.get (fun z => z) eD
    have tk : l.take (i + 1) = l.take i ++ [l[i]] := by rw [List.take_succ, hd]; rfl
    refine body D i x _ H2 _ _ hD hd k12 ((al.same k12).one eD2) rx (fun y H5 k5 r5 hp => ?_) fun H4 k4 hp => ?_
    · have eD5 := k5.get (fun z => z) eD2
      have ru5 := ru.same (k2.trans k5)
      have kD : Keep (fun x => W x ∨ x = D) H5 (upd H5 D (.lst (us ++ [y]))) := Keep.refl.set (.inr rfl)
      refine ⟨us, eD5, ?_, us ++ [y], upd_same, ?_, (k12.trans k5).setN hD⟩
      · have h1 := ru.len
        have h2 := List.length_filter_le p (l.take i)
        rw [List.length_map] at h1
        rw [List.length_take] at h2
        omega
      · rw [tk, List.filter_append, List.map_append]
        have : [l[i]].filter p = [l[i]] := by simp [hp]
        rw [this]
        exact (ru5.keep kD).snoc (r5.keep kD)
    · refine ⟨us, k4.get (fun z => z) eD2, ?_, k12.trans k4⟩
      rw [tk, List.filter_append, List.map_append]
      have : [l[i]].filter p = [] := by simp [hp]
      rw [this, List.map_nil, List.append_nil]
      exact ru.same (k2.trans k4)
  · have e : i = l.length := by omega
    subst e
    rw [List.take_of_length_le (Nat.le_refl _)] at ru
    have st := (Y D hD).stop H1 k1
    rw [List.length_map] at st
    exact .inl ⟨st, cont D H1 hD k1 (.lst eD nD (ru.sub fun x h => .inl h))⟩
theorem filter_tt {α : Type} (l : List α) : (l.filter fun _ => true) = l := by simp
/-- a comprehension that changes W, by what is told of S; without a test -/
theorem lcS (W : Addr → Prop) (ds : List PyData) (S : Nat → List PyData → Hp → Prop) (few : ds.length < sizeLine) (al : Al W H) (Y : ∀ D, H D = none → Yv W (fun x => W x ∨ x = D) J H ds)
    (als : ∀ i out H1, S i out H1 → Al W H1)
    (S0 : S 0 [] H) (stab : ∀ D i out H1 H2, H D = none → Keep (fun x => x = D) H1 H2 → (∀ o, H1 D = some o → ∃ l, o = .lst l) → S i out H1 → S i out H2)
    (body : ∀ (D : Addr) (i : Nat) (x : V) (d : PyData) (out : List PyData) (H1 : Hp) (R : VK) (N : Hp → Prop), H D = none → ds[i]? = some d → out.length = i → Keep W H H1 → Al (fun x => W x ∨ x = D) H1 → Rp (fun x => W x ∨ x = D) H1 x d → S i out H1 →
      (∀ y H4 e, Keep W H1 H4 → Rp (fun x => W x ∨ x = D) H4 y e → S (i + 1) (out ++ [e]) H4 → R y H4) →
      g x (wipe σ vs) H1 fun σ2 H2 => wipe σ2 vs = wipe σ vs ∧ tYes σ2 H2 fun b H3 => if b = true then te σ2 H3 R else N H3)
    (cont : ∀ (D : Addr) (H' : Hp) (out : List PyData), H D = none → out.length = ds.length → Keep W H H' → S ds.length out H' → Rp W H' (.ref D) (.list out) → Q (.ref D) H') : kLc J g tYes te vs σ H Q := by
  intro D hD
  have nD : ¬ W D := al D hD
  refine ⟨fun i m H' => m = ds.length - i ∧ i ≤ ds.length ∧ ∃ us out, H' D = some (.lst us) ∧ out.length = i ∧ RpA (fun x => W x ∨ x = D) H' us out ∧ Keep W H H' ∧ S i out H',
    ⟨_, rfl, Nat.zero_le _, [], [], upd_same, rfl, .nil, Keep.alloc hD, stab D 0 [] H _ hD (Keep.refl.set rfl) (fun o e => by rw [hD] at e; cases e) S0⟩, ?_⟩
  rintro i m H1 ⟨rfl, hi, us, out, eD, lo, ru, k1, s1⟩
  by_cases lt : i < ds.length
  · refine .inr ⟨(Y D hD).go H1 i k1 lt, fun H' => ∃ us out, H' D = some (.lst us) ∧ out.length = i + 1 ∧ RpA (fun x => W x ∨ x = D) H' us out ∧ Keep W H H' ∧ S (i + 1) out H', fun H' h => ⟨ds.length - (i + 1), by omega, rfl, lt, h⟩, fun x H2 hy => ?_⟩
    have hd := List.getElem?_eq_getElem lt
    obtain ⟨k2, rx⟩ := (Y D hD).yld H1 H2 i x _ k1 hd hy
    have k12 := k1.trans k2.weak
    have eD2 := k2.get (fun z => z) eD
    have s2 := stab D i out H1 H2 hD k2.weak (fun o e => by rw [eD] at e; exact ⟨_, (Option.some.inj e).symm⟩) s1
    refine body D i x _ out H2 _ _ hD hd lo k12 ((als _ _ _ s2).one eD2) rx s2 fun y H5 e k5 r5 s5 => ?_
    have eD5 := k5 _ _ nD eD2
    have ru2 := ru.same k2
    have kD : Keep (fun x => x = D) H5 (upd H5 D (.lst (us ++ [y]))) := Keep.refl.set rfl
    have kW : Keep (fun x => W x ∨ x = D) H5 (upd H5 D (.lst (us ++ [y]))) := kD.mono fun _ h => .inr h
    refine ⟨us, eD5, ?_, us ++ [y], out ++ [e], upd_same, by rw [List.length_append, lo]; rfl, ?_, (k12.trans k5).setN hD, stab D _ _ _ _ hD kD (fun o q => by rw [eD5] at q; exact ⟨_, (Option.some.inj q).symm⟩) s5⟩
    · have h1 := ru.len
      omega
    · exact ((ru2.keep (k5.mono fun _ h => .inl h)).keep kW).snoc (r5.keep kW)
  · have e : i = ds.length := by omega
    subst e
    exact .inl ⟨(Y D hD).stop H1 k1, cont D H1 out hD lo k1 s1 (.lst eD nD (ru.sub fun x h => .inl h))⟩
end
end Hm

/-! F6: dicts keyed by pairs of ints: sorted(d). -/
namespace Hm
open PySem PySem.Spec PyProof.Rows L2
abbrev TX := List L2.Key × V
def pk (p : Int × Int) : List L2.Key := [Sum.inl p.1, Sum.inl p.2]
theorem pk_inj {p q : Int × Int} (h : pk p = pk q) : p = q := by
  unfold pk at h
  injection h with h1 h2
  injection h2 with h2 _
  injection h1 with h1
  injection h2 with h2
  exact Prod.ext h1 h2
/-- a list of pairs, sorted as Python sorts tuples -/
def RisP (l : List (Int × Int)) : Prop := l.Pairwise fun p q => SrtO.lexB q p = false
theorem risP_eq {l m : List (Int × Int)} (p : l.Perm m) (h1 : RisP l) (h2 : RisP m) : l = m :=
  List.Perm.eq_of_pairwise (fun a b _ _ h h' => by
    have h := SrtO.lexB_no.mp h
    have h' := SrtO.lexB_no.mp h'
    exact Prod.ext (by omega) (by omega)) h1 h2 p
def kH (H : Hp) (v : Value) : Int × Int := match v with
  | .ref a => match H a with
    | some (.tup [.int i, .int j]) => (i, j)
    | _ => (0, 0)
  | _ => (0, 0)
def adr (v : Value) : Addr := match v with
  | .ref a => a
  | _ => default
def PrT (H : Hp) (t : Addr) (p : Int × Int) : Prop := H t = some (.tup [.int p.1, .int p.2])
def uSortDictP : List V → Hp → VK → Prop := fun xs H Q => ∃ (a : Addr) (kvs : List TX) (ks : List (Int × Int)), xs = [.ref a] ∧ H a = some (.dT kvs) ∧ kvs.map (·.1) = ks.map pk ∧
  ∀ (bs : List Addr) (ys : List (Int × Int)) (p : Addr), ys.Perm ks → RisP ys → Paired (PrT H) bs ys → H p = none → Q (.ref p) (upd H p (.lst (bs.map V.ref)))
section
variable {X : Cx}
theorem cu_sortDictP (hcalm : X.calm = true) : CallR X (.builtin "sorted") uSortDictP := by
  intro pins s σ H xs us Q I r q
  obtain ⟨a, kvs, ks, rfl, hd, hks, q⟩ := q
  rw [Vals.ref1 r]
  obtain ⟨z, hs, kr, pr, o, es, ep, ho, hx, hdt, he, hn⟩ := (show ObjOk X.prog X.w H s.heap a (.dT kvs) from (Rd.of hd).ok I.hok)
  have l1 : es.size = kr.length := size_of_entries he
  have l2 : kvs.length = kr.length := Paired.length pr
  have hkr : kr.map (fun x => kH H (.ref x.2.1)) = ks ∧ ∀ x ∈ kr, H x.2.1 = some (.tup [.int (kH H (.ref x.2.1)).1, .int (kH H (.ref x.2.1)).2]) := by
    clear q hn he l1 l2 hd z
    induction pr generalizing ks with
    | nil =>
      cases ks with
      | nil => exact ⟨rfl, fun _ h => nomatch h⟩
      | cons _ _ => simp at hks
    | @cons p q ps qs h t ih =>
      cases ks with
      | nil => simp at hks
      | cons k ks =>
        rw [List.map_cons, List.map_cons] at hks
        injection hks with e1 e2
        obtain ⟨i1, i2⟩ := ih ks e2
        have hq : H q.2.1 = some (.tup [.int k.1, .int k.2]) := by rw [h.2.1, e1]; rfl
        have ek : kH H (.ref q.2.1) = k := by unfold kH; simp only [hq]
        refine ⟨by rw [List.map_cons, i1, ek], fun x hx => ?_⟩
        rcases List.mem_cons.mp hx with rfl | hx
        · rw [ek]; exact hq
        · exact i2 x hx
  obtain ⟨hk1, hk2⟩ := hkr
  refine Calls.call_function_entry kind_sorted plain_sorted entry_sorted (args_sorted1 _) ?_
  unfold Builtin.«sorted»
  refine wpAny_bind (m := checkCount "sorted" 1 1 _) (wpAny_pure ?_)
  refine wpAny_bind (PySem.W.kdu_collect (A := X.A.in1) (kdl_raw hs hx hdt) (I.ok.hd hcalm) ho (by omega) fun h' tk acc hk hacc => ?_)
  have ea : acc.toList = kr.map fun x => Value.ref x.2.1 := by
    have hl : acc.toList.length = kr.length := by rw [Array.length_toList, hacc.1]; exact l1
    apply List.ext_getElem?
    intro j
    rw [List.getElem?_map]
    cases hj : acc.toList[j]? with
    | none =>
      have h1 := List.getElem?_eq_none_iff.mp hj
      rw [List.getElem?_eq_none (by omega)]
      all_goals rfl
    | some v =>
      obtain ⟨en, hen, hv⟩ := hacc.2 j v (by rw [← Array.getElem?_toList]; exact hj)
      have qe := entry_at he j
      rw [hen] at qe
      cases hb : kr[j]? with
      | none =>
        rw [hb] at qe
        exact nomatch (show some en = none from qe)
      | some b =>
        rw [hb] at qe
        have e2 : en = entryOfKey (tupleKind (mixKind X.prog X.w)) b := Option.some.inj qe
        rw [hv, e2]
        all_goals rfl
  have I1 : Inv X pins σ H { s with heap := h', toks := tk } := I.kept hk
  have hal2 : acc.toList.length ≤ sizeLine := by rw [ea, List.length_map]; omega
  refine wpAny_bind (wpAny_newList ?_ hal2)
  have at1 : (h'.push (seqObj "list" acc.toList.toArray 0)).get? h'.objs.size = some (seqObj "list" acc.toList.toArray 0) := Heap.get?_push_size _ rfl
  show wpAny _ _ _ _ _ { s with heap := h'.push (seqObj "list" acc.toList.toArray 0), toks := tk }
  have isp : ∀ v ∈ acc.toList, Srt.IsPair (h'.push (seqObj "list" acc.toList.toArray 0)) v (kH H v).1 (kH H v).2 := fun v hv => by
    rw [ea] at hv
    obtain ⟨x, hx, rfl⟩ := List.mem_map.mp hv
    obtain ⟨_, its2, r2, o, ho, hc, n, hd⟩ := I1.hok _ _ (hk2 x hx)
    obtain ⟨u1, u2, rfl, ri, rj⟩ := vals2 r2
    obtain ⟨t1, rfl⟩ := ri
    obtain ⟨t2, rfl⟩ := rj
    exact ⟨x.2.1, o, t1, t2, n, rfl, Heap.get?_push_of_some _ ho, hc, hd⟩
  refine wpAny_bind (wpAny_holding (wpAny_call_entry slot_list_sort ⟨_, at1, rfl⟩ entry_list_sort
    (SrtO.list_sort_ord (SrtO.swo_lex (kH H)) (s := { s with heap := h'.push (seqObj "list" acc.toList.toArray 0), toks := tk }) at1 hal2 (fun h2 => SrtO.pairs_sortableO (by omega) isp fun o e => ?_) fun out z1 z2 => ⟨_, rfl, ?_⟩) (args_list_sort _)))
  · have e' : some o = some (seqObj "list" acc.toList.toArray 0) := e.symm.trans at1
    cases e'
    intro c
    exact absurd (Value.type.inj c) (by decide)
  obtain ⟨c, hc⟩ := sortedHeap_at (vs := acc.toList) (out := out.toArray) at1
  have outr : ∀ v ∈ out, ∃ x ∈ kr, v = Value.ref x.2.1 := fun v hv => by
    have := z2.perm.mem_iff.mp hv
    rw [ea] at this
    obtain ⟨x, hx, rfl⟩ := List.mem_map.mp this
    exact ⟨x, hx, rfl⟩
  have eo : out.map (fun v => Value.ref (adr v)) = out := by
    have : out.map (fun v => Value.ref (adr v)) = out.map id := List.map_congr_left fun v hv => by
      obtain ⟨x, _, rfl⟩ := outr v hv
      rfl
    rw [this, List.map_id]
  have hlen : ((out.map adr).map V.ref).length ≤ sizeLine := by
    rw [List.length_map, List.length_map, z2.perm.length_eq]; exact hal2
  have rv : Vals ((out.map adr).map V.ref) out := by
    have := vals_refs (out.map adr)
    rw [List.map_map (f := adr) (g := Value.ref), show (Value.ref ∘ adr) = fun v => Value.ref (adr v) from rfl, eo] at this
    exact this
  have pys : (out.map (kH H)).Perm ks := by
    have := z2.perm.map (kH H)
    rw [ea, List.map_map] at this
    rw [← hk1]; exact this
  have pp : Paired (PrT H) (out.map adr) (out.map (kH H)) := by
    clear pys rv hlen eo hc z1 z2 q
    induction out with
    | nil => exact .nil
    | cons v l ih =>
      refine .cons ?_ (ih fun v hv => outr v (List.mem_cons_of_mem _ hv))
      obtain ⟨x, hx, rfl⟩ := outr v List.mem_cons_self
      exact hk2 x hx
  refine wpAny_pure ⟨_, rfl, .ref h'.objs.size, upd H h'.objs.size (.lst ((out.map adr).map V.ref)), I1.laid (t' := tk) (fun b u e => ?_) (Nat.le_refl _)
    (show ObjOk X.prog X.w _ _ _ (.lst ((out.map adr).map V.ref)) from ⟨hlen, out, c, rv, hc⟩), rfl, q _ _ _ pys (List.pairwise_map.mpr z1) pp (I1.hok.fresh (Nat.le_refl _))⟩
  have hb : b < h'.objs.size := Heap.lt_size e
  rw [sortedHeap_old (Nat.ne_of_lt hb) (by rw [size_push']; exact Nat.lt_succ_of_lt hb)]
  exact Heap.get?_push_of_some _ e
end
theorem v_sortedP {a : Addr} {kvs : List TX} {ks : List (Int × Int)} {H : Hp} {Q : VK} (h : H a = some (.dT kvs)) (e : kvs.map (·.1) = ks.map pk) (k : ∀ (bs : List Addr) (ys : List (Int × Int)) (p : Addr), ys.Perm ks → RisP ys → Paired (PrT H) bs ys → H p = none → Q (.ref p) (upd H p (.lst (bs.map V.ref)))) : uSortDictP [.ref a] H Q :=
  ⟨a, kvs, ks, rfl, h, e, k⟩
/-- {k: v} with one flat tuple for a key -/
def uDispT (tk tv : TE) : TE := fun σ H Q => ∀ p, H p = none → tk σ (upd H p (.dT [])) fun x H1 => tv σ H1 fun y H2 =>
  ∃ (k : List L2.Key) (b : Addr), x = .ref b ∧ H2 p = some (.dT []) ∧ H2 b = some (.tup (k.map kV)) ∧ Q (.ref p) (upd H2 p (.dT [(k, y)]))
theorem pe_dispT {X : Cx} {ke ve : Expr} {tk tv : TE} {pos : Pos} (hu : X.A.units + 64 < cLine) (hk : PE X ke tk) (hv : PE X ve tv)
    (shape : (evalEachOpt [some ke] X.env).zip ((evalEach [ve] X.env).map fun v => do let x ← v; standAt pos; pure x) = [(eval ke X.env, (do let x ← eval ve X.env; standAt pos; pure x))].map fun p => (some p.1, p.2) := by rfl) :
    PE X (.Dict [some ke] [ve] pos) (uDispT tk tv) := by
  refine ⟨fun pins s σ H Q I h => ?_⟩
  have hn := I.hok.fresh (Nat.le_refl s.heap.objs.size)
  have I1 := I.laid (a := s.heap.objs.size) (o := .dT []) (h' := s.heap.push { cls := .type "dict", data := .dict #[] }) (t' := s.toks) (fun _ _ q => Heap.get?_push_of_some _ q) (Nat.le_refl _) (dt_empty s.heap I.big)
  have h1 : PPs X pos [some ke] [ve] [(tk, tv)] := pps_cons hk hv pps_nil
  have trees : pairTrees [some ke] [ve] X.env pos = [(eval ke X.env, (do let x ← eval ve X.env; standAt pos; pure x))] := by rfl
  have run := h1.run pins _ σ _ (fun ps H2 => match ps with
    | [(x, y)] => ∃ (k : List L2.Key) (b : Addr), x = .ref b ∧ H2 s.heap.objs.size = some (.dT []) ∧ H2 b = some (.tup (k.map kV)) ∧ Q (.ref s.heap.objs.size) (upd H2 s.heap.objs.size (.dT [(k, y)]))
    | _ => False) I1 (h _ hn)
  rw [trees] at run
  rw [arm_eval_Dict, shape, dictDisplay_pairs _ (by simp) (by simp)]
  refine wpAny_bind (wpAny_standAt (wpAny_bind (wpAny_subDictH (knd := tupleKind (mixKind X.prog X.w)) (show X.A.units < cLine by omega) (by simp) (thn run fun vs s2 hh => ?_))))
  obtain ⟨ps, H2, I2, rel, q⟩ := hh
  split at q
  · rename_i x y
    obtain ⟨k, b, rfl, e, eb, q⟩ := q
    cases rel with
    | @cons p1 q1 ps qs rr t =>
    cases t
    obtain ⟨u1, u2⟩ := q1
    obtain ⟨r1, r2⟩ := rr
    cases (show u1 = Value.ref b from r1)
    obtain ⟨z, hd, xs, rr, D⟩ := dt_of I2.hok e
    cases rr
    refine ⟨[(k, b, u2)], ⟨rfl, rfl, key_of I2.hok eb, True.intro⟩, D, fun h' tk' D' hs => wpAny_pure ⟨.ref s.heap.objs.size, _, ?_, rfl, q⟩⟩
    obtain ⟨q', es, ep, hq, h2, h3, h4, _, h5⟩ := id D'
    refine d_write I2 (by rw [e]; exact True.intro) hs ⟨q', hq⟩ ⟨by rw [sizeLine_eq]; exact (by decide : (1 : Nat) ≤ 16777216), hd, [(k, b, u2)], .cons ⟨rfl, ?_, r2⟩ .nil, q', es, ep, hq, h2, h3, h4, h5⟩
    show upd H2 _ _ b = _
    rw [upd_ne (ne_of eb e (fun z => nomatch z))]
    exact eb
  · exact q.elim
/-! ### loops that change one slot -/
section
variable {K : PySem.W.Frag} {a : Addr} {tb : TS} {D : Ends} {σ : L2.St} {H : Hp} {i : Nat}
theorem forI {l : List Int} (Pv : Nat → Hp → Prop) (hl : ∀ j H', Pv j H' → H' a = some (.lst (l.map V.int))) (o0 : Option V) (e0 : σ.set i o0 = σ) (h0 : Pv 0 H)
    (hs : ∀ j z H', l[j]? = some z → Pv j H' → tb { D with nx := fun s h => ∃ o, s = σ.set i o ∧ Pv (j + 1) h, ct := fun s h => ∃ o, s = σ.set i o ∧ Pv (j + 1) h, bk := D.nx } (σ.set i (some (.int z))) H')
    (hd : ∀ o H', Pv l.length H' → D.nx (σ.set i o) H') : kFor (Itl K a) (gName i) tb D σ H := by
  refine for_list (xs := l.map V.int) (fun j s H' => ∃ o, s = σ.set i o ∧ Pv j H') ⟨o0, e0.symm, h0⟩ (fun j s H' _ ⟨_, _, h⟩ => SqL.of (hl j H' h)) ?_ ?_
  · rintro j x s H' hj ⟨o, rfl, h⟩
    rw [List.getElem?_map] at hj
    obtain ⟨z, hz, rfl⟩ := Option.map_eq_some_iff.mp hj
    refine r_gname ?_
    rw [List.set_set]
    exact hs j z H' hz h
  · rintro s H' ⟨o, rfl, h⟩
    rw [List.length_map] at h
    exact hd o H' h
end
theorem forI2 {K : PySem.W.Frag} {a : Addr} {tb : TS} {D : Ends} {σ : L2.St} {H : Hp} {i k : Nat} {l : List Int} (Pv : Nat → Hp → Prop) (hl : ∀ j H', Pv j H' → H' a = some (.lst (l.map V.int))) (o0 p0 : Option V) (e0 : (σ.set i o0).set k p0 = σ) (hik : i ≠ k) (h0 : Pv 0 H)
    (hs : ∀ j z H' (p : Option V), l[j]? = some z → Pv j H' → tb { D with nx := fun s h => ∃ o p, s = (σ.set i o).set k p ∧ Pv (j + 1) h, ct := fun s h => ∃ o p, s = (σ.set i o).set k p ∧ Pv (j + 1) h, bk := D.nx } ((σ.set i (some (.int z))).set k p) H')
    (hd : ∀ o p H', Pv l.length H' → D.nx ((σ.set i o).set k p) H') : kFor (Itl K a) (gName i) tb D σ H := by
  refine for_list (xs := l.map V.int) (fun j s H' => ∃ o p, s = (σ.set i o).set k p ∧ Pv j H') ⟨o0, p0, e0.symm, h0⟩ (fun j s H' _ ⟨_, _, _, h⟩ => SqL.of (hl j H' h)) ?_ ?_
  · rintro j x s H' hj ⟨o, p, rfl, h⟩
    rw [List.getElem?_map] at hj
    obtain ⟨z, hz, rfl⟩ := Option.map_eq_some_iff.mp hj
    refine r_gname ?_
    rw [List.set_comm _ _ (Ne.symm hik), List.set_set]
    exact hs j z H' p hz h
  · rintro s H' ⟨o, p, rfl, h⟩
    rw [List.length_map] at h
    exact hd o p H' h
theorem r_ikeysT {td : TE} {σ : L2.St} {H : Hp} {R : It → Hp → Prop} (k : td σ H fun x H1 => ∃ d o, x = .ref d ∧ ((∃ kvs, H1 d = some (.frz o (.dK kvs)) ∧ R (Itk d o kvs) H1) ∨ ∃ kvs, H1 d = some (.frz o (.dT kvs)) ∧ R (Itkt d o kvs) H1)) : iKeys td σ H R := k
/-- a walk over the keys of a dict that is locked for it -/
theorem forT {d : Addr} {o : Obj} {kvs : List TX} {ks : List (Int × Int)} {g : TG} {tb : TS} {D : Ends} {σ : L2.St} {H : Hp} (ke : kvs.map (·.1) = ks.map pk) (Pv : Nat → L2.St → Hp → Prop) (h0 : Pv 0 σ H) (hl : ∀ j σ H, Pv j σ H → H d = some (.frz o (.dT kvs)))
    (hs : ∀ j z q σ H, ks[j]? = some z → Pv j σ H → PrT H q z → g (.ref q) σ H fun σ2 H2 => tb { D with nx := Pv (j + 1), ct := Pv (j + 1), bk := D.nx } σ2 H2)
    (hd : ∀ σ H, Pv ks.length σ H → D.nx σ H) : kFor (Itkt d o kvs) g tb D σ H := by
  have len : kvs.length = ks.length := by have := congrArg List.length ke; rw [List.length_map, List.length_map] at this; exact this
  refine ⟨fun i m σ H => m = ks.length - i ∧ i ≤ ks.length ∧ Pv i σ H, ⟨_, rfl, Nat.zero_le _, h0⟩, ?_⟩
  rintro i m σ H ⟨rfl, hi, p⟩
  by_cases lt : i < ks.length
  · refine .inr ⟨⟨hl _ _ _ p, by omega⟩, Pv (i + 1), fun σ' H' p' => ⟨ks.length - (i + 1), by omega, rfl, lt, p'⟩, fun x H' y => ?_⟩
    obtain ⟨rfl, k, v, q, e1, rfl, e2⟩ := y
    have hz := List.getElem?_eq_getElem lt
    have e3 : (kvs.map (·.1))[i]? = some k := by rw [List.getElem?_map, e1]; rfl
    rw [ke, List.getElem?_map, hz] at e3
    cases e3
    exact hs i _ q σ _ hz p e2
  · have e : i = ks.length := by omega
    subst e
    exact .inl ⟨⟨hl _ _ _ p, by omega⟩, hd σ H p⟩
theorem lock_keep {M : Addr → Prop} {H H' : Hp} {d : Addr} {u f : HO} (h : H d = some u) (k : Keep M (upd H d f) H') : Keep M H (upd H' d u) := fun a o n e => by
  by_cases z : a = d
  · subst z
    rw [h] at e; rw [upd_same]; exact e
  · rw [upd_ne z]
    exact k a o n (by rw [upd_ne z]; exact e)
theorem find_at {α : Type} {p : α → Bool} {l : List α} {j : Nat} {x : α} (h : l[j]? = some x) (n : ∀ y ∈ l.take j, p y = false) (hx : p x = true) : l.find? p = some x := by
  have e : l = l.take j ++ x :: l.drop (j + 1) := by
    obtain ⟨hl, rfl⟩ := List.getElem?_eq_some_iff.mp h
    rw [List.getElem_cons_drop, List.take_append_drop]
  rw [e, List.find?_append, List.find?_eq_none.mpr (fun y hy => by simp [n y hy]), Option.none_or, List.find?_cons_of_pos hx]
theorem find_no {α : Type} {p : α → Bool} {l : List α} (n : ∀ y ∈ l, p y = false) : l.find? p = none := List.find?_eq_none.mpr fun y hy => by simp [n y hy]
theorem take_snoc {α : Type} {l : List α} {j : Nat} {x : α} (h : l[j]? = some x) {P : α → Prop} (a : ∀ y ∈ l.take j, P y) (b : P x) : ∀ y ∈ l.take (j + 1), P y := fun y hy => by
  rw [List.take_succ, h] at hy
  rcases List.mem_append.mp hy with q | q
  · exact a y q
  · cases List.mem_singleton.mp q; exact b
/-! ### a text among texts -/
theorem inV_str {z : Str} (os : List Str) : inV (.str z) (os.map V.str) = decide (z ∈ os) := by
  unfold inV
  rw [List.any_map]
  by_cases h : z ∈ os
  · rw [decide_eq_true h]
    exact List.any_eq_true.mpr ⟨z, h, by simp [Function.comp, eqV]⟩
  · rw [decide_eq_false h]
    exact List.any_eq_false.mpr fun y hy => by
      simp only [Function.comp, eqV, beq_iff_eq]
      exact fun e => h (e ▸ hy)
theorem flat_strs : ∀ os : List Str, (os.map V.str).all flatV = true
  | [] => rfl
  | x :: r => by rw [List.map_cons, List.all_cons, flat_strs r]; rfl
theorem v_ninSt {P : Program} {w : World} {K : PySem.W.Frag} {H : Hp} {Q : VK} {l : Addr} {os : List Str} {z : Str} (h : H l = some (.tup (os.map V.str))) (q : Q (.bl (!decide (z ∈ os))) H) : cNotIn P w K (.str z) (.ref l) H Q :=
  .inl ⟨l, os.map V.str, rfl, .inr (SqT.of h), rfl, flat_strs os, by rw [if_pos rfl, inV_str]; exact q⟩
theorem v_inSt {P : Program} {w : World} {K : PySem.W.Frag} {H : Hp} {Q : VK} {l : Addr} {os : List Str} {z : Str} (h : H l = some (.tup (os.map V.str))) (q : Q (.bl (decide (z ∈ os))) H) : cIn P w K (.str z) (.ref l) H Q :=
  .inl ⟨l, os.map V.str, rfl, .inr (SqT.of h), rfl, flat_strs os, by rw [if_neg (by decide), inV_str]; exact q⟩
theorem v_ninSl {P : Program} {w : World} {K : PySem.W.Frag} {H : Hp} {Q : VK} {l : Addr} {os : List Str} {z : Str} (h : H l = some (.lst (os.map V.str))) (q : Q (.bl (!decide (z ∈ os))) H) : cNotIn P w K (.str z) (.ref l) H Q :=
  .inl ⟨l, os.map V.str, rfl, .inl (SqL.of h), rfl, flat_strs os, by rw [if_pos rfl, inV_str]; exact q⟩
theorem v_inSl {P : Program} {w : World} {K : PySem.W.Frag} {H : Hp} {Q : VK} {l : Addr} {os : List Str} {z : Str} (h : H l = some (.lst (os.map V.str))) (q : Q (.bl (decide (z ∈ os))) H) : cIn P w K (.str z) (.ref l) H Q :=
  .inl ⟨l, os.map V.str, rfl, .inl (SqL.of h), rfl, flat_strs os, by rw [if_neg (by decide), inV_str]; exact q⟩
theorem RpA.bools_ {W : Addr → Prop} {H : Hp} : ∀ {l : List Bool} {vs : List V}, RpA W H vs (l.map .bool) → vs = l.map V.bl
  | [], _, h => h.nil_
  | x :: l, _, h => by
    obtain ⟨v, r, rfl, h1, h⟩ := h.cons_
    rw [h1.bool_, RpA.bools_ h]; rfl
theorem inV_bl {z : Bool} (os : List Bool) : inV (.bl z) (os.map V.bl) = decide (z ∈ os) := by
  unfold inV
  rw [List.any_map]
  by_cases h : z ∈ os
  · rw [decide_eq_true h]
    exact List.any_eq_true.mpr ⟨z, h, by simp [Function.comp, eqV]⟩
  · rw [decide_eq_false h]
    exact List.any_eq_false.mpr fun y hy => by
      simp only [Function.comp, eqV, beq_iff_eq]
      exact fun e => h (e ▸ hy)
theorem flat_bls : ∀ os : List Bool, (os.map V.bl).all flatV = true
  | [] => rfl
  | x :: r => by rw [List.map_cons, List.all_cons, flat_bls r]; rfl
theorem v_inBl {P : Program} {w : World} {K : PySem.W.Frag} {H : Hp} {Q : VK} {W : Addr → Prop} {x : V} {os : List Bool} {z : Bool} (h : Rp W H x (.list (os.map .bool))) (q : Q (.bl (decide (z ∈ os))) H) : cIn P w K (.bl z) x H Q := by
  obtain ⟨l, xs, rfl, e, _, r⟩ := h.list_
  rw [r.bools_] at e
  exact .inl ⟨l, os.map V.bl, rfl, .inl (SqL.of e), rfl, flat_bls os, by rw [if_neg (by decide), inV_bl]; exact q⟩
theorem v_ninBl {P : Program} {w : World} {K : PySem.W.Frag} {H : Hp} {Q : VK} {W : Addr → Prop} {x : V} {os : List Bool} {z : Bool} (h : Rp W H x (.list (os.map .bool))) (q : Q (.bl (!decide (z ∈ os))) H) : cNotIn P w K (.bl z) x H Q := by
  obtain ⟨l, xs, rfl, e, _, r⟩ := h.list_
  rw [r.bools_] at e
  exact .inl ⟨l, os.map V.bl, rfl, .inl (SqL.of e), rfl, flat_bls os, by rw [if_pos rfl, inV_bl]; exact q⟩
/-! ### dicts keyed by pairs, truths in them -/
def BlV (kvs : List TX) : Prop := ∀ k v, valV kvs k = some v → ∃ b, v = .bl b
def gK (kvs : List TX) (x y : Int) : Bool := match valV kvs (pk (x, y)) with
  | some (.bl b) => b
  | _ => false
theorem gK_get {kvs : List TX} (h : BlV kvs) (x y : Int) : (valV kvs (pk (x, y))).getD (.bl false) = .bl (gK kvs x y) := by
  unfold gK
  cases e : valV kvs (pk (x, y)) with
  | none => rfl
  | some v =>
    obtain ⟨b, rfl⟩ := h _ v e
    rfl
theorem r_dg2 {td ty tx : TE} {σ : L2.St} {H : Hp} {Q : VK} (k : td σ H fun x H1 => ∃ a, x = .ref a ∧ IsD H1 a ∧ ty σ H1 fun y H2 => tx σ H2 fun z H3 => ∃ o, DGet H3 a y o ∧ Q (o.getD z) H3) : tDGet2 td ty tx σ H Q := k
/-- d.get((x, y), False), x and y in slots -/
theorem r_getP {ik ia ib : Nat} {kn : Addr} {kvs : List TX} {x y : Int} {σ : L2.St} {H : Hp} {Q : VK} (hk : σ[ik]? = some (some (.ref kn))) (ha : σ[ia]? = some (some (.int x))) (hb : σ[ib]? = some (some (.int y))) (e : Rd H kn (.dT kvs)) (bl : BlV kvs)
    (q : ∀ H', Keep Nil H H' → Q (.bl (gK kvs x y)) H') : tDGet2 (tVar ik) (tTup (tCons (tVar ia) (tCons (tVar ib) tNil))) (tC (.bl false)) σ H Q := by
  refine r_dg2 (r_var hk ⟨kn, rfl, .inr ⟨kvs, e⟩, r_tup (r_cons (r_var ha (r_cons (r_var hb (r_nil (r_ktup (by simp) fun p hp => r_c ?_))))))⟩)
  have kp : Keep Nil H (upd H p (.tup [.int x, .int y])) := Keep.alloc hp
  have e' : Rd (upd H p (.tup [.int x, .int y])) kn (.dT kvs) := e.imp (fun z => kp.get (fun z => z) z) fun ⟨o, z⟩ => ⟨o, kp.get (fun z => z) z⟩
  have g : DGet (upd H p (.tup [.int x, .int y])) kn (.ref p) (valV kvs (pk (x, y))) := .inr ⟨kvs, pk (x, y), p, e', rfl, upd_same, rfl⟩
  exact ⟨_, g, by rw [gK_get bl]; exact q _ kp⟩
end Hm

/-! F7: an except suite in which the error is known: isinstance of it there, calls of defs there. -/
namespace Hm
open PySem PySem.Spec PyProof.Rows L2
section
variable {X : Cx} {pins : List (Addr × Obj)} {σ : L2.St} {H : Hp} {s : Shared}
theorem suiteM (I : Inv X pins σ H s) (a : Addr) : Inv (X.suite a (X.pn ++ pins)) [] σ H s :=
  ⟨I.ok.suite _ _, I.os, I.bare, I.base, I.loc, I.cell, I.free, I.freeC, fun p hp => I.pin p (by rw [List.append_nil] at hp; exact hp), I.hok, I.len⟩
theorem unsuiteM {a : Addr} {pn' : List (Addr × Obj)} (I : Inv (X.suite a (X.pn ++ pins)) pn' σ H s) (ok : X.Ok) : Inv X pins σ H s :=
  ⟨ok, I.os, I.bare, I.base, I.loc, I.cell, I.free, I.freeC, fun p hp => I.pin p (List.mem_append_left _ hp), I.hok, I.len⟩
end
/-- what a clause «except c as n» wishes, the error known in its suite -/
def wValW (K : PySem.W.Frag) (c : Value) (i : Nat) (ts : Addr → Value → TS) (Wout : WX) (D : Ends) : WX := fun cls d σ H =>
  d = none ∧ ∃ b, PySem.W.exmOne K cls c = some b ∧
    (b = true → ∀ a, H a = none → ts a cls { nx := fun σ' H' => D.nx (σ'.set i none) H', rt := D.rt, bk := fun _ _ => False, ct := fun _ _ => False } (σ.set i (some (.ref a))) (upd H a (ExV cls a))) ∧ (b = false → Wout cls d σ H)
section
variable {X : Cx} {x n : Str} {c : Value} {i : Nat} {body suite : List Stmt} {b₀ : Stmt} {np pos pos' : Pos} {tb : WX → TS} {ts : Addr → Value → TS} {Wout : WX}
/-- try: body, except x as n: suite; what is caught stays an object that is known -/
theorem ps_try_valW (hs : X.stack = X.env :: X.outer) (hf : X.env.frame = some X.env.locals) (hN : X.N.Nodup) (hi : X.N[i]? = some n) (hln : X.env.kindOf n = some .local) (hc : Names X x c) (tk : Takes X Wout) (hex : X.ex = [])
    (hb : ∀ (W : WX) (pn : List (Addr × Obj)) (xe : Value → Shared → Prop), Takes (X.tr pn xe) W → PassesOwn (model X.prog X.w) X.A X.env xe → PSs (X.tr pn xe) body (tb W))
    (hsu : ∀ (a : Addr) (cls : Value) (pn : List (Addr × Obj)), PSs (X.suite a pn) (b₀ :: suite) (ts a cls)) :
    PS X (.Try body [.ExceptHandler (some (.Name x np)) (some n) (b₀ :: suite) pos'] [] [] pos) (fun D σ H => tb (wValW X.K c i ts Wout D) D σ H) := by
  refine ⟨fun pins s σ H D I h => wpAny_Try_except ?_⟩
  have ok := I.ok
  have hfr : X.A.frames = some (X.env :: X.outer) := by rw [ok.frames, hs]
  have run := (hb (wValW X.K c i ts Wout D) (X.pn ++ pins) (fun e s₁ => wpAny (model X.prog X.w) X.A (noteFrame e X.env) (fun _ s₂ => wpAny (model X.prog X.w) X.A (setFlight e none)
    (fun _ s₃ => wpAny (model X.prog X.w) X.A (handleBy e X.env [.ExceptHandler (some (.Name x np)) (some n) (b₀ :: suite) pos']) (SP X pins D) X.xe s₃) X.xe s₂) X.xe s₁) ?_ PassesOwn.looking).run [] s σ H D (I.toTry _) h
  · refine wpAny_mono run (fun f s1 hsp => ?_) fun _ _ z => z
    cases f with
    | next => obtain ⟨σ', H', J', q⟩ := hsp; exact wpAny_execs_nil ⟨σ', H', J'.ofTry ok, q⟩
    | brk => obtain ⟨σ', H', J', q⟩ := hsp; exact ⟨σ', H', J'.ofTry ok, q⟩
    | cont => obtain ⟨σ', H', J', q⟩ := hsp; exact ⟨σ', H', J'.ofTry ok, q⟩
    | ret u => obtain ⟨v, σ', H', J', r, q⟩ := hsp; exact ⟨v, σ', H', J'.ofTry ok, r, q⟩
  rintro u s' ⟨a, B, sI, pins', σ', H', cls, d, rfl, J', nb, up, sky, na, os, ag, rfl, b, hb1, hyes, hno⟩
  have J : Inv X pins σ' H' sI := J'.ofTry ok
  have air : Sky B (X.env :: X.outer) a (Zc cls none) X.env.locals s'.heap := by rw [← hs]; exact sky
  show wpAny (model X.prog X.w) X.A (noteFrame (.ref a) X.env) _ _ _
  refine Sky.land Zc.steady hfr hf air fun h3 fl3 up3 => ?_
  have J3 : Inv X pins σ' H' { s' with heap := h3 } := J.landed nb fl3.1 (up.trans up3) os ag
  obtain ⟨oe3, vs3, he3, hz3, hd3⟩ := fl3.there
  have aside : a ∉ frs (X.env :: X.outer) := fun hm => by
    obtain ⟨_, o', e', hnf⟩ := fl3.2.2.1.mem hm
    rw [he3] at e'; cases e'
    exact hnf _ hd3
  have gI : sI.heap.get? a = none := by
    cases e : sI.heap.get? a with
    | none => rfl
    | some o =>
      have q := nb a o e (by show a ∉ frs X.stack; rw [hs]; exact aside)
      rw [fl3.2.1] at q; cases q
  have nL : a ≠ X.env.locals := fun z => aside (List.mem_filterMap.mpr ⟨X.env, List.mem_cons_self, by rw [hf, z]⟩)
  have nF : a ∉ X.fs := fun hm => by
    obtain ⟨e, he, q⟩ := List.mem_filterMap.mp hm
    exact aside (List.mem_filterMap.mpr ⟨e, List.mem_cons_of_mem _ he, q⟩)
  have h00 : X.s_0.heap.get? a = none := by
    cases e : X.s_0.heap.get? a with
    | none => rfl
    | some o =>
      obtain ⟨o', q⟩ := J.base.there a o e (by rw [hex]; exact List.not_mem_nil)
      rw [gI] at q; cases q
  have noCell : ∀ y k, X.env.cells.lookup y = some k → k ≠ a := fun y k e z => by
    obtain ⟨v, o, q, _⟩ := J.cell y k e
    rw [z, gI] at q; cases q
  have noPin : ∀ p ∈ X.pn ++ pins, p.1 ≠ a := fun p hp z => by
    have q := (J.pin p hp).1
    rw [z, gI] at q; cases q
  have S3 := J3.suite he3 hd3 na nL nF
  refine wpAny_handleBy_cons (codeAny_handlers_test ?_) (by intro q; cases q)
  have LT : PySem.W.Looks (model X.prog X.w) h3 (typeOf (.ref a)) cls := fun A Q E s k q => wpAny_typeOf_ref (k _ _ he3) (by rw [hz3.1]; exact q)
  have LM := PySem.W.exm_one (M := model X.prog X.w) (J3.kIn) LT hb1
  have test : ∀ {Q : Value → Shared → Prop} {E : Value → Shared → Prop}, Q c { s' with heap := h3 } → wpAny (model X.prog X.w) (X.A.mark (some (.ref a))) (eval (.Name x np) X.env) Q E { s' with heap := h3 } := fun {Q E} q => by
    obtain ⟨hg, hdbg, hm | ⟨hm, hv, hnn⟩⟩ := hc
    · exact ld_glob (X := X.suite a ((a, oe3) :: (X.pn ++ pins))) S3 hg hm q hdbg
    · exact ld_blt (X := X.suite a ((a, oe3) :: (X.pn ++ pins))) S3 hg hm hv q hnn hdbg
  refine test (LM.here ?_)
  cases b with
  | false =>
    show wpAny _ X.A (handleBy (.ref a) X.env []) _ _ _
    refine wpAny_handleBy_nil ?_
    obtain ⟨k1, k2, k3, oe, vs, T, oT, ts', he, hz, hd, h1, hr⟩ := id fl3
    unfold PySem.passOn
    refine wpAny_bind (wpAny_field he hd h1 ?_)
    rw [if_neg (show ¬ ((Value.ref T == Value.none) = true) from by simp)]
    have fin : wpAny (model X.prog X.w) X.A (setFlight (.ref a) X.env.frame) (fun _ s4 => wpAny (model X.prog X.w) X.A (throw (.ref a) : Sem Flow) (SP X pins D) X.xe s4) X.xe { s' with heap := h3 } := by
      rw [hf]
      refine HandSPX.setFlight_upZ fl3 fun h4 hh4 up4 => wpAny_throw (tk _ _ ?_)
      exact ⟨a, B, sI, pins, σ', H', cls, none, rfl, J, nb, (up.trans up3).trans up4, .inr (.inr (by rw [hs]; exact hh4)), na, os, ag, hno rfl⟩
    first
      | exact wpAny_bind (wpAny_pure (wpAny_bind fin))
      | exact wpAny_bind fin
  | true =>
    refine codeAny_handlers_suite_as (HandSPX.lands_againZ fl3 fun h4 fl4 up4 => ?_)
    have J4 : Inv X pins σ' H' { s' with heap := h4 } := J.landed nb fl4.1 ((up.trans up3).trans up4) os ag
    obtain ⟨oe4, vs4, he4, hz4, hd4⟩ := fl4.there
    have S3' : Inv (X.suite a (X.pn ++ pins)) [] σ' H' { s' with heap := h4 } := suiteM J4 a
    have S4 := show_ (φ := fun h => ∃ (oe : Obj) (vs : Array Value), h.get? a = some oe ∧ Zc cls none oe ∧ oe.data = .fields vs) S3' na h00 nL.symm noCell (fun p hp => noPin p (by rw [List.append_nil] at hp; exact hp)) (exV_ok he4 hz4 hd4)
    refine store_ok (X := X.suite a (X.pn ++ pins)) (v := .ref a) S4 hN hi (.inl hln) rfl (fun s5 S5 => ?_) (.inr hln)
    refine wpAny_mono ((hsu a cls (X.pn ++ pins)).run [] s5 _ _ _ S5 (hyes rfl a na)) (fun f s6 hsp => ?_) (fun _ _ z => False.elim z)
    cases f with
    | next =>
      obtain ⟨σ6, H6, S6, q6⟩ := hsp
      exact gone_ok (unsuiteM S6 ok) hN hi hln fun s7 J8 => ⟨_, _, J8, q6⟩
    | brk => obtain ⟨σ6, H6, S6, q6⟩ := hsp; exact q6.elim
    | cont => obtain ⟨σ6, H6, S6, q6⟩ := hsp; exact q6.elim
    | ret u =>
      obtain ⟨v6, σ6, H6, S6, r6, q6⟩ := hsp
      exact gone_ok (unsuiteM S6 ok) hN hi hln fun s7 J7 => ⟨_, _, _, J7, r6, q6⟩
end
/-! ### defs that are called in an except suite -/
structure FnM (P : Program) (w : World) (K : PySem.W.Frag) (mg : Str → Option Value) (base : Heap) (CX : CXT) (k : Nat) (f : Addr) (fd : FuncData) (ps : List Str) (sp : Sp) : Prop where
  len : ∀ vs H Q E, sp vs H Q E → vs.length = ps.length
  run : ∀ (A : Around) (outer : List Env) (s : Shared) (H : Hp) (args : Args) (us : List Value) (vs : List V) (Q : VK) (E : XK), L2H.RoomH k A → Env0 P w K mg base A outer s H → BindsTo s fd args (ps.zip us) → Vals vs us → sp vs H Q E →
    codeAny (model P w) A (.call (.ref f) args) (CR CX outer P w H s Q E) s
def cxM (CX : CXT) (P : Program) (w : World) (K : PySem.W.Frag) (mg : Str → Option Value) (base : Heap) (N : List Str) (qual : Str) (scope : Scope) (f : Addr) (cd : Value) (A : Around) (outer : List Env) (s : Shared) (H : Hp) (E : XK) : Cx :=
  { cxOf CX P w K mg base N qual scope f cd A outer s H E with calm := false }
theorem inv_startM {CX : CXT} {P : Program} {w : World} {K : PySem.W.Frag} {mg : Str → Option Value} {base : Heap} {N ps : List Str} {qual : Str} {scope : Scope} {f : Addr} {cd : Value} {A : Around} {outer : List Env} {s s1 : Shared} {H : Hp} {E : XK} {us : List Value} {vs : List V}
    (S : FnScope N ps scope) (e0 : Env0 P w K mg base A outer s H) (hl : vs.length = ps.length) (r : Vals vs us)
    (x : InCallC s s.heap.objs.size (bindL (envOfC qual scope s.heap.objs.size f cd).kindOf (ps.zip us) fun _ => none) (cellsFrom (s.heap.objs.size + 1) scope.names []) (bindC (envOfC qual scope s.heap.objs.size f cd).kindOf (ps.zip us) fun _ => none) s1) :
    Inv (cxM CX P w K mg base N qual scope f cd A outer s H E) [] (L2.start N vs) H s1 := by
  have I := inv_start (CX := CX) (E := E) (A := { A with handled := none }) S rfl ⟨e0.frames, e0.mod, e0.bs, e0.bsz, e0.funs, e0.frf, e0.hok, e0.bare⟩ hl r x
  have o := I.ok
  exact ⟨⟨o.mod, o.kind, o.glob, o.blt, o.above, o.inj, o.has, o.cab, fun z => Bool.noConfusion (show false = true from z), Around.frames_deeper e0.frames, o.stk, o.exf, o.bs, o.bsz, o.noex, o.exfs, o.funs, o.frf⟩, I.os, I.bare, I.base, I.loc, I.cell, I.free, I.freeC, I.pin, I.hok, I.len⟩
theorem fn_ofM {P : Program} {w : World} {K : PySem.W.Frag} {mg : Str → Option Value} {base : Heap} {k : Nat} {x qual : Str} {st : Stmt} {f : Addr} {fd : FuncData} {N ps : List Str} {sp : Sp} (F : Fun K x qual st f fd) (S : FnScope N ps (defScope st))
    (len : ∀ vs H Q E, sp vs H Q E → vs.length = ps.length)
    (hbody : ∀ (cdv : Value) (A : Around) (outer : List Env) (s : Shared) (H : Hp) (vs : List V) (Q : VK) (E : XK), L2H.RoomH k (A.deeper (envOfC qual (defScope st) s.heap.objs.size f cdv)) → sp vs H Q E →
      ∃ t, PSs (cxM CX0 P w K mg base N qual (defScope st) f cdv A outer s H E).nox (defBody st) t ∧ t { nx := fun _ H' => Q .non H', rt := Q } (L2.start N vs) H) :
    FnM P w K mg base CX0 (k + 1) f fd ps sp := by
  obtain ⟨oc, od, kV, doc, pm, an, cdv, ct, osl, rfl, lk, hcd⟩ := F.ex
  refine ⟨len, fun A outer s H args us vs Q E hr e0 hb r hsp => ?_⟩
  have KX : K.In s.heap := e0.mod.kin.keeps fun b o e => (e0.bs b o e).1
  refine codeAny_call_function hr.depth (KX _ _ lk) rfl S.co S.gen rfl (PySem.W.codeRec_of KX hcd) (hb _ _ _ _ ?_)
  refine wpAny_newFunctionEnv_cells S.kind (fun ⟨n, v⟩ hy => (S.par n (List.of_mem_zip hy).1).imp id fun q => ⟨q, PySem.W.cellsFrom_some _ _ _ (.inl q)⟩) fun env he s1 x => ?_
  subst he
  refine ⟨(e0.mod.nolimit.keeps fun b o e => (e0.bs b o e).1).keeps x.toInCall.keep, codeAny_func ?_⟩
  obtain ⟨t, ht, hq⟩ := hbody cdv A outer s H vs Q E (hr.deeper _) hsp
  refine wpAny_mono (ht.nox.run [] s1 (L2.start N vs) H _ (inv_startM S e0 (len _ _ _ _ hsp) r x) hq) (fun fl s' hs => ?_) fun e s' hs => hs
  cases fl with
  | ret u =>
    obtain ⟨v, σ', H', J, rv, q⟩ := hs
    exact ⟨v, H', J.os, J.bare, J.base, J.hok, rv, q⟩
  | next =>
    obtain ⟨σ', H', J, q⟩ := hs
    exact ⟨V.non, H', J.os, J.bare, J.base, J.hok, rfl, q⟩
  | brk =>
    obtain ⟨_, _, _, q⟩ := hs
    exact q.elim
  | cont =>
    obtain ⟨_, _, _, q⟩ := hs
    exact q.elim
structure CalM (P : Program) (w : World) (K : PySem.W.Frag) (mg : Str → Option Value) (base : Heap) (k : Nat) (x : Str) (sp : Sp) : Prop where
  ex : ∃ (f : Addr) (fd : FuncData) (ps : List Str), FnM P w K mg base CX0 k f fd ps sp ∧ mg x = some (.ref f) ∧ PySem.W.keepIn K (.ref f) = true ∧ Binds K fd ps []
section
variable {X : Cx} {k j : Nat} {x m : Str} {sp : Sp} {p pos apos : Pos} {e o : Expr} {es : List Expr} {ta : TE} {t : TA}
theorem e_callM (c : CalM X.prog X.w X.K X.mg X.base k x sp) (hr : L2H.RoomH j X.A) (hk : k ≤ j) (hg : Gl X x) (ha : PA X (e :: es) t)
    (hdb : (x == ("__debug__" : Str)) = false := by decide) (he : starEach (e :: es) X.env = (false, eval e X.env) :: starEach es X.env := by rfl) (hpl : (backTo pos (starEach es X.env)).any (·.1) = false := by rfl) :
    PE X (.Call (.Name x p) (e :: es) [] pos) (tCall sp [] E0 t) := by
  obtain ⟨f, fd, ps, F, hm, kp, b⟩ := c.ex
  refine ⟨fun pins s σ H Q I h => ?_⟩
  refine wpAny_Call_Name_kw (ld_glob I hg hm ?_ hdb)
  refine PySem.W.callWith_K (h₀ := X.base) I.ok.mod.kin kp (thn (ha.run pos pins s σ H _ I h) fun us s1 ⟨vs, H1, I1, r, q⟩ => ⟨I1.kIn, ?_⟩) he hpl
  have q : sp vs H1 Q E0 := by
    have q' : sp (vs ++ []) H1 Q E0 := q
    simpa only [List.append_nil] using q'
  have hl : us.length = ps.length := by rw [← r.length]; exact F.len _ _ _ _ q
  have b' := b s1 us I1.kIn (by rw [List.append_nil]; exact hl)
  rw [List.append_nil] at b'
  refine wpAny_call (codeAny_mono (F.run X.A X.stack s1 H1 ⟨us, []⟩ us vs Q E0 (hr.mono hk) I1.env0 b' r q) fun r s' hq => ?_)
  cases r with
  | error e => exact hq.elim
  | ok fl =>
    cases fl with
    | ret u => exact I1.after hq
    | next => exact False.elim hq
    | brk => exact False.elim hq
    | cont => exact False.elim hq
end
theorem hu64M {k : Nat} {A : Around} (r : L2H.RoomH k A) : A.units + 64 < cLine := by have := r.un; omega
theorem hu65M {k : Nat} {A : Around} (r : L2H.RoomH k A) : A.units + 65 < cLine := by have := r.un; omega
/-! ### try -/
def tTryW (K : PySem.W.Frag) (c : Value) (i : Nat) (ts : TS) (tb : WX → TS) : TS := fun D σ H => tb (wValW K c i (fun _ _ => ts) (fun _ _ _ _ => False) D) D σ H
theorem r_tryW {K : PySem.W.Frag} {c : Value} {i : Nat} {ts : TS} {tb : WX → TS} {D : Ends} {σ : L2.St} {H : Hp} (h : tb (wValW K c i (fun _ _ => ts) (fun _ _ _ _ => False) D) D σ H) : tTryW K c i ts tb D σ H := h
theorem w_valW {K : PySem.W.Frag} {c cls : Value} {i : Nat} {ts : TS} {D : Ends} {σ : L2.St} {H : Hp} (hm : PySem.W.exmOne K cls c = some true)
    (h : ∀ a, H a = none → ts { nx := fun σ' H' => D.nx (σ'.set i none) H', rt := D.rt, bk := fun _ _ => False, ct := fun _ _ => False } (σ.set i (some (.ref a))) (upd H a (ExV cls a))) : wValW K c i (fun _ _ => ts) (fun _ _ _ _ => False) D cls none σ H :=
  ⟨rfl, true, hm, fun _ a ha => h a ha, fun z => nomatch z⟩
section
variable {X : Cx} {x n : Str} {c : Value} {i : Nat} {body suite : List Stmt} {b₀ : Stmt} {np pos pos' : Pos} {tb : WX → TS} {ts : TS}
theorem ps_tryW (hs : X.stack = X.env :: X.outer) (hf : X.env.frame = some X.env.locals) (hN : X.N.Nodup) (hi : X.N[i]? = some n) (hln : X.env.kindOf n = some .local) (hc : Names X x c) (hex : X.ex = [])
    (hb : ∀ (W : WX) (pn : List (Addr × Obj)) (xe : Value → Shared → Prop), Takes (X.tr pn xe) W → PassesOwn (model X.prog X.w) X.A X.env xe → PSs (X.tr pn xe) body (tb W))
    (hsu : ∀ (a : Addr) (pn : List (Addr × Obj)), PSs (X.suite a pn) (b₀ :: suite) ts) :
    PS X (.Try body [.ExceptHandler (some (.Name x np)) (some n) (b₀ :: suite) pos'] [] [] pos) (tTryW X.K c i ts tb) :=
  ps_try_valW (tb := tb) (ts := fun _ _ => ts) hs hf hN hi hln hc takes0 hex (fun W pn xe tk po => hb W pn xe tk po) fun a _ pn => hsu a pn
end
end Hm

namespace Hm
open PySem L2
/-! F3m: the reading's steps. kaf_suf: one step; kaf_pre: what stands at an address; tlg_ne: two addresses differ. -/
local macro_rules | `(tactic| tlg_ne) => `(tactic| first
  | with_reducible assumption
  | with_reducible exact Ne.symm (by assumption)
  | (refine' ne_old (by assumption) ?a; (case a => (kaf_pre; done)))
  | (refine' ne_new (by assumption) ?a; (case a => (kaf_pre; done)))
  | fail "tlg_ne")
local macro_rules | `(tactic| kaf_pre) => `(tactic| first
  | with_reducible assumption
  | ((with_reducible refine' upd_at ?a); (case a => rfl))
  | ((first
      | (with_reducible refine' get_new (by assumption) ?b)
      | ((with_reducible refine' get_set ?a ?b); (case a => (tlg_ne; done)))
      | ((with_reducible refine' Keep.get (by assumption) ?a ?b); (case a => (first | assumption | (intro z; exact z.elim) | fail "kaf_pre")))
      | fail "kaf_pre"); (case b => (kaf_pre; done)))
  | ((fail_if_success (with_reducible refine' is_upd ?_)); assumption)
  | ((with_reducible refine' get_setK ?a ?b ?e); (case a => (kaf_pre; done)); (case b => (kaf_pre; done)); (case e => (intro z; cases z; done)))
  | fail "kaf_pre")
local macro_rules | `(tactic| isplit) => `(tactic| first
  | assumption
  | ((with_reducible refine' seq_new (by assumption) ?a); (case a => (isplit; done)))
  | ((with_reducible refine' seq_keep (by assumption) ?a); (case a => (isplit; done))))
local macro_rules | `(tactic| kaf_suf) => `(tactic| first
  | with_reducible refine r_seq ?_
  | with_reducible refine r_asg ?_
  | ((with_reducible refine' r_var ?a ?_); (case a => rfl))
  | with_reducible refine r_c ?_
  | with_reducible refine r_gname ?_
  | with_reducible refine r_op ?_
  | with_reducible refine r_cons ?_
  | with_reducible refine r_nil ?_
  | with_reducible refine r_cb ?_
  | with_reducible refine r_call ?_
  | with_reducible refine r_meth ?_
  | with_reducible refine r_fld ?_
  | with_reducible refine r_if ?_
  | with_reducible refine r_test ?_
  | with_reducible refine r_kB ?_
  | with_reducible refine r_ite_tt ?_
  | with_reducible refine r_ite_ff ?_
  | with_reducible refine r_ite_nt ?_
  | with_reducible refine r_ite_nf ?_
  | ((with_reducible refine' r_iteT' ?a ?_); (case a => first | assumption | rfl | omega))
  | ((with_reducible refine' r_iteF' ?a ?_); (case a => first | assumption | omega))
  | ((with_reducible refine' r_iteNT' ?a ?_); (case a => first | assumption | omega))
  | ((with_reducible refine' r_iteNF' ?a ?_); (case a => first | assumption | rfl | omega))
  | with_reducible refine r_next ?_
  | with_reducible refine r_nx ?_
  | with_reducible refine r_rt ?_
  | with_reducible refine r_bk ?_
  | with_reducible refine r_ct ?_
  | with_reducible refine r_drop ?_
  | with_reducible refine r_ret ?_
  | with_reducible refine v_add ?_
  | with_reducible refine v_sub ?_
  | with_reducible refine v_eq ?_
  | with_reducible refine v_ne ?_
  | with_reducible refine v_lt ?_
  | with_reducible refine v_le ?_
  | with_reducible refine v_gt ?_
  | with_reducible refine v_ge ?_
  | ((with_reducible refine' v_mod ?a ?_); (case a => first | assumption | decide | omega))
  | ((with_reducible refine' v_mul ?a ?_); (case a => first | assumption | decide | omega))
  | ((with_reducible refine' v_div ?a ?_); (case a => first | assumption | decide | omega))
  | ((with_reducible refine' v_pow ?a ?_); (case a => exact ⟨by decide, by decide, by decide⟩))
  | ((with_reducible refine' v_ixL ?a ?b ?_); (case a => (kaf_pre; done)); (case b => (first | assumption | rfl)))
  | ((with_reducible refine' v_ixT ?a ?b ?_); (case a => (kaf_pre; done)); (case b => (first | assumption | rfl)))
  | ((with_reducible refine' v_lenL ?a ?_); (case a => (kaf_pre; done)))
  | ((with_reducible refine' v_lenT ?a ?_); (case a => (kaf_pre; done)))
  | ((with_reducible refine' v_lenK ?a ?_); (case a => (isplit; done)))
  | ((with_reducible refine' v_ixK ?a ?b ?_); (case a => (isplit; done)); (case b => (first | assumption | rfl)))
  | ((with_reducible refine' v_append ?a ?b ?_); (case a => (kaf_pre; done)); (case b => first | assumption | exact few1 (by simp; omega)))
  | ((with_reducible refine' r_krng1 ?a ?_); (case a => first | assumption | decide | omega))
  | with_reducible refine v_int ?_
  | with_reducible refine v_intB ?_
  | with_reducible refine v_max ?_
  | with_reducible refine v_min ?_
  | with_reducible refine r_and ?_
  | with_reducible refine r_or ?_
  | with_reducible refine r_not ?_
  | with_reducible refine r_tup ?_
  | with_reducible refine r_lst ?_
  | ((with_reducible refine' r_ktup ?a ?_); (case a => (simp; done)))
  | ((with_reducible refine' r_klst ?a ?_); (case a => (simp; done)))
  | with_reducible refine r_bm ?_
  | with_reducible refine r_bm0 ?_
  | ((with_reducible refine' r_kbm_l ?a ?_); (case a => (kaf_pre; done)))
  | with_reducible refine r_gsub ?_
  | ((with_reducible refine' v_setL ?a ?b ?_); (case a => (kaf_pre; done)); (case b => first | assumption | rfl))
  | with_reducible refine r_sfld ?_
  | with_reducible refine r_make ?_
  | with_reducible refine r_for ?_
  | with_reducible refine r_rng1 ?_
  | with_reducible refine r_iany ?_
  | ((with_reducible refine' r_kiterL ?a ?_); (case a => (kaf_pre; done)))
  | ((with_reducible refine' r_kiterT ?a ?_); (case a => (kaf_pre; done)))
  | with_reducible refine r_lc ?_
  | with_reducible refine r_yes ?_
  | with_reducible refine r_chain ?_
  | with_reducible refine r_andV ?_
  | with_reducible refine r_orV ?_
  | with_reducible refine r_notV ?_
  | with_reducible refine r_tru ?_
  | with_reducible refine r_tru_bl ?_
  | with_reducible refine r_un ?_
  | with_reducible refine r_rU ?_
  | with_reducible refine r_sl ?_
  | with_reducible refine r_nopart ?_
  | with_reducible refine r_part ?_
  | with_reducible refine r_kI ?_
  | with_reducible refine r_rev ?_
  | with_reducible refine r_lstRg1 ?_
  | with_reducible refine r_krg ?_
  | with_reducible refine v_isN ?_
  | with_reducible refine v_notN ?_
  | with_reducible refine v_isB ?_
  | with_reducible refine v_notB ?_
  | with_reducible refine v_eqS ?_
  | with_reducible refine v_neS ?_
  | ((with_reducible refine' v_isiI ?a ?_); (case a => first | with_reducible exact kit_int_int | with_reducible exact kit_int_bool | with_reducible exact kit_int_list | with_reducible exact kit_int_tuple | with_reducible exact kit_int_str))
  | ((with_reducible refine' v_isiB ?a ?_); (case a => first | with_reducible exact kit_bool_int | with_reducible exact kit_bool_bool | with_reducible exact kit_bool_list | with_reducible exact kit_bool_tuple | with_reducible exact kit_bool_str))
  | ((with_reducible refine' v_isiS ?a ?_); (case a => first | with_reducible exact kit_str_int | with_reducible exact kit_str_bool | with_reducible exact kit_str_list | with_reducible exact kit_str_tuple | with_reducible exact kit_str_str))
  | ((with_reducible refine' v_isiL ?a ?b ?_); (case a => (kaf_pre; done)); (case b => first | with_reducible exact kit_list_int | with_reducible exact kit_list_bool | with_reducible exact kit_list_list | with_reducible exact kit_list_tuple | with_reducible exact kit_list_str))
  | ((with_reducible refine' v_isiT ?a ?b ?_); (case a => (kaf_pre; done)); (case b => first | with_reducible exact kit_tuple_int | with_reducible exact kit_tuple_bool | with_reducible exact kit_tuple_list | with_reducible exact kit_tuple_tuple | with_reducible exact kit_tuple_str))
  | with_reducible refine r_brk ?_
  | with_reducible refine r_cont ?_
  | with_reducible refine r_par ?_
  | with_reducible refine r_par2 ?_
  | with_reducible refine v_abs ?_
  | ((with_reducible refine' v_listL ?a ?_); (case a => (kaf_pre; done)))
  | ((with_reducible refine' v_listT ?a ?_); (case a => (kaf_pre; done)))
  | ((with_reducible refine' v_set ?a ?b ?_); (case a => (kaf_pre; done)); (case b => first | assumption | omega | (simp; omega)))
  | ((with_reducible refine' v_sortedS ?a ?_); (case a => (kaf_pre; done)))
  | ((with_reducible refine' v_sortedL ?a ?_); (case a => (kaf_pre; done)))
  | ((with_reducible refine' v_tupleL ?a ?_); (case a => (kaf_pre; done)))
  | ((with_reducible refine' v_addL ?a ?b ?e ?_); (case a => (kaf_pre; done)); (case b => (kaf_pre; done)); (case e => first | assumption | exact few2 (by simp; omega)))
  | ((with_reducible refine' v_addT ?a ?b ?e ?_); (case a => (kaf_pre; done)); (case b => (kaf_pre; done)); (case e => first | assumption | exact few2 (by simp; omega))))

local macro_rules | `(tactic| kaf_suf) => `(tactic| first
  | with_reducible refine r_raiseC ?_
  | with_reducible refine r_raiseE ?_
  | with_reducible refine r_tryV ?_
  | with_reducible refine r_methS ?_
  | with_reducible refine r_callW ?_
  | with_reducible refine v_isiN kit_NoneType_int ?_)

local macro_rules | `(tactic| kaf_suf) => `(tactic| first
  | with_reducible refine r_tryW ?_)

def top (i : Nat) : Stmt := PySem.Challenge.pw_hotmoves_k14_words_and_refusals.main.body.getD i (.Pass ⟨0, 0, 0, 0⟩)
abbrev s_reached : Stmt := top 1
abbrev s_moves_by : Stmt := top 2
abbrev s_behind_right : Stmt := top 3
abbrev s_behind_left : Stmt := top 4
abbrev s_pair_holds : Stmt := top 5
abbrev s_pairs_by : Stmt := top 6
abbrev s_no_less : Stmt := top 7
abbrev s_compared : Stmt := top 8
abbrev s_holding : Stmt := top 9
abbrev s_pairs_right : Stmt := top 10
abbrev s_pairs_left : Stmt := top 11
abbrev s_barring : Stmt := top 12
abbrev s_paper : Stmt := top 13
abbrev s_all_in : Stmt := top 14
abbrev s_pair_bars : Stmt := top 15
abbrev s_is_game : Stmt := top 16
abbrev s_moves_around : Stmt := top 17
abbrev s_shows : Stmt := top 18
abbrev s_Book_init : Stmt := inClass (top 29) 0
abbrev s_Book_need : Stmt := inClass (top 29) 1
abbrev s_Book_game : Stmt := inClass (top 29) 2
abbrev s_Book_lefts : Stmt := inClass (top 29) 3
abbrev s_Book_rights : Stmt := inClass (top 29) 4
abbrev s_Book_depth : Stmt := inClass (top 29) 5
abbrev s_Book_many : Stmt := inClass (top 29) 6
abbrev s_Putting_init : Stmt := inClass (top 31) 0
abbrev s_Putting_turn : Stmt := inClass (top 31) 1
abbrev s_Putting_put : Stmt := inClass (top 31) 2
abbrev s_turned : Stmt := top 32
abbrev s_law_draws : Stmt := top 34
abbrev s_law_picked : Stmt := top 35
abbrev s_law_games : Stmt := top 36
abbrev s_law_loses : Stmt := top 37
abbrev s_law_bad : Stmt := top 38
abbrev s_law_class : Stmt := top 39
abbrev s_law_asked : Stmt := top 40
abbrev s_law_refused : Stmt := top 41
abbrev s_law : Stmt := top 42
structure Cn where
  P : Program
  w : World
  K : PySem.W.Frag
  cGameError : Addr
  cNoGame : Addr
  cNoRoad : Addr
  cNoBoard : Addr
  cNoNumber : Addr
  cNoText : Addr
  cNoName : Addr
  cNoRow : Addr
  cBook : Addr
  cPutting : Addr
structure Txt (c : Cn) (mg : Str → Option Value) : Prop where
  n_ValueError : mg "ValueError" = none
  n_abs : mg "abs" = none
  n_bool : mg "bool" = none
  n_enumerate : mg "enumerate" = none
  n_int : mg "int" = none
  n_isinstance : mg "isinstance" = none
  n_len : mg "len" = none
  n_list : mg "list" = none
  n_max : mg "max" = none
  n_range : mg "range" = none
  n_set : mg "set" = none
  n_sorted : mg "sorted" = none
  n_str : mg "str" = none
  n_tuple : mg "tuple" = none
  g_GameError : mg "GameError" = some (.ref c.cGameError)
  g_NoGame : mg "NoGame" = some (.ref c.cNoGame)
  g_NoRoad : mg "NoRoad" = some (.ref c.cNoRoad)
  g_NoBoard : mg "NoBoard" = some (.ref c.cNoBoard)
  g_NoNumber : mg "NoNumber" = some (.ref c.cNoNumber)
  g_NoText : mg "NoText" = some (.ref c.cNoText)
  g_NoName : mg "NoName" = some (.ref c.cNoName)
  g_NoRow : mg "NoRow" = some (.ref c.cNoRow)
  g_Book : mg "Book" = some (.ref c.cBook)
  g_Putting : mg "Putting" = some (.ref c.cPutting)
  x_GameError : XCl c.K mg "GameError" c.cGameError
  m_GameError : PySem.W.exmOne c.K (.ref c.cGameError) (.ref c.cGameError) = some true
  x_NoBoard : XCl c.K mg "NoBoard" c.cNoBoard
  m_NoBoard : PySem.W.exmOne c.K (.ref c.cNoBoard) (.ref c.cGameError) = some true
  x_NoGame : XCl c.K mg "NoGame" c.cNoGame
  m_NoGame : PySem.W.exmOne c.K (.ref c.cNoGame) (.ref c.cGameError) = some true
  x_NoName : XCl c.K mg "NoName" c.cNoName
  m_NoName : PySem.W.exmOne c.K (.ref c.cNoName) (.ref c.cGameError) = some true
  x_NoNumber : XCl c.K mg "NoNumber" c.cNoNumber
  m_NoNumber : PySem.W.exmOne c.K (.ref c.cNoNumber) (.ref c.cGameError) = some true
  x_NoRoad : XCl c.K mg "NoRoad" c.cNoRoad
  m_NoRoad : PySem.W.exmOne c.K (.ref c.cNoRoad) (.ref c.cGameError) = some true
  x_NoRow : XCl c.K mg "NoRow" c.cNoRow
  m_NoRow : PySem.W.exmOne c.K (.ref c.cNoRow) (.ref c.cGameError) = some true
  x_NoText : XCl c.K mg "NoText" c.cNoText
  m_NoText : PySem.W.exmOne c.K (.ref c.cNoText) (.ref c.cGameError) = some true
  e_GameError : ExcC c.K c.cGameError
  iv_GameError : PySem.W.kitOne c.K (.ref c.cGameError) (.type "ValueError") = some true
  i_GameError_GameError : PySem.W.kitOne c.K (.ref c.cGameError) (.ref c.cGameError) = some true
  i_GameError_NoBoard : PySem.W.kitOne c.K (.ref c.cGameError) (.ref c.cNoBoard) = some false
  i_GameError_NoGame : PySem.W.kitOne c.K (.ref c.cGameError) (.ref c.cNoGame) = some false
  i_GameError_NoName : PySem.W.kitOne c.K (.ref c.cGameError) (.ref c.cNoName) = some false
  i_GameError_NoNumber : PySem.W.kitOne c.K (.ref c.cGameError) (.ref c.cNoNumber) = some false
  i_GameError_NoRoad : PySem.W.kitOne c.K (.ref c.cGameError) (.ref c.cNoRoad) = some false
  i_GameError_NoRow : PySem.W.kitOne c.K (.ref c.cGameError) (.ref c.cNoRow) = some false
  i_GameError_NoText : PySem.W.kitOne c.K (.ref c.cGameError) (.ref c.cNoText) = some false
  e_NoBoard : ExcC c.K c.cNoBoard
  iv_NoBoard : PySem.W.kitOne c.K (.ref c.cNoBoard) (.type "ValueError") = some true
  i_NoBoard_GameError : PySem.W.kitOne c.K (.ref c.cNoBoard) (.ref c.cGameError) = some true
  i_NoBoard_NoBoard : PySem.W.kitOne c.K (.ref c.cNoBoard) (.ref c.cNoBoard) = some true
  i_NoBoard_NoGame : PySem.W.kitOne c.K (.ref c.cNoBoard) (.ref c.cNoGame) = some false
  i_NoBoard_NoName : PySem.W.kitOne c.K (.ref c.cNoBoard) (.ref c.cNoName) = some false
  i_NoBoard_NoNumber : PySem.W.kitOne c.K (.ref c.cNoBoard) (.ref c.cNoNumber) = some false
  i_NoBoard_NoRoad : PySem.W.kitOne c.K (.ref c.cNoBoard) (.ref c.cNoRoad) = some false
  i_NoBoard_NoRow : PySem.W.kitOne c.K (.ref c.cNoBoard) (.ref c.cNoRow) = some false
  i_NoBoard_NoText : PySem.W.kitOne c.K (.ref c.cNoBoard) (.ref c.cNoText) = some false
  e_NoGame : ExcC c.K c.cNoGame
  iv_NoGame : PySem.W.kitOne c.K (.ref c.cNoGame) (.type "ValueError") = some true
  i_NoGame_GameError : PySem.W.kitOne c.K (.ref c.cNoGame) (.ref c.cGameError) = some true
  i_NoGame_NoBoard : PySem.W.kitOne c.K (.ref c.cNoGame) (.ref c.cNoBoard) = some false
  i_NoGame_NoGame : PySem.W.kitOne c.K (.ref c.cNoGame) (.ref c.cNoGame) = some true
  i_NoGame_NoName : PySem.W.kitOne c.K (.ref c.cNoGame) (.ref c.cNoName) = some false
  i_NoGame_NoNumber : PySem.W.kitOne c.K (.ref c.cNoGame) (.ref c.cNoNumber) = some false
  i_NoGame_NoRoad : PySem.W.kitOne c.K (.ref c.cNoGame) (.ref c.cNoRoad) = some false
  i_NoGame_NoRow : PySem.W.kitOne c.K (.ref c.cNoGame) (.ref c.cNoRow) = some false
  i_NoGame_NoText : PySem.W.kitOne c.K (.ref c.cNoGame) (.ref c.cNoText) = some false
  e_NoName : ExcC c.K c.cNoName
  iv_NoName : PySem.W.kitOne c.K (.ref c.cNoName) (.type "ValueError") = some true
  i_NoName_GameError : PySem.W.kitOne c.K (.ref c.cNoName) (.ref c.cGameError) = some true
  i_NoName_NoBoard : PySem.W.kitOne c.K (.ref c.cNoName) (.ref c.cNoBoard) = some false
  i_NoName_NoGame : PySem.W.kitOne c.K (.ref c.cNoName) (.ref c.cNoGame) = some false
  i_NoName_NoName : PySem.W.kitOne c.K (.ref c.cNoName) (.ref c.cNoName) = some true
  i_NoName_NoNumber : PySem.W.kitOne c.K (.ref c.cNoName) (.ref c.cNoNumber) = some false
  i_NoName_NoRoad : PySem.W.kitOne c.K (.ref c.cNoName) (.ref c.cNoRoad) = some false
  i_NoName_NoRow : PySem.W.kitOne c.K (.ref c.cNoName) (.ref c.cNoRow) = some false
  i_NoName_NoText : PySem.W.kitOne c.K (.ref c.cNoName) (.ref c.cNoText) = some false
  e_NoNumber : ExcC c.K c.cNoNumber
  iv_NoNumber : PySem.W.kitOne c.K (.ref c.cNoNumber) (.type "ValueError") = some true
  i_NoNumber_GameError : PySem.W.kitOne c.K (.ref c.cNoNumber) (.ref c.cGameError) = some true
  i_NoNumber_NoBoard : PySem.W.kitOne c.K (.ref c.cNoNumber) (.ref c.cNoBoard) = some false
  i_NoNumber_NoGame : PySem.W.kitOne c.K (.ref c.cNoNumber) (.ref c.cNoGame) = some false
  i_NoNumber_NoName : PySem.W.kitOne c.K (.ref c.cNoNumber) (.ref c.cNoName) = some false
  i_NoNumber_NoNumber : PySem.W.kitOne c.K (.ref c.cNoNumber) (.ref c.cNoNumber) = some true
  i_NoNumber_NoRoad : PySem.W.kitOne c.K (.ref c.cNoNumber) (.ref c.cNoRoad) = some false
  i_NoNumber_NoRow : PySem.W.kitOne c.K (.ref c.cNoNumber) (.ref c.cNoRow) = some false
  i_NoNumber_NoText : PySem.W.kitOne c.K (.ref c.cNoNumber) (.ref c.cNoText) = some false
  e_NoRoad : ExcC c.K c.cNoRoad
  iv_NoRoad : PySem.W.kitOne c.K (.ref c.cNoRoad) (.type "ValueError") = some true
  i_NoRoad_GameError : PySem.W.kitOne c.K (.ref c.cNoRoad) (.ref c.cGameError) = some true
  i_NoRoad_NoBoard : PySem.W.kitOne c.K (.ref c.cNoRoad) (.ref c.cNoBoard) = some false
  i_NoRoad_NoGame : PySem.W.kitOne c.K (.ref c.cNoRoad) (.ref c.cNoGame) = some false
  i_NoRoad_NoName : PySem.W.kitOne c.K (.ref c.cNoRoad) (.ref c.cNoName) = some false
  i_NoRoad_NoNumber : PySem.W.kitOne c.K (.ref c.cNoRoad) (.ref c.cNoNumber) = some false
  i_NoRoad_NoRoad : PySem.W.kitOne c.K (.ref c.cNoRoad) (.ref c.cNoRoad) = some true
  i_NoRoad_NoRow : PySem.W.kitOne c.K (.ref c.cNoRoad) (.ref c.cNoRow) = some false
  i_NoRoad_NoText : PySem.W.kitOne c.K (.ref c.cNoRoad) (.ref c.cNoText) = some false
  e_NoRow : ExcC c.K c.cNoRow
  iv_NoRow : PySem.W.kitOne c.K (.ref c.cNoRow) (.type "ValueError") = some true
  i_NoRow_GameError : PySem.W.kitOne c.K (.ref c.cNoRow) (.ref c.cGameError) = some true
  i_NoRow_NoBoard : PySem.W.kitOne c.K (.ref c.cNoRow) (.ref c.cNoBoard) = some false
  i_NoRow_NoGame : PySem.W.kitOne c.K (.ref c.cNoRow) (.ref c.cNoGame) = some false
  i_NoRow_NoName : PySem.W.kitOne c.K (.ref c.cNoRow) (.ref c.cNoName) = some false
  i_NoRow_NoNumber : PySem.W.kitOne c.K (.ref c.cNoRow) (.ref c.cNoNumber) = some false
  i_NoRow_NoRoad : PySem.W.kitOne c.K (.ref c.cNoRow) (.ref c.cNoRoad) = some false
  i_NoRow_NoRow : PySem.W.kitOne c.K (.ref c.cNoRow) (.ref c.cNoRow) = some true
  i_NoRow_NoText : PySem.W.kitOne c.K (.ref c.cNoRow) (.ref c.cNoText) = some false
  e_NoText : ExcC c.K c.cNoText
  iv_NoText : PySem.W.kitOne c.K (.ref c.cNoText) (.type "ValueError") = some true
  i_NoText_GameError : PySem.W.kitOne c.K (.ref c.cNoText) (.ref c.cGameError) = some true
  i_NoText_NoBoard : PySem.W.kitOne c.K (.ref c.cNoText) (.ref c.cNoBoard) = some false
  i_NoText_NoGame : PySem.W.kitOne c.K (.ref c.cNoText) (.ref c.cNoGame) = some false
  i_NoText_NoName : PySem.W.kitOne c.K (.ref c.cNoText) (.ref c.cNoName) = some false
  i_NoText_NoNumber : PySem.W.kitOne c.K (.ref c.cNoText) (.ref c.cNoNumber) = some false
  i_NoText_NoRoad : PySem.W.kitOne c.K (.ref c.cNoText) (.ref c.cNoRoad) = some false
  i_NoText_NoRow : PySem.W.kitOne c.K (.ref c.cNoText) (.ref c.cNoRow) = some false
  i_NoText_NoText : PySem.W.kitOne c.K (.ref c.cNoText) (.ref c.cNoText) = some true
  cl_Book : Cls c.K c.cBook
  na_Book_depths : NoAttr c.K c.cBook "depths"
  na_Book_moves : NoAttr c.K c.cBook "moves"
  na_Book_numbers : NoAttr c.K c.cBook "numbers"
  cl_Putting : Cls c.K c.cPutting
  na_Putting_book : NoAttr c.K c.cPutting "book"
  na_Putting_sums : NoAttr c.K c.cPutting "sums"
  na_Putting_turned : NoAttr c.K c.cPutting "turned"
  F_reached : ∃ (f : Addr) (fd : FuncData), Fun c.K "reached" "reached" s_reached f fd ∧ mg "reached" = some (.ref f) ∧ Binds c.K fd ["book", "g"] []
  F_moves_by : ∃ (f : Addr) (fd : FuncData), Fun c.K "moves_by" "moves_by" s_moves_by f fd ∧ mg "moves_by" = some (.ref f) ∧ Binds c.K fd ["book", "games"] []
  F_behind_right : ∃ (f : Addr) (fd : FuncData), Fun c.K "behind_right" "behind_right" s_behind_right f fd ∧ mg "behind_right" = some (.ref f) ∧ Binds c.K fd ["moves", "known", "r", "y"] []
  F_behind_left : ∃ (f : Addr) (fd : FuncData), Fun c.K "behind_left" "behind_left" s_behind_left f fd ∧ mg "behind_left" = some (.ref f) ∧ Binds c.K fd ["moves", "known", "x", "p"] []
  F_pair_holds : ∃ (f : Addr) (fd : FuncData), Fun c.K "pair_holds" "pair_holds" s_pair_holds f fd ∧ mg "pair_holds" = some (.ref f) ∧ Binds c.K fd ["moves", "known", "x", "y"] []
  F_pairs_by : ∃ (f : Addr) (fd : FuncData), Fun c.K "pairs_by" "pairs_by" s_pairs_by f fd ∧ mg "pairs_by" = some (.ref f) ∧ Binds c.K fd ["book", "g", "h"] []
  F_no_less : ∃ (f : Addr) (fd : FuncData), Fun c.K "no_less" "no_less" s_no_less f fd ∧ mg "no_less" = some (.ref f) ∧ Binds c.K fd ["book", "g", "h"] []
  F_compared : ∃ (f : Addr) (fd : FuncData), Fun c.K "compared" "compared" s_compared f fd ∧ mg "compared" = some (.ref f) ∧ Binds c.K fd ["book", "g", "h"] []
  F_holding : ∃ (f : Addr) (fd : FuncData), Fun c.K "holding" "holding" s_holding f fd ∧ mg "holding" = some (.ref f) ∧ Binds c.K fd ["moves", "known", "x", "y"] []
  F_pairs_right : ∃ (f : Addr) (fd : FuncData), Fun c.K "pairs_right" "pairs_right" s_pairs_right f fd ∧ mg "pairs_right" = some (.ref f) ∧ Binds c.K fd ["moves", "r", "x", "y"] []
  F_pairs_left : ∃ (f : Addr) (fd : FuncData), Fun c.K "pairs_left" "pairs_left" s_pairs_left f fd ∧ mg "pairs_left" = some (.ref f) ∧ Binds c.K fd ["moves", "p", "x", "y"] []
  F_barring : ∃ (f : Addr) (fd : FuncData), Fun c.K "barring" "barring" s_barring f fd ∧ mg "barring" = some (.ref f) ∧ Binds c.K fd ["moves", "known", "x", "y"] []
  F_paper : ∃ (f : Addr) (fd : FuncData), Fun c.K "paper" "paper" s_paper f fd ∧ mg "paper" = some (.ref f) ∧ Binds c.K fd ["book", "g", "h"] []
  F_all_in : ∃ (f : Addr) (fd : FuncData), Fun c.K "all_in" "all_in" s_all_in f fd ∧ mg "all_in" = some (.ref f) ∧ Binds c.K fd ["pairs", "listed"] []
  F_pair_bars : ∃ (f : Addr) (fd : FuncData), Fun c.K "pair_bars" "pair_bars" s_pair_bars f fd ∧ mg "pair_bars" = some (.ref f) ∧ Binds c.K fd ["moves", "listed", "x", "y"] []
  F_is_game : ∃ (f : Addr) (fd : FuncData), Fun c.K "is_game" "is_game" s_is_game f fd ∧ mg "is_game" = some (.ref f) ∧ Binds c.K fd ["book", "number"] []
  F_moves_around : ∃ (f : Addr) (fd : FuncData), Fun c.K "moves_around" "moves_around" s_moves_around f fd ∧ mg "moves_around" = some (.ref f) ∧ Binds c.K fd ["book", "listed"] []
  F_shows : ∃ (f : Addr) (fd : FuncData), Fun c.K "shows" "shows" s_shows f fd ∧ mg "shows" = some (.ref f) ∧ Binds c.K fd ["book", "g", "h", "answer"] []
  F_Book_init : ∃ (f : Addr) (fd : FuncData), Fun c.K "__init__" "Book.__init__" s_Book_init f fd ∧ Mk c.K c.cBook f ∧ Binds c.K fd ["self"] []
  F_Book_need : ∃ (f : Addr) (fd : FuncData), Fun c.K "need" "Book.need" s_Book_need f fd ∧ Meth c.K c.cBook "need" f ∧ Binds c.K fd ["self", "g"] []
  F_Book_game : ∃ (f : Addr) (fd : FuncData), Fun c.K "game" "Book.game" s_Book_game f fd ∧ Meth c.K c.cBook "game" f ∧ Binds c.K fd ["self", "lefts", "rights"] []
  F_Book_lefts : ∃ (f : Addr) (fd : FuncData), Fun c.K "lefts" "Book.lefts" s_Book_lefts f fd ∧ Meth c.K c.cBook "lefts" f ∧ Binds c.K fd ["self", "g"] []
  F_Book_rights : ∃ (f : Addr) (fd : FuncData), Fun c.K "rights" "Book.rights" s_Book_rights f fd ∧ Meth c.K c.cBook "rights" f ∧ Binds c.K fd ["self", "g"] []
  F_Book_depth : ∃ (f : Addr) (fd : FuncData), Fun c.K "depth" "Book.depth" s_Book_depth f fd ∧ Meth c.K c.cBook "depth" f ∧ Binds c.K fd ["self", "g"] []
  F_Book_many : ∃ (f : Addr) (fd : FuncData), Fun c.K "many" "Book.many" s_Book_many f fd ∧ Meth c.K c.cBook "many" f ∧ Binds c.K fd ["self"] []
  F_Putting_init : ∃ (f : Addr) (fd : FuncData), Fun c.K "__init__" "Putting.__init__" s_Putting_init f fd ∧ Mk c.K c.cPutting f ∧ Binds c.K fd ["self", "book"] []
  F_Putting_turn : ∃ (f : Addr) (fd : FuncData), Fun c.K "turn" "Putting.turn" s_Putting_turn f fd ∧ Meth c.K c.cPutting "turn" f ∧ Binds c.K fd ["self", "g"] []
  F_Putting_put : ∃ (f : Addr) (fd : FuncData), Fun c.K "put" "Putting.put" s_Putting_put f fd ∧ Meth c.K c.cPutting "put" f ∧ Binds c.K fd ["self", "g", "h"] []
  F_turned : ∃ (f : Addr) (fd : FuncData), Fun c.K "turned" "turned" s_turned f fd ∧ mg "turned" = some (.ref f) ∧ Binds c.K fd ["book", "g"] []
  F_law_draws : ∃ (f : Addr) (fd : FuncData), Fun c.K "_law_draws" "_law_draws" s_law_draws f fd ∧ mg "_law_draws" = some (.ref f) ∧ Binds c.K fd ["script", "many"] []
  F_law_picked : ∃ (f : Addr) (fd : FuncData), Fun c.K "_law_picked" "_law_picked" s_law_picked f fd ∧ mg "_law_picked" = some (.ref f) ∧ Binds c.K fd ["x", "order"] []
  F_law_games : ∃ (f : Addr) (fd : FuncData), Fun c.K "_law_games" "_law_games" s_law_games f fd ∧ mg "_law_games" = some (.ref f) ∧ Binds c.K fd ["book", "d", "spot", "many"] []
  F_law_loses : ∃ (f : Addr) (fd : FuncData), Fun c.K "_law_loses" "_law_loses" s_law_loses f fd ∧ mg "_law_loses" = some (.ref f) ∧ Binds c.K fd ["moves", "x", "y", "side", "known"] []
  F_law_bad : ∃ (f : Addr) (fd : FuncData), Fun c.K "_law_bad" "_law_bad" s_law_bad f fd ∧ mg "_law_bad" = some (.ref f) ∧ Binds c.K fd ["book", "cell"] []
  F_law_class : ∃ (f : Addr) (fd : FuncData), Fun c.K "_law_class" "_law_class" s_law_class f fd ∧ mg "_law_class" = some (.ref f) ∧ Binds c.K fd ["e"] []
  F_law_asked : ∃ (f : Addr) (fd : FuncData), Fun c.K "_law_asked" "_law_asked" s_law_asked f fd ∧ mg "_law_asked" = some (.ref f) ∧ Binds c.K fd ["book", "way", "g", "h"] []
  F_law_refused : ∃ (f : Addr) (fd : FuncData), Fun c.K "_law_refused" "_law_refused" s_law_refused f fd ∧ mg "_law_refused" = some (.ref f) ∧ Binds c.K fd ["book", "way", "g", "h"] []
/-! plain pieces of the deck's text, for laws without a deck -/
theorem keep_noneM {M : Addr → Prop} {H H' : Hp} {p : Addr} (k : Keep M H H') (n : ¬ M p) (h : H' p = none) : H p = none := by
  cases e : H p with
  | none => rfl
  | some o => rw [k p o n e] at h; cases h
theorem atI_get {xs : List V} {i : Int} {v : V} {n : Nat} (h : xs[n]? = some v) (e : i = n) : atI xs i = some v := by
  subst e
  have hn : n < xs.length := (List.getElem?_eq_some_iff.mp h).1
  unfold atI ixN
  rw [if_pos (Int.natCast_nonneg n), if_pos (by omega)]
  simpa using h

/-! the book -/
/-- the rising list of the members -/
def ins (x : Int) : List Int → List Int
  | [] => [x]
  | y :: r => if x < y then x :: y :: r else if x = y then y :: r else y :: ins x r
def canon (l : List Int) : List Int := l.foldr ins []
theorem ins_mem {x z : Int} : ∀ {l : List Int}, z ∈ ins x l ↔ z = x ∨ z ∈ l
  | [] => by simp [ins]
  | y :: r => by
    unfold ins
    split
    · simp
    · split
      · rename_i e; subst e; simp
      · rw [List.mem_cons, ins_mem, List.mem_cons]; constructor
        · rintro (h | h | h) <;> simp [h]
        · rintro (h | h | h) <;> simp [h]
theorem ins_up {x : Int} : ∀ {l : List Int}, l.Pairwise (· < ·) → (ins x l).Pairwise (· < ·)
  | [], _ => by simp [ins]
  | y :: r, h => by
    have h' := List.pairwise_cons.mp h
    unfold ins
    split
    · rename_i lt
      refine List.pairwise_cons.mpr ⟨fun z hz => ?_, h⟩
      rcases List.mem_cons.mp hz with e | hz
      · omega
      · have := h'.1 z hz; omega
    · split
      · exact h
      · refine List.pairwise_cons.mpr ⟨fun z hz => ?_, ins_up h'.2⟩
        rcases ins_mem.mp hz with e | hz
        · omega
        · exact h'.1 z hz
theorem canon_mem {z : Int} : ∀ {l : List Int}, z ∈ canon l ↔ z ∈ l
  | [] => by simp [canon]
  | y :: r => by
    show z ∈ ins y (canon r) ↔ _
    rw [ins_mem, canon_mem, List.mem_cons]
theorem canon_up : ∀ (l : List Int), (canon l).Pairwise (· < ·)
  | [] => List.Pairwise.nil
  | y :: r => ins_up (canon_up r)
theorem up_eq : ∀ {a b : List Int}, a.Pairwise (· < ·) → b.Pairwise (· < ·) → (∀ z, z ∈ a ↔ z ∈ b) → a = b
  | [], [], _, _, _ => rfl
  | [], y :: r, _, _, h => absurd ((h y).mpr List.mem_cons_self) (by simp)
  | x :: a, [], _, _, h => absurd ((h x).mp List.mem_cons_self) (by simp)
  | x :: a, y :: b, ha, hb, h => by
    have ha' := List.pairwise_cons.mp ha
    have hb' := List.pairwise_cons.mp hb
    have e : x = y := by
      rcases List.mem_cons.mp ((h x).mp List.mem_cons_self) with e | h1
      · exact e
      · rcases List.mem_cons.mp ((h y).mpr List.mem_cons_self) with e | h2
        · exact e.symm
        · have := hb'.1 x h1; have := ha'.1 y h2; omega
    subst e
    refine congrArg (x :: ·) (up_eq ha'.2 hb'.2 fun z => ⟨fun hz => ?_, fun hz => ?_⟩)
    · rcases List.mem_cons.mp ((h z).mp (List.mem_cons_of_mem _ hz)) with e | h1
      · have := ha'.1 z hz; omega
      · exact h1
    · rcases List.mem_cons.mp ((h z).mpr (List.mem_cons_of_mem _ hz)) with e | h1
      · have := hb'.1 z hz; omega
      · exact h1
theorem canon_eq {l ns : List Int} (h1 : ns.Pairwise (· < ·)) (h2 : ∀ z, z ∈ ns ↔ z ∈ l) : ns = canon l := up_eq h1 (canon_up l) fun z => by rw [h2, canon_mem]
theorem ins_len (x : Int) : ∀ (l : List Int), (ins x l).length ≤ l.length + 1
  | [] => by simp [ins]
  | y :: r => by
    have := ins_len x r
    unfold ins
    split
    · simp
    · split
      · simp
      · simp only [List.length_cons]; omega
theorem canon_len' : ∀ (l : List Int), (canon l).length ≤ l.length
  | [] => by simp [canon]
  | y :: r => by
    have h1 := canon_len' r
    have h2 := ins_len y (canon r)
    show (ins y (canon r)).length ≤ _
    simp only [List.length_cons]; omega
theorem canon_self {l : List Int} (h : l.Pairwise (· < ·)) : canon l = l := (canon_eq h fun _ => Iff.rfl).symm
/-- a game: left's moves, right's -/
abbrev Gm := List Int × List Int
def gkey (g : Gm) : NestedKey := .tup [.tup (g.1.map .num), .tup (g.2.map .num)]
theorem num_inj : ∀ {a b : List Int}, a.map NestedKey.num = b.map NestedKey.num → a = b
  | [], [], _ => rfl
  | [], _ :: _, h => by simp at h
  | _ :: _, [], h => by simp at h
  | x :: a, y :: b, h => by
    rw [List.map_cons, List.map_cons] at h
    injection h with h1 h2
    injection h1 with h1
    rw [h1, num_inj h2]
theorem gkey_inj {a b : Gm} (h : gkey a = gkey b) : a = b := by
  unfold gkey at h
  injection h with h
  injection h with h1 h2
  injection h1 with h1
  injection h2 with h2 _
  injection h2 with h2
  exact Prod.ext (num_inj h1) (num_inj h2)
/-- the depths of the moves -/
def dps (ds ms : List Int) : List Int := ms.map fun m => ds[m.toNat]?.getD 0
def deepest (ds : List Int) (ms : List Int) (d : Int) : Prop := (ms = [] → d = 0) ∧ (∀ x ∈ dps ds ms, x + 1 ≤ d) ∧ (ms ≠ [] → ∃ x ∈ dps ds ms, d = x + 1)
theorem dps_more {ds e ms : List Int} (h : ∀ m ∈ ms, 0 ≤ m ∧ m < ds.length) : dps (ds ++ e) ms = dps ds ms := by
  refine List.map_congr_left fun m hm => ?_
  obtain ⟨h1, h2⟩ := h m hm
  rw [List.getElem?_append_left (by omega)]
/-- what holds of a book's games -/
structure GOk (gs : List Gm) : Prop where
  zero : gs[0]? = some ([], [])
  nd : gs.Nodup
  up : ∀ g ∈ gs, g.1.Pairwise (· < ·) ∧ g.2.Pairwise (· < ·)
  low : ∀ (i : Nat) (g : Gm), gs[i]? = some g → ∀ m ∈ g.1 ++ g.2, 0 ≤ m ∧ m < i
/-- the depths -/
structure DOk (gs : List Gm) (ds : List Int) : Prop where
  len : ds.length = gs.length
  at_ : ∀ (i : Nat) (g : Gm) (d : Int), gs[i]? = some g → ds[i]? = some d → deepest ds (g.1 ++ g.2) d
def bookFs (mv nm dp : Addr) : List (Str × V) := [("moves", .ref mv), ("numbers", .ref nm), ("depths", .ref dp)]
theorem bookFs_moves {mv nm dp : Addr} : (bookFs mv nm dp).lookup ("moves" : Str) = some (.ref mv) := by rfl
theorem bookFs_numbers {mv nm dp : Addr} : (bookFs mv nm dp).lookup ("numbers" : Str) = some (.ref nm) := by rfl
theorem bookFs_depths {mv nm dp : Addr} : (bookFs mv nm dp).lookup ("depths" : Str) = some (.ref dp) := by rfl
theorem bookFs_need {mv nm dp : Addr} : (bookFs mv nm dp).lookup ("need" : Str) = none := by rfl
theorem bookFs_game {mv nm dp : Addr} : (bookFs mv nm dp).lookup ("game" : Str) = none := by rfl
theorem bookFs_lefts {mv nm dp : Addr} : (bookFs mv nm dp).lookup ("lefts" : Str) = none := by rfl
theorem bookFs_rights {mv nm dp : Addr} : (bookFs mv nm dp).lookup ("rights" : Str) = none := by rfl
theorem bookFs_depth {mv nm dp : Addr} : (bookFs mv nm dp).lookup ("depth" : Str) = none := by rfl
theorem bookFs_many {mv nm dp : Addr} : (bookFs mv nm dp).lookup ("many" : Str) = none := by rfl
/-- the tuple at t is the game g -/
def GAt (H : Hp) (t : Addr) (g : Gm) : Prop := ∃ a b, H t = some (.tup [.ref a, .ref b]) ∧ H a = some (.tup (g.1.map V.int)) ∧ H b = some (.tup (g.2.map V.int))
structure BookAt (c : Cn) (H : Hp) (b : Addr) (M : Addr → Prop) (gs : List Gm) (ds : List Int) : Prop where
  ok : GOk gs
  dok : DOk gs ds
  ex : ∃ (dx mv nm dp : Addr) (ts : List Addr) (xs : List NX), H b = some (.ins c.cBook dx (bookFs mv nm dp)) ∧ H mv = some (.lst (ts.map V.ref)) ∧ Paired (GAt H) ts gs ∧
    NdAt c.P c.w H nm xs ∧ xs.length = gs.length ∧ (∀ g : Gm, nval xs (gkey g) = if g ∈ gs then some (V.int (gs.idxOf g)) else none) ∧ H dp = some (.lst (ds.map V.int)) ∧
    M mv ∧ M nm ∧ M dp ∧ mv ≠ dp ∧ ∀ x, M x → x = mv ∨ x = nm ∨ x = dp
theorem BookAt.ins_ {c : Cn} {H : Hp} {b : Addr} {M : Addr → Prop} {gs : List Gm} {ds : List Int} (B : BookAt c H b M gs ds) : ∃ dx mv nm dp, H b = some (.ins c.cBook dx (bookFs mv nm dp)) := by
  obtain ⟨dx, mv, nm, dp, _, _, h, _⟩ := B.ex
  exact ⟨dx, mv, nm, dp, h⟩
theorem paired_get {α β : Type} {R : α → β → Prop} : ∀ {xs : List α} {ys : List β} {i : Nat} {y : β}, Paired R xs ys → ys[i]? = some y → ∃ x, xs[i]? = some x ∧ R x y
  | _, _, _, _, .nil, h => by simp at h
  | _, _, 0, _, .cons r _, h => by simp at h; subst h; exact ⟨_, rfl, r⟩
  | _, _, i + 1, _, .cons _ t, h => by
    obtain ⟨x, h1, h2⟩ := paired_get (i := i) t (by simpa using h)
    exact ⟨x, by simpa using h1, h2⟩
theorem paired_keep {α β : Type} {R S : α → β → Prop} {xs : List α} {ys : List β} (h : Paired R xs ys) (f : ∀ a b, R a b → S a b) : Paired S xs ys := Paired.mapP h f
theorem GAt.keep {H H' : Hp} {t : Addr} {g : Gm} (h : GAt H t g) (k : ∀ b xs, H b = some (.tup xs) → H' b = some (.tup xs)) : GAt H' t g := by
  obtain ⟨a, b, h1, h2, h3⟩ := h
  exact ⟨a, b, k _ _ h1, k _ _ h2, k _ _ h3⟩
section
variable {c : Cn} {H H' : Hp} {b : Addr} {M N : Addr → Prop} {gs : List Gm} {ds : List Int}
theorem BookAt.cell (B : BookAt c H b M gs ds) {x : Addr} (h : M x) : (∃ l, H x = some (.lst l)) ∨ ∃ φ, H x = some (.ext φ) := by
  obtain ⟨dx, mv, nm, dp, ts, xs, _, h2, _, h4, _, _, h7, _, _, _, _, h8⟩ := B.ex
  rcases h8 x h with rfl | rfl | rfl
  · exact .inl ⟨_, h2⟩
  · exact .inr ⟨_, h4.here⟩
  · exact .inl ⟨_, h7⟩
theorem BookAt.new (B : BookAt c H b M gs ds) {x : Addr} (h : H x = none) : ¬ M x := fun z => by
  rcases B.cell z with ⟨_, e⟩ | ⟨_, e⟩ <;> rw [h] at e <;> cases e
theorem BookAt.tupN (B : BookAt c H b M gs ds) {x : Addr} {l : List V} (h : H x = some (.tup l)) : ¬ M x := fun z => by
  rcases B.cell z with ⟨_, e⟩ | ⟨_, e⟩ <;> rw [h] at e <;> cases e
theorem BookAt.insN (B : BookAt c H b M gs ds) {x C dx : Addr} {l : List (Str × V)} (h : H x = some (.ins C dx l)) : ¬ M x := fun z => by
  rcases B.cell z with ⟨_, e⟩ | ⟨_, e⟩ <;> rw [h] at e <;> cases e
theorem BookAt.keep (B : BookAt c H b M gs ds) (k : Keep N H H') (n : ∀ x, N x → ∃ l, H x = some (.lst l)) (d : ∀ x, M x → ¬ N x) : BookAt c H' b M gs ds := by
  obtain ⟨dx, mv, nm, dp, ts, xs, h1, h2, h3, h4, h5, h6, h7, m1, m2, m3, ne, h8⟩ := B.ex
  have kt : ∀ q ys, H q = some (.tup ys) → H' q = some (.tup ys) := fun q ys e => k _ _ (fun z => by obtain ⟨l, e'⟩ := n q z; rw [e] at e'; cases e') e
  refine ⟨B.ok, B.dok, dx, mv, nm, dp, ts, xs, k _ _ (fun z => ?_) h1, k _ _ (d _ m1) h2, paired_keep h3 fun t g q => q.keep kt, ⟨k _ _ (d _ m2) h4.here, fun x hx => ⟨NkV.keeps kt _ _ (h4.keys x hx).1, (h4.keys x hx).2⟩⟩, h5, h6, k _ _ (d _ m3) h7, m1, m2, m3, ne, h8⟩
  obtain ⟨l, e'⟩ := n b z; rw [h1] at e'; cases e'
theorem BookAt.same (B : BookAt c H b M gs ds) (k : Keep Nil H H') : BookAt c H' b M gs ds := B.keep k (fun _ z => z.elim) fun _ _ z => z
theorem BookAt.pos (B : BookAt c H b M gs ds) : 0 < gs.length := by
  have := B.ok.zero
  exact (List.getElem?_eq_some_iff.mp this).1
end
local macro_rules | `(tactic| kaf_suf) => `(tactic| first
  | ((with_reducible refine' r_kfld ?a (Txt.cl_Book (by assumption)) (Txt.na_Book_moves (by assumption)) bookFs_moves ?_); (case a => (kaf_pre; done)))
  | ((with_reducible refine' r_kfld ?a (Txt.cl_Book (by assumption)) (Txt.na_Book_numbers (by assumption)) bookFs_numbers ?_); (case a => (kaf_pre; done)))
  | ((with_reducible refine' r_kfld ?a (Txt.cl_Book (by assumption)) (Txt.na_Book_depths (by assumption)) bookFs_depths ?_); (case a => (kaf_pre; done)))
  | ((with_reducible refine' r_kmeth ?a ?b ?_); (case a => (kaf_pre; done)); (case b => (first | exact bookFs_need | exact bookFs_game | exact bookFs_lefts | exact bookFs_rights | exact bookFs_depth | exact bookFs_many))))

/-- what is a game's number, what is none -/
def GoodV (n : Nat) (v : V) : Prop := ∃ i : Int, v = .int i ∧ 0 ≤ i ∧ i < n
inductive BadV (H : Hp) (n : Nat) : V → Prop
  | int {i : Int} : (i < 0 ∨ (n : Int) ≤ i) → BadV H n (.int i)
  | bl (b : Bool) : BadV H n (.bl b)
  | non : BadV H n .non
  | str (s : Str) : BadV H n (.str s)
  | lst {a : Addr} {xs : List V} : H a = some (.lst xs) → BadV H n (.ref a)
  | tup {a : Addr} {xs : List V} : H a = some (.tup xs) → BadV H n (.ref a)
  | dic {a : Addr} {kvs : List (L2.Key × V)} : H a = some (.dK kvs) → BadV H n (.ref a)
theorem BadV.keep {H H' : Hp} {n : Nat} {v : V} (b : BadV H n v) (k : Keep Nil H H') : BadV H' n v := by
  cases b with
  | int h => exact .int h
  | bl b => exact .bl b
  | non => exact .non
  | str s => exact .str s
  | lst h => exact .lst (k.get (fun z => z) h)
  | tup h => exact .tup (k.get (fun z => z) h)
  | dic h => exact .dic (k.get (fun z => z) h)
theorem GoodV.not {H : Hp} {n : Nat} {v : V} (g : GoodV n v) (b : BadV H n v) : False := by
  obtain ⟨i, rfl, h0, h1⟩ := g
  cases b with
  | int h => omega
abbrev N_Book_need : List Str := ["self", "g"]
theorem sc_Book_need : FnScope N_Book_need ["self", "g"] (defScope s_Book_need) := ⟨rfl, rfl, rfl, by decide +kernel, rfl, by decide +kernel, by decide +kernel⟩
def t_Book_need (c : Cn) (E : XK) : TS :=
  (tIfS (tOr (tNot (tTru c.K (tCB (rIsi c.K) (tCons (tVar 1) (tCons (tC (.ty "int")) tNil))))) (tOr (tTru c.K (tCB (rIsi c.K) (tCons (tVar 1) (tCons (tC (.ty "bool")) tNil)))) (tOr (tTest (tOp (cLt c.K) (tVar 1) (tC (.int 0)))) (tTest (tOp cGe (tVar 1) (tCB (kLen c.K) (tCons (tFld c.K (tVar 0) "moves") tNil)))))))
  (tRaiseC c.cNoGame (fun cls d _ H => E cls d H))
  tNext)
def sp_Book_need (c : Cn) : Sp := fun vs H Q E => vs.length = 2 ∧ ∃ (b : Addr) (M : Addr → Prop) (gs : List Gm) (ds : List Int) (g : Int), vs = [.ref b, .int g] ∧ BookAt c H b M gs ds ∧ 0 ≤ g ∧ g < gs.length ∧ Q .non H
theorem p_Book_need {c : Cn} {mg : Str → Option Value} (T : Txt c mg) {vs : List V} {H : Hp} {Q : VK} {E : XK} (h : sp_Book_need c vs H Q E) : t_Book_need c E { nx := fun _ H' => Q .non H', rt := Q } (start N_Book_need vs) H := by
  obtain ⟨_, b, M, gs, ds, g, rfl, B, g0, g1, k⟩ := h
  obtain ⟨dx, mv, nm, dp, ts, xs, h1, h2, h3, h4, h5, h6, h7, m1, m2, m3, ne, h8⟩ := B.ex
  have hl : ((ts.map V.ref).length : Int) = gs.length := by rw [List.length_map, Paired.length h3]
  unfold t_Book_need
  repeat kaf_suf
  exact k
def sy_Book_need (c : Cn) : Sp := fun vs H Q E => vs.length = 2 ∧ ∃ (b : Addr) (M : Addr → Prop) (gs : List Gm) (ds : List Int) (v : V), vs = [.ref b, v] ∧ BookAt c H b M gs ds ∧ BadV H gs.length v ∧ E (.ref c.cNoGame) none H
theorem q_Book_need {c : Cn} {mg : Str → Option Value} (T : Txt c mg) {vs : List V} {H : Hp} {Q : VK} {E : XK} (h : sy_Book_need c vs H Q E) : t_Book_need c E { nx := fun _ H' => Q .non H', rt := Q } (start N_Book_need vs) H := by
  obtain ⟨_, b, M, gs, ds, v, rfl, B, bad, k⟩ := h
  obtain ⟨dx, mv, nm, dp, ts, xs, h1, h2, h3, h4, h5, h6, h7, m1, m2, m3, ne, h8⟩ := B.ex
  have hl : ((ts.map V.ref).length : Int) = gs.length := by rw [List.length_map, Paired.length h3]
  unfold t_Book_need
  have out : tRaiseC c.cNoGame (fun cls d _ H => E cls d H) { nx := fun _ H' => Q .non H', rt := Q } (start N_Book_need [V.ref b, v]) H := r_raiseC k
  cases bad with
  | @int i h =>
    by_cases lo : i < 0
    · (repeat kaf_suf)
      exact out
    · (repeat kaf_suf)
      exact out
  | bl b => (repeat kaf_suf); exact out
  | non => (repeat kaf_suf); exact out
  | str s => (repeat kaf_suf); exact out
  | lst h => (repeat kaf_suf); exact out
  | tup h => (repeat kaf_suf); exact out
  | dic h =>
    (repeat kaf_suf)
    refine v_isi (.ty "int") (.base (.dK h)) (kit_ty kit_dict_int) ?_
    (repeat kaf_suf)
    exact out
def sx_Book_need (c : Cn) : Sp := fun vs H Q E => vs.length = 2 ∧ (sp_Book_need c vs H Q E ∨ sy_Book_need c vs H Q E)
theorem metx_Book_need {c : Cn} {mg : Str → Option Value} {base : Heap} (T : Txt c mg) : Met c.P c.w c.K mg base (L2.CX c.P c.w) 1 c.cBook "need" (sx_Book_need c) := by
  obtain ⟨f, fd, F, g, b⟩ := T.F_Book_need
  exact ⟨f, fd, ["self", "g"], T.cl_Book, g, F.okX (k := 0) (N := N_Book_need) sc_Book_need (fun vs H Q E h => h.1) (fun cdv A outer s H vs Q E hr h => ⟨t_Book_need c E, by
  exact (pss_one (ps_if (PW.pt (pw_or (pt_not (p_tru (pe_callB k_isi (by rfl) T.n_isinstance (by decide +kernel) (pa_cons (pv 1) (pa_cons (pe_bltn rfl T.n_int (by decide +kernel) rfl) pa_nil))))) (pw_or (p_tru (pe_callB k_isi (by rfl) T.n_isinstance (by decide +kernel) (pa_cons (pv 1) (pa_cons (pe_bltn rfl T.n_bool (by decide +kernel) rfl) pa_nil)))) (pw_or (pt_cmpR (o_lt (hu64 hr)) (pv 1) pe_int (nomark _)) (pw_or1 (pt_cmpR o_ge (pv 1) (pe_callB k_len (by rfl) T.n_len (by decide +kernel) (pa_cons (pe_fld (pv 0) rfl) pa_nil)) (nomark _))))))) (pss_one (ps_raiseC rfl (takes_of rfl rfl rfl rfl) T.x_NoGame rfl)) pss_nil)), h.2.elim (p_Book_need T) (q_Book_need T)⟩), b⟩
theorem met_Book_need {c : Cn} {mg : Str → Option Value} {base : Heap} (T : Txt c mg) : Met c.P c.w c.K mg base (L2.CX c.P c.w) 1 c.cBook "need" (sp_Book_need c) := by
  obtain ⟨f, fd, ps, cl, m, F, b⟩ := (metx_Book_need T).ex
  exact ⟨⟨f, fd, ps, cl, m, F.imp fun vs H Q E h => ⟨h.1, .inl h⟩, b⟩⟩
/-! the games behind a putting -/
def addG (gs : List Gm) (k : Gm) : List Gm := if k ∈ gs then gs else gs ++ [k]
def ixG (gs : List Gm) (k : Gm) : Nat := gs.idxOf k
theorem nk_nums {H : Hp} : ∀ (l : List Int), NkVs H (l.map .num) (l.map V.int)
  | [] => by simp [NkVs]
  | x :: r => by
    simp only [List.map_cons, NkVs]
    exact ⟨_, _, rfl, by simp [NkV], nk_nums r⟩
theorem GAt.nk {H : Hp} {t : Addr} {g : Gm} (h : GAt H t g) : NkV H (gkey g) (.ref t) := by
  obtain ⟨a, b, h1, h2, h3⟩ := h
  unfold gkey
  simp only [NkV]
  refine ⟨t, _, rfl, h1, ?_⟩
  simp only [NkVs, NkV]
  exact ⟨_, _, rfl, ⟨a, _, rfl, h2, nk_nums _⟩, _, _, rfl, ⟨b, _, rfl, h3, nk_nums _⟩, rfl⟩
theorem dep_nums : ∀ (l : List Int), NestedKey.depthAll (l.map .num) ≤ 0
  | [] => by simp [NestedKey.depthAll]
  | x :: r => by
    have := dep_nums r
    simp only [List.map_cons, NestedKey.depthAll, NestedKey.depth]; omega
theorem gkey_depth (g : Gm) : (gkey g).depth ≤ 8 := by
  have h1 := dep_nums g.1
  have h2 := dep_nums g.2
  unfold gkey
  simp only [NestedKey.depth, NestedKey.depthAll]; omega
theorem nd_neL {P : Program} {w : World} {H : Hp} {a x : Addr} {xs : List NX} {l : List V} (N : NdAt P w H a xs) (h : H x = some (.lst l)) : x ≠ a := fun z => by
  rw [z, N.here] at h; unfold NdO at h; cases Option.some.inj h
theorem nd_neT {P : Program} {w : World} {H : Hp} {a x : Addr} {xs : List NX} {l : List V} (N : NdAt P w H a xs) (h : H x = some (.tup l)) : x ≠ a := fun z => by
  rw [z, N.here] at h; unfold NdO at h; cases Option.some.inj h
theorem nd_neI {P : Program} {w : World} {H : Hp} {a x C dx : Addr} {xs : List NX} {l : List (Str × V)} (N : NdAt P w H a xs) (h : H x = some (.ins C dx l)) : x ≠ a := fun z => by
  rw [z, N.here] at h; unfold NdO at h; cases Option.some.inj h
theorem lt_ne {H : Hp} {a x : Addr} {l m : List V} (N : H a = some (.lst m)) (h : H x = some (.tup l)) : x ≠ a := fun z => by
  rw [z, N] at h; cases h
theorem li_ne {H : Hp} {a x C dx : Addr} {l : List (Str × V)} {m : List V} (N : H a = some (.lst m)) (h : H x = some (.ins C dx l)) : x ≠ a := fun z => by
  rw [z, N] at h; cases h
theorem nput_new {xs : List NX} {k : NestedKey} {a : Addr} {v : V} (h : nval xs k = none) : nput xs k a v = xs ++ [(k, a, v)] := by
  unfold nput; rw [h]; rfl
theorem nval_snoc {xs : List NX} {k k' : NestedKey} {a : Addr} {v : V} : nval (xs ++ [(k, a, v)]) k' = (nval xs k').or (if k = k' then some v else none) := by
  unfold nval
  rw [List.find?_append]
  cases e : xs.find? fun x => decide (x.1 = k') with
  | some q => simp
  | none =>
    by_cases h : k = k'
    · simp [h]
    · simp [h]
theorem v_ninN {P : Program} {w : World} {K : PySem.W.Frag} {H : Hp} {Q : VK} {p a : Addr} {k : NestedKey} {xs : List NX} (N : NdAt P w H a xs) (kp : NkV H k (.ref p)) (d : k.depth ≤ 8) (q : Q (.bl (!(nval xs k).isSome)) H) : cNotIn P w K (.ref p) (.ref a) H Q := by
  refine .inr (.inr (.inr (.inr ⟨a, p, k, xs, rfl, rfl, N, kp, d, ?_⟩)))
  simpa using q
theorem v_inN {P : Program} {w : World} {K : PySem.W.Frag} {H : Hp} {Q : VK} {p a : Addr} {k : NestedKey} {xs : List NX} (N : NdAt P w H a xs) (kp : NkV H k (.ref p)) (d : k.depth ≤ 8) (q : Q (.bl (nval xs k).isSome) H) : cIn P w K (.ref p) (.ref a) H Q := by
  refine .inr (.inr (.inr (.inr ⟨a, p, k, xs, rfl, rfl, N, kp, d, ?_⟩)))
  simpa using q
theorem v_ixN {P : Program} {w : World} {K : PySem.W.Frag} {H : Hp} {Q : VK} {p a : Addr} {k : NestedKey} {xs : List NX} {v : V} (N : NdAt P w H a xs) (kp : NkV H k (.ref p)) (d : k.depth ≤ 8) (e : nval xs k = some v) (q : Q v H) : bIx P w K (.ref a) (.ref p) H Q :=
  .inr (.inr (.inr (.inr ⟨a, p, k, xs, v, rfl, rfl, N, kp, d, e, q⟩)))
theorem v_setN {P : Program} {w : World} {H : Hp} {Q : Hp → Prop} {p a : Addr} {k : NestedKey} {xs : List NX} {v : V} (N : NdAt P w H a xs) (kp : NkV H k (.ref p)) (d : k.depth ≤ 8) (l : xs.length < sizeLine) (q : Q (upd H a (NdO P w a (nput xs k p v)))) : bSet P w (.ref a) (.ref p) v H Q :=
  .inr (.inr ⟨a, p, k, xs, rfl, rfl, N, kp, d, l, q⟩)
theorem GOk.add {gs : List Gm} (o : GOk gs) {ls rs : List Int} (h : ∀ m ∈ ls ++ rs, 0 ≤ m ∧ m < gs.length) : GOk (addG gs (canon ls, canon rs)) := by
  unfold addG
  split
  · exact o
  · rename_i ni
    have pos : 0 < gs.length := (List.getElem?_eq_some_iff.mp o.zero).1
    refine ⟨?_, ?_, fun g hg => ?_, fun i g hi m hm => ?_⟩
    · rw [List.getElem?_append_left pos]; exact o.zero
    · refine List.nodup_append.mpr ⟨o.nd, by simp, fun a ha b hb => ?_⟩
      cases List.mem_singleton.mp hb
      exact fun z => ni (z ▸ ha)
    · rcases List.mem_append.mp hg with hg | hg
      · exact o.up g hg
      · cases List.mem_singleton.mp hg
        exact ⟨canon_up _, canon_up _⟩
    · by_cases lt : i < gs.length
      · rw [List.getElem?_append_left lt] at hi
        exact o.low i g hi m hm
      · have hl := (List.getElem?_eq_some_iff.mp hi).1
        have e : i = gs.length := by rw [List.length_append] at hl; simp at hl; omega
        subst e
        rw [List.getElem?_append_right (Nat.le_refl _)] at hi
        simp at hi
        subst hi
        rw [List.mem_append, canon_mem, canon_mem, ← List.mem_append] at hm
        exact h m hm
theorem DOk.add {gs : List Gm} {ds : List Int} (d : DOk gs ds) (o : GOk gs) {k : Gm} (h : ∀ m ∈ k.1 ++ k.2, 0 ≤ m ∧ m < gs.length) (ne : k.1 ++ k.2 ≠ []) {m : Int} (hm : m ∈ dps ds (k.1 ++ k.2)) (hx : ∀ x ∈ dps ds (k.1 ++ k.2), x ≤ m) : DOk (gs ++ [k]) (ds ++ [1 + m]) := by
  refine ⟨by simp [d.len], fun i g e hg he => ?_⟩
  by_cases lt : i < gs.length
  · rw [List.getElem?_append_left lt] at hg
    rw [List.getElem?_append_left (by rw [d.len]; exact lt)] at he
    have b : ∀ m ∈ g.1 ++ g.2, 0 ≤ m ∧ m < ds.length := fun m hm => by have := o.low i g hg m hm; rw [d.len]; omega
    unfold deepest
    rw [dps_more b]
    exact d.at_ i g e hg he
  · have hl := (List.getElem?_eq_some_iff.mp hg).1
    have e : i = gs.length := by rw [List.length_append] at hl; simp at hl; omega
    subst e
    rw [List.getElem?_append_right (Nat.le_refl _)] at hg
    rw [← d.len, List.getElem?_append_right (Nat.le_refl _)] at he
    simp at hg he
    subst hg he
    unfold deepest
    rw [dps_more (by rw [d.len]; exact h)]
    exact ⟨fun z => absurd z ne, fun x q => by have := hx x q; omega, fun _ => ⟨m, hm, by omega⟩⟩
theorem ixG_get {gs : List Gm} {k : Gm} (h : k ∈ gs) : gs[ixG gs k]? = some k := by
  have l := List.idxOf_lt_length_of_mem h
  rw [ixG, List.getElem?_eq_getElem l, List.getElem_idxOf l]
theorem addG_mem (gs : List Gm) (k : Gm) : k ∈ addG gs k := by
  unfold addG; split
  · assumption
  · simp
theorem addG_len {gs : List Gm} {k : Gm} : (addG gs k).length ≤ gs.length + 1 ∧ gs.length ≤ (addG gs k).length := by
  unfold addG; split <;> simp
theorem addG_get {gs : List Gm} {k g : Gm} {i : Nat} (h : gs[i]? = some g) : (addG gs k)[i]? = some g := by
  unfold addG; split
  · exact h
  · rw [List.getElem?_append_left (List.getElem?_eq_some_iff.mp h).1]; exact h
abbrev N_Book_game : List Str := ["self", "lefts", "rights", "g", "key"]
theorem sc_Book_game : FnScope N_Book_game ["self", "lefts", "rights"] (defScope s_Book_game) := ⟨rfl, rfl, rfl, by decide +kernel, rfl, by decide +kernel, by decide +kernel⟩
def t_Book_game (c : Cn) (E : XK) : TS :=
  (tSeq (tFor (iAny c.K (tOp (bAdd c.K) (tCB (kList c.K) (tCons (tVar 1) tNil)) (tCB (kList c.K) (tCons (tVar 2) tNil)))) (gName 3)
  (tDrop (tMeth c.cBook "need" (sx_Book_need c) [] E (tVar 0) (tCons (tVar 3) tNil))))
  (tSeq (tAsg (tTup (tCons (tCB (kTuple c.K) (tCons (tCB (kSorted c.K c.w) (tCons (tCB (uSetI c.K c.w) (tCons (tVar 1) tNil)) tNil)) tNil)) (tCons (tCB (kTuple c.K) (tCons (tCB (kSorted c.K c.w) (tCons (tCB (uSetI c.K c.w) (tCons (tVar 2) tNil)) tNil)) tNil)) tNil))) (gName 4))
  (C8.tCut (tIfS (tTest (tOp (cNotIn c.P c.w c.K) (tVar 4) (tFld c.K (tVar 0) "numbers")))
  (tSeq (tAsg (tCB (kLen c.K) (tCons (tFld c.K (tVar 0) "moves") tNil)) (gSub (tFld c.K (tVar 0) "numbers") (tVar 4) (bSet c.P c.w)))
  (tSeq (tDrop (tBM c.K "list" rAppend (tFld c.K (tVar 0) "moves") (tCons (tVar 4) tNil)))
  (tDrop (tBM c.K "list" rAppend (tFld c.K (tVar 0) "depths") (tCons (tOp (bAdd c.K) (tC (.int 1)) (tCB (kMax c.K) (tCons (tLc (iAny c.K (tOp (bAdd c.K) (tOp (bIx c.P c.w c.K) (tVar 4) (tC (.int 0))) (tOp (bIx c.P c.w c.K) (tVar 4) (tC (.int 1))))) (gName 3) tYes (tOp (bIx c.P c.w c.K) (tFld c.K (tVar 0) "depths") (tVar 3)) [3]) tNil))) tNil)))))
  tNext)
  (tRet (tOp (bIx c.P c.w c.K) (tFld c.K (tVar 0) "numbers") (tVar 4))))))
def sp_Book_game (c : Cn) : Sp := fun vs H Q E => vs.length = 3 ∧ ∃ (b l r : Addr) (M : Addr → Prop) (gs : List Gm) (ds ls rs : List Int), vs = [.ref b, .ref l, .ref r] ∧ BookAt c H b M gs ds ∧ H l = some (.lst (ls.map V.int)) ∧ H r = some (.lst (rs.map V.int)) ∧ ¬ M l ∧ ¬ M r ∧
  gs.length ≤ 90000 ∧ ls.length ≤ 4000 ∧ rs.length ≤ 4000 ∧ (∀ m ∈ ls ++ rs, 0 ≤ m ∧ m < gs.length) ∧
  ∀ (H' : Hp) (e : List Int), Keep M H H' → BookAt c H' b M (addG gs (canon ls, canon rs)) (ds ++ e) → Q (.int (ixG (addG gs (canon ls, canon rs)) (canon ls, canon rs))) H'
theorem p_Book_game {c : Cn} {mg : Str → Option Value} (T : Txt c mg) {vs : List V} {H : Hp} {Q : VK} {E : XK} (h : sp_Book_game c vs H Q E) : t_Book_game c E { nx := fun _ H' => Q .non H', rt := Q } (start N_Book_game vs) H := by
  obtain ⟨_, b, l, r, M, gs, ds, ls, rs, rfl, B, hl, hr, nl, nr, fw1, fw2, fw3, low, k⟩ := h
  unfold t_Book_game
  repeat kaf_suf
  intro p1 hp1
  repeat kaf_suf
  intro p2 hp2
  repeat kaf_suf
  intro p3 hp3
  repeat kaf_suf
  have kp3 : Keep Nil H (upd (upd (upd H p1 (.lst (ls.map V.int))) p2 (.lst (rs.map V.int))) p3 (.lst (ls.map V.int ++ rs.map V.int))) := ((Keep.alloc hp1).new hp2).new hp3
  have B3 := B.same kp3
  have hl3 := kp3.get (fun z => z) hl
  have hr3 := kp3.get (fun z => z) hr
  have h3 : upd (upd (upd H p1 (.lst (ls.map V.int))) p2 (.lst (rs.map V.int))) p3 (.lst (ls.map V.int ++ rs.map V.int)) p3 = some (.lst (ls.map V.int ++ rs.map V.int)) := upd_same
  generalize hH3 : upd (upd (upd H p1 (.lst (ls.map V.int))) p2 (.lst (rs.map V.int))) p3 (.lst (ls.map V.int ++ rs.map V.int)) = H3 at kp3 B3 hl3 hr3 h3 ⊢
  refine for_list (xs := ls.map V.int ++ rs.map V.int) (fun i σ H' => H' = H3 ∧ ∃ y, σ = [some (.ref b), some (.ref l), some (.ref r), y, none]) ⟨rfl, _, rfl⟩ ?_ ?_ ?_
  · rintro i σ H' hi ⟨rfl, y, rfl⟩; exact SqL.of h3
  · rintro i x σ H' hi ⟨rfl, y, rfl⟩
    obtain ⟨m, hm, rfl⟩ : ∃ m ∈ ls ++ rs, V.int m = x := by
      rw [← List.map_append] at hi
      have := List.mem_of_getElem? hi
      exact List.mem_map.mp this
    obtain ⟨hm0, hm1⟩ := low m hm
    obtain ⟨dx, mv, nm, dp, hb3⟩ := B3.ins_
    repeat kaf_suf
    refine ⟨rfl, .inl ⟨rfl, b, M, gs, ds, m, rfl, B3, hm0, hm1, ?_⟩⟩
    repeat kaf_suf
    exact ⟨rfl, _, rfl⟩
  · rintro σ H' ⟨rfl, y, rfl⟩
    have w1 : ls.length ≤ 4000 := by omega
    have w2 : rs.length ≤ 4000 := by omega
    repeat kaf_suf
    intro p4 c4 hp4 _
    repeat kaf_suf
    intro ns4 p5 u4 m4 _ hp5
    repeat kaf_suf
    intro p6 hp6
    repeat kaf_suf
    intro p7 c7 hp7 _
    repeat kaf_suf
    intro ns7 p8 u7 m7 _ hp8
    repeat kaf_suf
    intro p9 hp9
    repeat kaf_suf
    intro t ht
    repeat kaf_suf
    obtain rfl : ns4 = canon ls := canon_eq u4 (by simpa using m4)
    obtain rfl : ns7 = canon rs := canon_eq u7 (by simpa using m7)
    refine absS (S := fun HT => Keep Nil H HT ∧ GAt HT t (canon ls, canon rs)) ⟨?_, p6, p9, upd_same, by kaf_pre, by kaf_pre⟩ fun HT ⟨kT, gT⟩ => ?_
    · exact (((((((kp3.new hp4).new hp5).new hp6).new hp7).new hp8).new hp9).new ht)
    have BT := B.same kT
    obtain ⟨dx, mv, nm, dp, ts, xs, h1, h2, h3, h4, h5, h6, h7, m1, m2, m3, ne, h8⟩ := BT.ex
    have hlen := BT.dok.len
    have htl := Paired.length h3
    have hv := h6 (canon ls, canon rs)
    refine ⟨fun σ' H2 => ∃ y e, σ' = [some (.ref b), some (.ref l), some (.ref r), y, some (.ref t)] ∧ Keep M H H2 ∧ BookAt c H2 b M (addG gs (canon ls, canon rs)) (ds ++ e) ∧ GAt H2 t (canon ls, canon rs), ?_, ?_⟩
    · repeat kaf_suf
      refine v_ninN h4 gT.nk (gkey_depth _) ?_
      by_cases hin : (canon ls, canon rs) ∈ gs
      · rw [hv, if_pos hin]
        repeat kaf_suf
        exact ⟨_, [], rfl, kT.weak, by rw [List.append_nil, addG, if_pos hin]; exact BT, gT⟩
      · rw [hv, if_neg hin]
        rw [if_neg hin] at hv
        refine r_kB (r_ite_nf ?_)
        repeat kaf_suf
        have e1 := nd_neL h4 h2
        have e2 := nd_neL h4 h7
        have e3 := nd_neI h4 h1
        have e4 := li_ne h2 h1
        have e5 := li_ne h7 h1
        obtain ⟨ka, kb, t1, t2, t3⟩ := id gT
        have ea1 := nd_neT h4 t1
        have ea2 := lt_ne h2 t1
        have ea3 := lt_ne h7 t1
        have eb1 := nd_neT h4 t2
        have eb2 := lt_ne h2 t2
        have eb3 := lt_ne h7 t2
        have ec1 := nd_neT h4 t3
        have ec2 := lt_ne h2 t3
        have ec3 := lt_ne h7 t3
        refine v_setN h4 gT.nk (gkey_depth _) (few1 (by omega)) ?_
        rw [nput_new hv]
        repeat kaf_suf
        have g1 := canon_len' ls
        have g2 := canon_len' rs
        intro p H' hp' kp'
        repeat kaf_suf
        intro D hD
        have hall : ∀ m ∈ canon ls ++ canon rs, 0 ≤ m ∧ m < gs.length := fun m hm => low m (by rw [List.mem_append, canon_mem, canon_mem, ← List.mem_append] at hm; exact hm)
        have hDp : H' dp = some (.lst (ds.map V.int)) := by kaf_pre
        have hlen2 : (dps ds (canon ls ++ canon rs)).length = (canon ls ++ canon rs).length := List.length_map _
        refine lc_tup (xs := (canon ls).map V.int ++ (canon rs).map V.int) (fun i H2 => H2 D = some (.lst (((dps ds (canon ls ++ canon rs)).take i).map V.int)) ∧ Keep Nil H' H2) ⟨upd_same, Keep.alloc hD⟩ ?_ ?_ ?_
        · rintro i H2 _ ⟨_, k2⟩; exact SqT.of (by kaf_pre)
        · rintro i x H2 hi ⟨e2, k2⟩
          rw [← List.map_append, List.getElem?_map] at hi
          obtain ⟨m, hm, rfl⟩ := Option.map_eq_some_iff.mp hi
          obtain ⟨b1, b2⟩ := hall m (List.mem_of_getElem? hm)
          have hm' := (List.getElem?_eq_some_iff.mp hm).1
          rw [List.length_append] at hm'
          obtain ⟨n, rfl⟩ := Int.eq_ofNat_of_zero_le b1
          have hn : n < ds.length := by omega
          have hx : atI (ds.map V.int) (n : Int) = some (V.int ds[n]) := atI_get (n := n) (by simp [hn]) rfl
          repeat kaf_suf
          refine ⟨rfl, ?_⟩
          repeat kaf_suf
          refine ⟨_, e2, few1 (by simp; omega), ?_, k2.setN hD⟩
          rw [upd_same]
          have e : (dps ds (canon ls ++ canon rs))[i]? = some ds[n] := by
            rw [dps, List.getElem?_map, hm]; simp [hn]
          rw [List.take_succ, e]; simp
        · rintro H2 ⟨e2, k2⟩
          have e3 : H2 D = some (.lst ((dps ds (canon ls ++ canon rs)).map V.int)) := by
            rw [e2, List.take_of_length_le (by rw [hlen2]; simp)]
          repeat kaf_suf
          have ea : addG gs (canon ls, canon rs) = gs ++ [(canon ls, canon rs)] := if_neg hin
          have nee : canon ls ++ canon rs ≠ [] := fun z => by
            obtain ⟨z1, z2⟩ := List.append_eq_nil_iff.mp z
            rw [z1, z2] at hin
            exact hin (List.mem_of_getElem? B.ok.zero)
          refine v_maxL e3 (by rw [hlen2]; exact List.length_pos_iff.mpr nee) fun m hm hmax => ?_
          repeat kaf_suf
          have kf : Keep M HT (upd H2 dp (.lst (ds.map V.int ++ [V.int (1 + m)]))) := Keep.set (Keep.trans (Keep.trans (Keep.set (Keep.set Keep.refl m2) m1) kp'.weak) k2.weak) m3
          have kt : ∀ q ys, HT q = some (.tup ys) → (upd H2 dp (.lst (ds.map V.int ++ [V.int (1 + m)]))) q = some (.tup ys) := fun q ys e => kf q _ (BT.tupN e) e
          have gf := gT.keep kt
          have hnm : H' nm = some (NdO c.P c.w nm (xs ++ [(gkey (canon ls, canon rs), t, V.int ((ts.map V.ref).length : Nat))])) := kp'.get (fun z => z) (get_set e1.symm upd_same)
          refine ⟨_, [1 + m], rfl, kT.weak.trans kf, ⟨B.ok.add low, ?_, dx, mv, nm, dp, ts ++ [t], xs ++ [(gkey (canon ls, canon rs), t, V.int ((ts.map V.ref).length : Nat))], ?_, ?_, ?_, ⟨?_, ?_⟩, ?_, ?_, ?_, m1, m2, m3, ne, h8⟩, gf⟩
          · rw [ea]; exact B.dok.add B.ok hall nee hm hmax
          · kaf_pre
          · rw [List.map_append]; kaf_pre
          · rw [ea]; exact Paired.snoc (paired_keep h3 fun t g q => q.keep kt) gf
          · refine get_set ?_ (k2.get (fun z => z) hnm)
            tlg_ne
          · intro x hx
            rcases List.mem_append.mp hx with hx | hx
            · exact ⟨NkV.keeps kt _ _ (h4.keys x hx).1, (h4.keys x hx).2⟩
            · cases List.mem_singleton.mp hx
              exact ⟨gf.nk, gkey_depth _⟩
          · rw [ea]; simp [h5]
          · intro g
            rw [ea, nval_snoc, h6, List.length_map, htl]
            by_cases hg : g ∈ gs
            · rw [if_pos hg, if_pos (List.mem_append_left _ hg), List.idxOf_append, if_pos hg]; rfl
            · rw [if_neg hg]
              by_cases e : g = (canon ls, canon rs)
              · subst e
                rw [if_pos rfl, if_pos (List.mem_append_right _ List.mem_cons_self), List.idxOf_append, if_neg hg]
                simp
              · rw [if_neg (fun z => e (gkey_inj z).symm), if_neg (by simp [hg, e])]; rfl
          · rw [List.map_append]; exact upd_same
    · rintro σ' H2 ⟨y', e, rfl, k2, B2, g2⟩
      obtain ⟨dx, mv, nm, dp, ts, xs, h1, h2, h3, h4, h5, h6, h7, m1, m2, m3, ne, h8⟩ := B2.ex
      repeat kaf_suf
      refine v_ixN h4 g2.nk (gkey_depth _) ((h6 _).trans (if_pos (addG_mem _ _))) ?_
      repeat kaf_suf
      exact k H2 e k2 B2
/-- a putting with what is no game -/
def sy_Book_game (c : Cn) : Sp := fun vs H Q E => vs.length = 3 ∧ ∃ (b l r : Addr) (M : Addr → Prop) (gs : List Gm) (ds : List Int) (ls rs : List V), vs = [.ref b, .ref l, .ref r] ∧ BookAt c H b M gs ds ∧ H l = some (.lst ls) ∧ H r = some (.lst rs) ∧
  ls.length ≤ 4000 ∧ rs.length ≤ 4000 ∧ (∀ v ∈ ls ++ rs, GoodV gs.length v ∨ BadV H gs.length v) ∧ (∃ v ∈ ls ++ rs, BadV H gs.length v) ∧ ∀ H', Keep Nil H H' → E (.ref c.cNoGame) none H'
theorem q_Book_game {c : Cn} {mg : Str → Option Value} (T : Txt c mg) {vs : List V} {H : Hp} {Q : VK} {E : XK} (h : sy_Book_game c vs H Q E) : t_Book_game c E { nx := fun _ H' => Q .non H', rt := Q } (start N_Book_game vs) H := by
  obtain ⟨_, b, l, r, M, gs, ds, ls, rs, rfl, B, hl, hr, fw1, fw2, all, some_, k⟩ := h
  unfold t_Book_game
  repeat kaf_suf
  intro p1 hp1
  repeat kaf_suf
  intro p2 hp2
  repeat kaf_suf
  refine v_addL (by kaf_pre) (by kaf_pre) (few2 (by omega)) ?_
  intro p3 hp3
  repeat kaf_suf
  have kp3 : Keep Nil H (upd (upd (upd H p1 (.lst ls)) p2 (.lst rs)) p3 (.lst (ls ++ rs))) := ((Keep.alloc hp1).new hp2).new hp3
  have B3 := B.same kp3
  have h3 : upd (upd (upd H p1 (.lst ls)) p2 (.lst rs)) p3 (.lst (ls ++ rs)) p3 = some (.lst (ls ++ rs)) := upd_same
  generalize hH3 : upd (upd (upd H p1 (.lst ls)) p2 (.lst rs)) p3 (.lst (ls ++ rs)) = H3 at kp3 B3 h3 ⊢
  refine for_list (xs := ls ++ rs) (fun i σ H' => H' = H3 ∧ (∀ j v, j < i → (ls ++ rs)[j]? = some v → GoodV gs.length v) ∧ ∃ y, σ = [some (.ref b), some (.ref l), some (.ref r), y, none]) ⟨rfl, fun j v h => absurd h (Nat.not_lt_zero _), _, rfl⟩ ?_ ?_ ?_
  · rintro i σ H' hi ⟨rfl, _, y, rfl⟩; exact SqL.of h3
  · rintro i x σ H' hi ⟨rfl, gd, y, rfl⟩
    obtain ⟨dx, mv, nm, dp, hb3⟩ := B3.ins_
    repeat kaf_suf
    rcases all x (List.mem_of_getElem? hi) with g | bd
    · obtain ⟨m, rfl, hm0, hm1⟩ := id g
      refine ⟨rfl, .inl ⟨rfl, b, M, gs, ds, m, rfl, B3, hm0, hm1, ?_⟩⟩
      repeat kaf_suf
      refine ⟨rfl, fun j v hj hv => ?_, _, rfl⟩
      by_cases e : j = i
      · subst e; rw [hi] at hv; cases hv; exact g
      · exact gd j v (by omega) hv
    · exact ⟨rfl, .inr ⟨rfl, b, M, gs, ds, x, rfl, B3, bd.keep kp3, k _ kp3⟩⟩
  · rintro σ H' ⟨rfl, gd, y, rfl⟩
    obtain ⟨v, hv, bd⟩ := some_
    obtain ⟨j, hj, rfl⟩ := List.getElem_of_mem hv
    exact ((gd j _ hj (List.getElem?_eq_getElem hj)).not bd).elim
def sx_Book_game (c : Cn) : Sp := fun vs H Q E => vs.length = 3 ∧ (sp_Book_game c vs H Q E ∨ sy_Book_game c vs H Q E)
theorem metx_Book_game {c : Cn} {mg : Str → Option Value} {base : Heap} (T : Txt c mg) : Met c.P c.w c.K mg base (L2.CX c.P c.w) 2 c.cBook "game" (sx_Book_game c) := by
  obtain ⟨f, fd, F, g, b⟩ := T.F_Book_game
  exact ⟨f, fd, ["self", "lefts", "rights"], T.cl_Book, g, F.okX (k := 1) (N := N_Book_game) sc_Book_game (fun vs H Q E h => h.1) (fun cdv A outer s H vs Q E hr h => ⟨t_Book_game c E, by
  exact (pss_cons (ps_for (passes_of rfl) rfl (pi_any (pe_op o_add (pe_callTy (k_list rfl) (by rfl) T.n_list (by decide +kernel) (pa_cons (pv 1) pa_nil)) (pe_callTy (k_list rfl) (by rfl) T.n_list (by decide +kernel) (pa_cons (pv 2) pa_nil)))) (pg_name (i := 3) sc_Book_game.nd rfl (Or.inl rfl))
  (pss_one (ps_expr (e_meth (metx_Book_need T) hr (by decide) (passes_call (takes_of rfl rfl rfl rfl) fun _ _ _ _ z => z) (pv 0) (pa_cons (pv 3) pa_nil)))))
  (pss_cons (ps_set (i := 4) sc_Book_game.nd rfl (Or.inl rfl) (pe_tup (pa_cons (pe_callTy k_tuple (by rfl) T.n_tuple (by decide +kernel) (pa_cons (pe_callB (k_sorted rfl) (by rfl) T.n_sorted (by decide +kernel) (pa_cons (pe_callTy (k_set rfl) (by rfl) T.n_set (by decide +kernel) (pa_cons (pv 1) pa_nil)) pa_nil)) pa_nil)) (pa_cons (pe_callTy k_tuple (by rfl) T.n_tuple (by decide +kernel) (pa_cons (pe_callB (k_sorted rfl) (by rfl) T.n_sorted (by decide +kernel) (pa_cons (pe_callTy (k_set rfl) (by rfl) T.n_set (by decide +kernel) (pa_cons (pv 2) pa_nil)) pa_nil)) pa_nil)) pa_nil))))
  (C8.pss_cut (ps_if (pt_cmpR (o_notin (hu65 hr)) (pv 4) (pe_fld (pv 0) rfl) (by rfl)) (pss_cons (ps_asg (pe_callB k_len (by rfl) T.n_len (by decide +kernel) (pa_cons (pe_fld (pv 0) rfl) pa_nil)) (pg_sub (pe_fld (pv 0) rfl) (pv 4) (s_set (hu64 hr))))
  (pss_cons (ps_expr (pe_bm PySem.F.plainAttrs_list PySem.F.slot_list_append PySem.F.type_list_append mt_append (pe_fld (pv 0) rfl) (pa_cons (pv 4) pa_nil)))
  (pss_one (ps_expr (pe_bm PySem.F.plainAttrs_list PySem.F.slot_list_append PySem.F.type_list_append mt_append (pe_fld (pv 0) rfl) (pa_cons (pe_op o_add pe_int (pe_callB (k_max rfl) (by rfl) T.n_max (by decide +kernel) (pa_cons (pe_lc (own := [("g", 3)]) rfl sc_Book_game.nd (pi_any (pe_op o_add (pe_ix (x_ix (hu64 hr)) (pv 4) pe_int (fun _ _ => rfl)) (pe_ix (x_ix (hu64 hr)) (pv 4) pe_int (fun _ _ => rfl)))) (blkOk_by (own := [("g", 3)]) (N := N_Book_game) (sc := defScope s_Book_game) (by decide +kernel)) (fun _ _ _ _ _ => (pg_name (i := 3) sc_Book_game.nd rfl (Or.inl rfl))) (fun _ _ _ _ _ => pts_nil) (fun _ _ _ _ _ => (pe_ix (x_ix (hu64 hr)) (pe_fld (pv 0) rfl) (pv 3) (fun _ _ => rfl)))) pa_nil))) pa_nil)))))) pss_nil)
  (pss_one (ps_ret (pe_ix (x_ix (hu64 hr)) (pe_fld (pv 0) rfl) (pv 4) (fun _ _ => rfl))))))), h.2.elim (p_Book_game T) (q_Book_game T)⟩), b⟩
theorem met_Book_game {c : Cn} {mg : Str → Option Value} {base : Heap} (T : Txt c mg) : Met c.P c.w c.K mg base (L2.CX c.P c.w) 2 c.cBook "game" (sp_Book_game c) := by
  obtain ⟨f, fd, ps, cl, m, F, b⟩ := (metx_Book_game T).ex
  exact ⟨⟨f, fd, ps, cl, m, F.imp fun vs H Q E h => ⟨h.1, .inl h⟩, b⟩⟩
/-! the book as it is made; how many -/
theorem putF_0 {x : V} : putF ("moves" : Str) x [] = [(("moves" : Str), x)] := by rfl
theorem putF_1 {x y : V} : putF ("numbers" : Str) y [(("moves" : Str), x)] = [(("moves" : Str), x), (("numbers" : Str), y)] := by
  unfold putF; rw [if_neg (by decide)]; rfl
theorem putF_2 {x y z : V} : putF ("depths" : Str) z [(("moves" : Str), x), (("numbers" : Str), y)] = [(("moves" : Str), x), (("numbers" : Str), y), (("depths" : Str), z)] := by
  unfold putF; rw [if_neg (by decide)]; unfold putF; rw [if_neg (by decide)]; rfl
theorem GOk.one : GOk [([], [])] := ⟨rfl, by simp, fun g hg => by cases List.mem_singleton.mp hg; exact ⟨List.Pairwise.nil, List.Pairwise.nil⟩, fun i g h m hm => by
  cases i with
  | zero => simp at h; subst h; simp at hm
  | succ i => simp at h⟩
theorem DOk.one : DOk [([], [])] [0] := ⟨rfl, fun i g d h hd => by
  cases i with
  | zero => simp at h hd; subst h hd; exact ⟨fun _ => rfl, fun x hx => by simp [dps] at hx, fun z => absurd rfl z⟩
  | succ i => simp at h⟩
abbrev N_Book_init : List Str := ["self"]
theorem sc_Book_init : FnScope N_Book_init ["self"] (defScope s_Book_init) := ⟨rfl, rfl, rfl, by decide +kernel, rfl, by decide +kernel, by decide +kernel⟩
def t_Book_init (c : Cn) : TS :=
  (tSeq (sFld c.K (tVar 0) (tLst (tCons (tTup (tCons (tTup tNil) (tCons (tTup tNil) tNil))) tNil)) "moves")
  (tSeq (sFld c.K (tVar 0) (uDisp1 c.P c.w (tTup (tCons (tTup tNil) (tCons (tTup tNil) tNil))) (tC (.int 0))) "numbers")
  (sFld c.K (tVar 0) (tLst (tCons (tC (.int 0)) tNil)) "depths")))
def sp_Book_init (c : Cn) : Sp := fun vs H Q E => vs.length = 1 ∧ ∃ (b dx : Addr), vs = [.ref b] ∧ H b = some (.ins c.cBook dx []) ∧
  ∀ (H' : Hp) (M : Addr → Prop), Keep (fun x => x = b) H H' → BookAt c H' b M [([], [])] [0] → (∀ x, M x → H x = none) → Q .non H'
theorem p_Book_init {c : Cn} {mg : Str → Option Value} (T : Txt c mg) {vs : List V} {H : Hp} {Q : VK} {E : XK} (h : sp_Book_init c vs H Q E) : t_Book_init c { nx := fun _ H' => Q .non H', rt := Q } (start N_Book_init vs) H := by
  obtain ⟨_, b, dx, rfl, hb, k⟩ := h
  unfold t_Book_init
  repeat kaf_suf
  intro p1 hp1
  repeat kaf_suf
  intro p2 hp2
  repeat kaf_suf
  intro p3 hp3
  repeat kaf_suf
  intro mv hmv
  repeat kaf_suf
  refine r_ksfld (by kaf_pre) (Txt.cl_Book T) (Txt.na_Book_moves T) (by decide) ?_
  repeat kaf_suf
  intro nm hnm
  repeat kaf_suf
  intro p4 hp4
  repeat kaf_suf
  intro p5 hp5
  repeat kaf_suf
  intro t ht
  repeat kaf_suf
  have w0 : nm ≠ mv := ne_new hnm (show _ = some (HO.lst [V.ref p3]) by kaf_pre)
  have w1 : b ≠ nm := ne_old hnm upd_same
  have w2 : mv ≠ b := ne_new hmv (by kaf_pre)
  have w3 : p3 ≠ mv := ne_old hmv upd_same
  have hnm0 : H nm = none := by
    have h0 := none_of_upd hnm
    exact none_of_upd (none_of_upd (none_of_upd (none_of_upd h0)))
  have hmv0 : H mv = none := none_of_upd (none_of_upd (none_of_upd hmv))
  refine ⟨gkey ([], []), t, rfl, by kaf_pre, GAt.nk (g := ([], [])) ⟨p4, p5, by kaf_pre, by kaf_pre, by kaf_pre⟩, gkey_depth _, ?_⟩
  repeat kaf_suf
  refine r_ksfld (by kaf_pre) (Txt.cl_Book T) (Txt.na_Book_numbers T) (by rw [putF_0]; simp) ?_
  repeat kaf_suf
  intro dp hdp
  repeat kaf_suf
  refine r_ksfld (by kaf_pre) (Txt.cl_Book T) (Txt.na_Book_depths T) (by rw [putF_0, putF_1]; simp) ?_
  repeat kaf_suf
  have hdp0 : H dp = none := by
    have := hdp
    repeat (first | exact this | replace this := none_of_upd this)
  have w4 : dp ≠ mv := ne_new hdp (show _ = some (HO.lst [V.ref p3]) by kaf_pre)
  have w5 : dp ≠ nm := ne_new hdp (show _ = some (NdO c.P c.w nm [(gkey ([], []), t, V.int 0)]) by kaf_pre)
  have w6 : dp ≠ b := ne_new hdp upd_same
  have x3 : p3 ≠ nm := ne_old hnm (by kaf_pre)
  have x2 : p2 ≠ nm := ne_old hnm (by kaf_pre)
  have x1 : p1 ≠ nm := ne_old hnm (by kaf_pre)
  have y3 : p3 ≠ b := ne_new hp3 (by kaf_pre)
  have y2 : p2 ≠ b := ne_new hp2 (by kaf_pre)
  have y1 : p1 ≠ b := ne_new hp1 (by kaf_pre)
  have z4 : p4 ≠ b := ne_new hp4 (by kaf_pre)
  have z5 : p5 ≠ b := ne_new hp5 (by kaf_pre)
  have z6 : t ≠ b := ne_new ht (by kaf_pre)
  have q4 : p4 ≠ nm := ne_new hp4 upd_same
  have q5 : p5 ≠ nm := ne_new hp5 (by kaf_pre)
  have q6 : t ≠ nm := ne_new ht (by kaf_pre)
  refine absQ (S := fun H' => Keep (fun x => x = b) H H' ∧ H' b = some (.ins c.cBook dx (bookFs mv nm dp)) ∧ H' mv = some (.lst [.ref p3]) ∧ H' p3 = some (.tup [.ref p1, .ref p2]) ∧ H' p1 = some (.tup []) ∧ H' p2 = some (.tup []) ∧
    H' nm = some (NdO c.P c.w nm [(gkey ([], []), t, V.int 0)]) ∧ H' t = some (.tup [.ref p4, .ref p5]) ∧ H' p4 = some (.tup []) ∧ H' p5 = some (.tup []) ∧ H' dp = some (.lst [.int 0])) ⟨?_, ?_, ?_, ?_, ?_, ?_, ?_, ?_, ?_, ?_, ?_⟩ fun HX ⟨f0, f1, f2, f3, f4, f5, f6, f7, f8, f9, f10⟩ => ?_
  · repeat (first | exact Keep.refl | refine' Keep.set ?_ rfl | refine' Keep.new ?_ (by assumption) | refine' Keep.setN ?_ (by assumption))
  · rw [putF_0, putF_1, putF_2]; exact upd_same
  · kaf_pre
  · kaf_pre
  · kaf_pre
  · kaf_pre
  · kaf_pre
  · kaf_pre
  · kaf_pre
  · kaf_pre
  · kaf_pre
  refine k HX (fun x => x = mv ∨ x = nm ∨ x = dp) f0 ⟨GOk.one, DOk.one, dx, mv, nm, dp, [p3], [(gkey ([], []), t, V.int 0)], f1, f2, .cons ⟨p1, p2, f3, f4, f5⟩ .nil, ⟨f6, fun x hx => ?_⟩, rfl, fun g => ?_, f10, .inl rfl, .inr (.inl rfl), .inr (.inr rfl), w4.symm, fun _ h => h⟩ fun x hx => ?_
  · cases List.mem_singleton.mp hx
    exact ⟨GAt.nk (g := ([], [])) ⟨p4, p5, f7, f8, f9⟩, gkey_depth _⟩
  · by_cases e : g = ([], [])
    · subst e; rfl
    · have e' : ¬ gkey ([], []) = gkey g := fun z => e (gkey_inj z).symm
      rw [if_neg (by simpa using e)]
      simp [nval, e']
  · rcases hx with rfl | rfl | rfl <;> assumption
theorem mak_Book {c : Cn} {mg : Str → Option Value} {base : Heap} (T : Txt c mg) : Mak c.P c.w c.K mg base CX0 1 "Book" c.cBook (sp_Book_init c) := by
  obtain ⟨f, fd, F, g, b⟩ := T.F_Book_init
  exact ⟨f, fd, ["self"], g, F.ok (k := 0) (N := N_Book_init) sc_Book_init (fun vs H Q E h => h.1) (fun cdv A outer s H vs Q E hr h => ⟨t_Book_init c, by
  exact (pss_cons (ps_fld (pv 0) (pe_lst (pa_cons (pe_tup (pa_cons (pe_tup pa_nil) (pa_cons (pe_tup pa_nil) pa_nil))) pa_nil)) rfl)
  (pss_cons (ps_fld (pv 0) (pe_disp1 (hu64 hr) (pe_tup (pa_cons (pe_tup pa_nil) (pa_cons (pe_tup pa_nil) pa_nil))) pe_int) rfl)
  (pss_one (ps_fld (pv 0) (pe_lst (pa_cons pe_int pa_nil)) rfl)))), p_Book_init T h⟩), T.g_Book, b⟩

abbrev N_Book_many : List Str := ["self"]
theorem sc_Book_many : FnScope N_Book_many ["self"] (defScope s_Book_many) := ⟨rfl, rfl, rfl, by decide +kernel, rfl, by decide +kernel, by decide +kernel⟩
def t_Book_many (c : Cn) : TS :=
  (tRet (tCB (kLen c.K) (tCons (tFld c.K (tVar 0) "moves") tNil)))
def sp_Book_many (c : Cn) : Sp := fun vs H Q E => vs.length = 1 ∧ ∃ (b : Addr) (M : Addr → Prop) (gs : List Gm) (ds : List Int), vs = [.ref b] ∧ BookAt c H b M gs ds ∧ Q (.int gs.length) H
theorem p_Book_many {c : Cn} {mg : Str → Option Value} (T : Txt c mg) {vs : List V} {H : Hp} {Q : VK} {E : XK} (h : sp_Book_many c vs H Q E) : t_Book_many c { nx := fun _ H' => Q .non H', rt := Q } (start N_Book_many vs) H := by
  obtain ⟨_, b, M, gs, ds, rfl, B, k⟩ := h
  obtain ⟨dx, mv, nm, dp, ts, xs, h1, h2, h3, h4, h5, h6, h7, m1, m2, m3, ne, h8⟩ := B.ex
  unfold t_Book_many
  repeat kaf_suf
  rw [List.length_map, Paired.length h3]
  exact k
theorem met_Book_many {c : Cn} {mg : Str → Option Value} {base : Heap} (T : Txt c mg) : Met c.P c.w c.K mg base CX0 1 c.cBook "many" (sp_Book_many c) := by
  obtain ⟨f, fd, F, g, b⟩ := T.F_Book_many
  exact ⟨f, fd, ["self"], T.cl_Book, g, F.ok (k := 0) (N := N_Book_many) sc_Book_many (fun vs H Q E h => h.1) (fun cdv A outer s H vs Q E hr h => ⟨t_Book_many c, by
  exact (pss_one (ps_ret (pe_callB k_len (by rfl) T.n_len (by decide +kernel) (pa_cons (pe_fld (pv 0) rfl) pa_nil)))), p_Book_many T h⟩), b⟩

/-! rows of games: a list of pairs of lists -/
def dInts (l : List Int) : PyData := .list (l.map PyData.int)
def dRow (g : Gm) : PyData := .tuple [dInts g.1, dInts g.2]
theorem eqv_ints : ∀ ns ms : List Int, PyData.eqvAll (ns.map PyData.int) (ms.map PyData.int) = decide (ns = ms)
  | [], [] => by simp [PyData.eqvAll]
  | [], _ :: _ => by simp [PyData.eqvAll]
  | _ :: _, [] => by simp [PyData.eqvAll]
  | a :: r, b :: t => by
    simp only [List.map_cons, PyData.eqvAll, PyData.eqv, eqv_ints r t]
    by_cases h : a = b <;> by_cases h' : r = t <;> simp [h, h']
theorem eqv_dInts (a b : List Int) : PyData.eqv (dInts a) (dInts b) = decide (a = b) := by
  unfold dInts; simp only [PyData.eqv]; exact eqv_ints a b
theorem eqv_dRow (g k : Gm) : PyData.eqv (dRow g) (dRow k) = decide (g = k) := by
  have e : PyData.eqv (dRow g) (dRow k) = (PyData.eqv (dInts g.1) (dInts k.1) && (PyData.eqv (dInts g.2) (dInts k.2) && true)) := by simp only [dRow, PyData.eqv, PyData.eqvAll]
  rw [e, eqv_dInts, eqv_dInts]
  obtain ⟨a, b⟩ := g; obtain ⟨a', b'⟩ := k
  by_cases h : a = a' <;> by_cases h' : b = b' <;> simp [h, h']
theorem lay_ints : ∀ ns : List Int, PyData.canLayAll0 (ns.map PyData.int) = true
  | [] => by simp [PyData.canLayAll0]
  | _ :: r => by simp [PyData.canLayAll0, PyData.canLay0, lay_ints r]
theorem dpt_ints : ∀ ns : List Int, PyData.depthAll (ns.map PyData.int) = 0
  | [] => by simp [PyData.depthAll]
  | _ :: r => by simp [PyData.depthAll, PyData.depth, dpt_ints r]
theorem dInts_lay (l : List Int) : (dInts l).canLay0 = true := by unfold dInts; simp only [PyData.canLay0]; exact lay_ints l
theorem dInts_dep (l : List Int) : (dInts l).depth = 1 := by unfold dInts; simp only [PyData.depth, dpt_ints]
theorem dRow_lay (g : Gm) : (dRow g).canLay0 = true := by simp [dRow, PyData.canLay0, PyData.canLayAll0, dInts_lay]
theorem dRow_dep (g : Gm) : (dRow g).depth = 2 := by simp [dRow, PyData.depth, PyData.depthAll, dInts_dep]
theorem dRows_lay : ∀ gs : List Gm, PyData.canLayAll0 (gs.map dRow) = true
  | [] => by simp [PyData.canLayAll0]
  | g :: r => by simp [PyData.canLayAll0, dRow_lay g, dRows_lay r]
theorem dRows_dep : ∀ gs : List Gm, PyData.depthAll (gs.map dRow) ≤ 2
  | [] => by simp [PyData.depthAll]
  | g :: r => by
    have h1 := dRows_dep r
    have h2 := dRow_dep g
    simp only [List.map_cons, PyData.depthAll]; omega
theorem shaped_of {d : PyData} (h : d.canLay0 = true) (k : d.depth ≤ 64) : SeqAt.shaped d = true := by
  show (d.canLay0 && decide (d.depth ≤ 64)) = true
  rw [Bool.and_eq_true]
  exact ⟨h, decide_eq_true k⟩
theorem dInts_sh (l : List Int) : SeqAt.shaped (dInts l) = true := shaped_of (dInts_lay l) (by rw [dInts_dep]; omega)
theorem dRow_sh (g : Gm) : SeqAt.shaped (dRow g) = true := shaped_of (dRow_lay g) (by rw [dRow_dep]; omega)
theorem dRows_sh (gs : List Gm) : SeqAt.shaped (.list (gs.map dRow)) = true := shaped_of (by simp only [PyData.canLay0]; exact dRows_lay gs) (by have := dRows_dep gs; simp only [PyData.depth]; omega)
theorem dTwo_sh (a b : List Int) : SeqAt.shaped (.list [dInts a, dInts b]) = true := shaped_of (by simp [PyData.canLay0, PyData.canLayAll0, dInts_lay]) (by simp [PyData.depth, PyData.depthAll, dInts_dep])
theorem eqv_two (a b a' b' : List Int) : PyData.eqv (.list [dInts a, dInts b]) (.list [dInts a', dInts b']) = (decide (a = a') && decide (b = b')) := by
  simp only [PyData.eqv, PyData.eqvAll, eqv_dInts, Bool.and_true]
theorem dp_all {K : PySem.W.Frag} {H : Hp} : ∀ (l : List Int), DpAll K H (l.map V.int) (l.map PyData.int)
  | [] => .nil
  | x :: r => .cons (.int x) (dp_all r)
theorem dp_ints {K : PySem.W.Frag} {H : Hp} {a : Addr} {l : List Int} (h : H a = some (.lst (l.map V.int))) : Dp K H (.ref a) (dInts l) := .lst (SqL.of h) (dp_all l)
theorem dp_two {K : PySem.W.Frag} {H : Hp} {p a b : Addr} {l m : List Int} (h : H p = some (.lst [.ref a, .ref b])) (h1 : H a = some (.lst (l.map V.int))) (h2 : H b = some (.lst (m.map V.int))) : Dp K H (.ref p) (.list [dInts l, dInts m]) :=
  .lst (SqL.of h) (.cons (dp_ints h1) (.cons (dp_ints h2) .nil))
def RowAt (W : Addr → Prop) (H : Hp) (t : Addr) (g : Gm) : Prop := ∃ a b, H t = some (.tup [.ref a, .ref b]) ∧ H a = some (.lst (g.1.map V.int)) ∧ H b = some (.lst (g.2.map V.int)) ∧ ¬ W t ∧ ¬ W a ∧ ¬ W b
theorem RowAt.keep {W : Addr → Prop} {H H' : Hp} {t : Addr} {g : Gm} (r : RowAt W H t g) (k : Keep W H H') : RowAt W H' t g := by
  obtain ⟨a, b, h1, h2, h3, n1, n2, n3⟩ := r
  exact ⟨a, b, k _ _ n1 h1, k _ _ n2 h2, k _ _ n3 h3, n1, n2, n3⟩
theorem RowAt.dp {K : PySem.W.Frag} {W : Addr → Prop} {H : Hp} {t : Addr} {g : Gm} (r : RowAt W H t g) : Dp K H (.ref t) (dRow g) := by
  obtain ⟨a, b, h1, h2, h3, _⟩ := r
  exact .tup (SqT.of h1) (.cons (dp_ints h2) (.cons (dp_ints h3) .nil))
def RowsAt (W : Addr → Prop) (H : Hp) (R : Addr) (gs : List Gm) : Prop := ∃ ks : List Addr, H R = some (.lst (ks.map V.ref)) ∧ Paired (RowAt W H) ks gs
theorem rows_dp {K : PySem.W.Frag} {W : Addr → Prop} {H : Hp} {ks : List Addr} {gs : List Gm} (p : Paired (RowAt W H) ks gs) : DpAll K H (ks.map V.ref) (gs.map dRow) := by
  induction p with
  | nil => exact .nil
  | cons r _ ih => exact .cons r.dp ih
theorem RowsAt.dp {K : PySem.W.Frag} {W : Addr → Prop} {H : Hp} {R : Addr} {gs : List Gm} (r : RowsAt W H R gs) : Dp K H (.ref R) (.list (gs.map dRow)) := by
  obtain ⟨ks, h, p⟩ := r
  exact .lst (SqL.of h) (rows_dp p)
theorem any_row (gs : List Gm) (k : Gm) : ((gs.map dRow).any fun z => PyData.eqv z (dRow k)) = decide (k ∈ gs) := by
  rw [List.any_map]
  have e : ((fun z => PyData.eqv z (dRow k)) ∘ dRow) = fun g => decide (g = k) := by funext g; exact eqv_dRow g k
  rw [e]
  by_cases h : k ∈ gs
  · rw [decide_eq_true h]; exact List.any_eq_true.mpr ⟨k, h, by simp⟩
  · rw [decide_eq_false h]; exact List.any_eq_false.mpr fun x hx => by simp; intro z; exact h (z ▸ hx)
theorem v_ninRows {P : Program} {w : World} {K : PySem.W.Frag} {W : Addr → Prop} {H : Hp} {Q : VK} {t R : Addr} {k : Gm} {gs : List Gm} (r : RowsAt W H R gs) (h : RowAt W H t k) (q : Q (.bl (!decide (k ∈ gs))) H) : cNotIn P w K (.ref t) (.ref R) H Q :=
  .inr (.inl ⟨_, _, h.dp, r.dp, dRow_sh _, dRows_sh _, by rw [any_row]; exact q⟩)
theorem v_indexRows {K : PySem.W.Frag} {W : Addr → Prop} {H : Hp} {Q : VK} {t R : Addr} {k : Gm} {gs : List Gm} (r : RowsAt W H R gs) (h : RowAt W H t k) (m : k ∈ gs) (q : Q (.int (ixG gs k)) H) : kIndex K (.ref R) [.ref t] H Q := by
  refine .inr ⟨R, .ref t, dRow k, gs.map dRow, ixG gs k, dRow k, rfl, rfl, r.dp, h.dp, dRows_sh _, dRow_sh _, ?_, by rw [eqv_dRow]; simp, fun j z hj hz => ?_, q⟩
  · rw [List.getElem?_map, ixG_get m]; rfl
  · rw [List.getElem?_map] at hz
    obtain ⟨g, hg, rfl⟩ := Option.map_eq_some_iff.mp hz
    rw [eqv_dRow]
    refine decide_eq_false fun e => ?_
    subst e
    obtain ⟨hl, hg⟩ := List.getElem?_eq_some_iff.mp hg
    have := List.not_of_lt_findIdx (p := fun x => x == g) (xs := gs) (i := j) hj
    simp [hg] at this
theorem up_len : ∀ (l : List Int) (lo n : Int), l.Pairwise (· < ·) → (∀ x ∈ l, lo ≤ x ∧ x < n) → lo ≤ n → (l.length : Int) ≤ n - lo
  | [], lo, n, _, _, h => by simp; omega
  | x :: r, lo, n, u, b, _ => by
    have u' := List.pairwise_cons.mp u
    have bx := b x List.mem_cons_self
    have := up_len r (x + 1) n u'.2 (fun y hy => ⟨by have := u'.1 y hy; omega, (b y (List.mem_cons_of_mem _ hy)).2⟩) (by omega)
    simp only [List.length_cons]; omega
theorem RowsAt.keep {W : Addr → Prop} {H H' : Hp} {R : Addr} {gs : List Gm} (r : RowsAt W H R gs) (k : Keep W H H') (e : ∀ o, H R = some o → H' R = some o) : RowsAt W H' R gs := by
  obtain ⟨ks, h, p⟩ := r
  exact ⟨ks, e _ h, paired_keep p fun t g q => q.keep k⟩

/-! the moves as they are told -/
abbrev N_Book_lefts : List Str := ["self", "g"]
theorem sc_Book_lefts : FnScope N_Book_lefts ["self", "g"] (defScope s_Book_lefts) := ⟨rfl, rfl, rfl, by decide +kernel, rfl, by decide +kernel, by decide +kernel⟩
def t_Book_lefts (c : Cn) (E : XK) : TS :=
  (tSeq (tDrop (tMeth c.cBook "need" (sx_Book_need c) [] E (tVar 0) (tCons (tVar 1) tNil)))
  (tRet (tCB (kList c.K) (tCons (tOp (bIx c.P c.w c.K) (tOp (bIx c.P c.w c.K) (tFld c.K (tVar 0) "moves") (tVar 1)) (tC (.int 0))) tNil))))
def sp_Book_lefts (c : Cn) : Sp := fun vs H Q E => vs.length = 2 ∧ ∃ (b : Addr) (M : Addr → Prop) (gs : List Gm) (ds : List Int) (g : Nat) (gm : Gm), vs = [.ref b, .int g] ∧ BookAt c H b M gs ds ∧ gs[g]? = some gm ∧ ∀ p, H p = none → Q (.ref p) (upd H p (.lst (gm.1.map V.int)))
theorem p_Book_lefts {c : Cn} {mg : Str → Option Value} (T : Txt c mg) {vs : List V} {H : Hp} {Q : VK} {E : XK} (h : sp_Book_lefts c vs H Q E) : t_Book_lefts c E { nx := fun _ H' => Q .non H', rt := Q } (start N_Book_lefts vs) H := by
  obtain ⟨_, b, M, gs, ds, g, gm, rfl, B, hg, k⟩ := h
  obtain ⟨dx, mv, nm, dp, ts, xs, h1, h2, h3, h4, h5, h6, h7, m1, m2, m3, ne, h8⟩ := B.ex
  have hl := (List.getElem?_eq_some_iff.mp hg).1
  unfold t_Book_lefts
  repeat kaf_suf
  refine ⟨rfl, .inl ⟨rfl, b, M, gs, ds, g, rfl, B, by omega, by omega, ?_⟩⟩
  obtain ⟨t, ht, ka, kb, t1, t2, t3⟩ := paired_get h3 hg
  have hx : atI (ts.map V.ref) (g : Int) = some (V.ref t) := atI_get (n := g) (by rw [List.getElem?_map, ht]; rfl) rfl
  repeat kaf_suf
  exact k
def sy_Book_lefts (c : Cn) : Sp := fun vs H Q E => vs.length = 2 ∧ ∃ (b : Addr) (M : Addr → Prop) (gs : List Gm) (ds : List Int) (v : V), vs = [.ref b, v] ∧ BookAt c H b M gs ds ∧ BadV H gs.length v ∧ E (.ref c.cNoGame) none H
theorem q_Book_lefts {c : Cn} {mg : Str → Option Value} (T : Txt c mg) {vs : List V} {H : Hp} {Q : VK} {E : XK} (h : sy_Book_lefts c vs H Q E) : t_Book_lefts c E { nx := fun _ H' => Q .non H', rt := Q } (start N_Book_lefts vs) H := by
  obtain ⟨_, b, M, gs, ds, v, rfl, B, bd, k⟩ := h
  obtain ⟨dx, mv, nm, dp, hb⟩ := B.ins_
  unfold t_Book_lefts
  repeat kaf_suf
  exact ⟨rfl, .inr ⟨rfl, b, M, gs, ds, v, rfl, B, bd, k⟩⟩
def sx_Book_lefts (c : Cn) : Sp := fun vs H Q E => vs.length = 2 ∧ (sp_Book_lefts c vs H Q E ∨ sy_Book_lefts c vs H Q E)
theorem metx_Book_lefts {c : Cn} {mg : Str → Option Value} {base : Heap} (T : Txt c mg) : Met c.P c.w c.K mg base (L2.CX c.P c.w) 2 c.cBook "lefts" (sx_Book_lefts c) := by
  obtain ⟨f, fd, F, g, b⟩ := T.F_Book_lefts
  exact ⟨f, fd, ["self", "g"], T.cl_Book, g, F.okX (k := 1) (N := N_Book_lefts) sc_Book_lefts (fun vs H Q E h => h.1) (fun cdv A outer s H vs Q E hr h => ⟨t_Book_lefts c E, by
  exact (pss_cons (ps_expr (e_meth (metx_Book_need T) hr (by decide) (passes_call (takes_of rfl rfl rfl rfl) fun _ _ _ _ z => z) (pv 0) (pa_cons (pv 1) pa_nil)))
  (pss_one (ps_ret (pe_callTy (k_list rfl) (by rfl) T.n_list (by decide +kernel) (pa_cons (pe_ix (x_ix (hu64 hr)) (pe_ix (x_ix (hu64 hr)) (pe_fld (pv 0) rfl) (pv 1) (fun _ _ => rfl)) pe_int (fun _ _ => rfl)) pa_nil))))), h.2.elim (p_Book_lefts T) (q_Book_lefts T)⟩), b⟩
theorem met_Book_lefts {c : Cn} {mg : Str → Option Value} {base : Heap} (T : Txt c mg) : Met c.P c.w c.K mg base (L2.CX c.P c.w) 2 c.cBook "lefts" (sp_Book_lefts c) := by
  obtain ⟨f, fd, ps, cl, m, F, b⟩ := (metx_Book_lefts T).ex
  exact ⟨⟨f, fd, ps, cl, m, F.imp fun vs H Q E h => ⟨h.1, .inl h⟩, b⟩⟩
abbrev N_Book_rights : List Str := ["self", "g"]
theorem sc_Book_rights : FnScope N_Book_rights ["self", "g"] (defScope s_Book_rights) := ⟨rfl, rfl, rfl, by decide +kernel, rfl, by decide +kernel, by decide +kernel⟩
def t_Book_rights (c : Cn) (E : XK) : TS :=
  (tSeq (tDrop (tMeth c.cBook "need" (sx_Book_need c) [] E (tVar 0) (tCons (tVar 1) tNil)))
  (tRet (tCB (kList c.K) (tCons (tOp (bIx c.P c.w c.K) (tOp (bIx c.P c.w c.K) (tFld c.K (tVar 0) "moves") (tVar 1)) (tC (.int 1))) tNil))))
def sp_Book_rights (c : Cn) : Sp := fun vs H Q E => vs.length = 2 ∧ ∃ (b : Addr) (M : Addr → Prop) (gs : List Gm) (ds : List Int) (g : Nat) (gm : Gm), vs = [.ref b, .int g] ∧ BookAt c H b M gs ds ∧ gs[g]? = some gm ∧ ∀ p, H p = none → Q (.ref p) (upd H p (.lst (gm.2.map V.int)))
theorem p_Book_rights {c : Cn} {mg : Str → Option Value} (T : Txt c mg) {vs : List V} {H : Hp} {Q : VK} {E : XK} (h : sp_Book_rights c vs H Q E) : t_Book_rights c E { nx := fun _ H' => Q .non H', rt := Q } (start N_Book_rights vs) H := by
  obtain ⟨_, b, M, gs, ds, g, gm, rfl, B, hg, k⟩ := h
  obtain ⟨dx, mv, nm, dp, ts, xs, h1, h2, h3, h4, h5, h6, h7, m1, m2, m3, ne, h8⟩ := B.ex
  have hl := (List.getElem?_eq_some_iff.mp hg).1
  unfold t_Book_rights
  repeat kaf_suf
  refine ⟨rfl, .inl ⟨rfl, b, M, gs, ds, g, rfl, B, by omega, by omega, ?_⟩⟩
  obtain ⟨t, ht, ka, kb, t1, t2, t3⟩ := paired_get h3 hg
  have hx : atI (ts.map V.ref) (g : Int) = some (V.ref t) := atI_get (n := g) (by rw [List.getElem?_map, ht]; rfl) rfl
  repeat kaf_suf
  exact k
def sy_Book_rights (c : Cn) : Sp := fun vs H Q E => vs.length = 2 ∧ ∃ (b : Addr) (M : Addr → Prop) (gs : List Gm) (ds : List Int) (v : V), vs = [.ref b, v] ∧ BookAt c H b M gs ds ∧ BadV H gs.length v ∧ E (.ref c.cNoGame) none H
theorem q_Book_rights {c : Cn} {mg : Str → Option Value} (T : Txt c mg) {vs : List V} {H : Hp} {Q : VK} {E : XK} (h : sy_Book_rights c vs H Q E) : t_Book_rights c E { nx := fun _ H' => Q .non H', rt := Q } (start N_Book_rights vs) H := by
  obtain ⟨_, b, M, gs, ds, v, rfl, B, bd, k⟩ := h
  obtain ⟨dx, mv, nm, dp, hb⟩ := B.ins_
  unfold t_Book_rights
  repeat kaf_suf
  exact ⟨rfl, .inr ⟨rfl, b, M, gs, ds, v, rfl, B, bd, k⟩⟩
def sx_Book_rights (c : Cn) : Sp := fun vs H Q E => vs.length = 2 ∧ (sp_Book_rights c vs H Q E ∨ sy_Book_rights c vs H Q E)
theorem metx_Book_rights {c : Cn} {mg : Str → Option Value} {base : Heap} (T : Txt c mg) : Met c.P c.w c.K mg base (L2.CX c.P c.w) 2 c.cBook "rights" (sx_Book_rights c) := by
  obtain ⟨f, fd, F, g, b⟩ := T.F_Book_rights
  exact ⟨f, fd, ["self", "g"], T.cl_Book, g, F.okX (k := 1) (N := N_Book_rights) sc_Book_rights (fun vs H Q E h => h.1) (fun cdv A outer s H vs Q E hr h => ⟨t_Book_rights c E, by
  exact (pss_cons (ps_expr (e_meth (metx_Book_need T) hr (by decide) (passes_call (takes_of rfl rfl rfl rfl) fun _ _ _ _ z => z) (pv 0) (pa_cons (pv 1) pa_nil)))
  (pss_one (ps_ret (pe_callTy (k_list rfl) (by rfl) T.n_list (by decide +kernel) (pa_cons (pe_ix (x_ix (hu64 hr)) (pe_ix (x_ix (hu64 hr)) (pe_fld (pv 0) rfl) (pv 1) (fun _ _ => rfl)) pe_int (fun _ _ => rfl)) pa_nil))))), h.2.elim (p_Book_rights T) (q_Book_rights T)⟩), b⟩
theorem met_Book_rights {c : Cn} {mg : Str → Option Value} {base : Heap} (T : Txt c mg) : Met c.P c.w c.K mg base (L2.CX c.P c.w) 2 c.cBook "rights" (sp_Book_rights c) := by
  obtain ⟨f, fd, ps, cl, m, F, b⟩ := (metx_Book_rights T).ex
  exact ⟨⟨f, fd, ps, cl, m, F.imp fun vs H Q E h => ⟨h.1, .inl h⟩, b⟩⟩

/-! the depth as it is told -/
abbrev N_Book_depth : List Str := ["self", "g"]
theorem sc_Book_depth : FnScope N_Book_depth ["self", "g"] (defScope s_Book_depth) := ⟨rfl, rfl, rfl, by decide +kernel, rfl, by decide +kernel, by decide +kernel⟩
def t_Book_depth (c : Cn) (E : XK) : TS :=
  (tSeq (tDrop (tMeth c.cBook "need" (sx_Book_need c) [] E (tVar 0) (tCons (tVar 1) tNil)))
  (tRet (tOp (bIx c.P c.w c.K) (tFld c.K (tVar 0) "depths") (tVar 1))))
def sp_Book_depth (c : Cn) : Sp := fun vs H Q E => vs.length = 2 ∧ ∃ (b : Addr) (M : Addr → Prop) (gs : List Gm) (ds : List Int) (g : Nat) (e : Int), vs = [.ref b, .int g] ∧ BookAt c H b M gs ds ∧ ds[g]? = some e ∧ Q (.int e) H
theorem p_Book_depth {c : Cn} {mg : Str → Option Value} (T : Txt c mg) {vs : List V} {H : Hp} {Q : VK} {E : XK} (h : sp_Book_depth c vs H Q E) : t_Book_depth c E { nx := fun _ H' => Q .non H', rt := Q } (start N_Book_depth vs) H := by
  obtain ⟨_, b, M, gs, ds, g, e, rfl, B, hg, k⟩ := h
  obtain ⟨dx, mv, nm, dp, ts, xs, h1, h2, h3, h4, h5, h6, h7, m1, m2, m3, ne, h8⟩ := B.ex
  have hl := (List.getElem?_eq_some_iff.mp hg).1
  have hn := B.dok.len
  unfold t_Book_depth
  repeat kaf_suf
  refine ⟨rfl, .inl ⟨rfl, b, M, gs, ds, g, rfl, B, by omega, by omega, ?_⟩⟩
  have hx : atI (ds.map V.int) (g : Int) = some (V.int e) := atI_get (n := g) (by rw [List.getElem?_map, hg]; rfl) rfl
  repeat kaf_suf
  exact k
def sy_Book_depth (c : Cn) : Sp := fun vs H Q E => vs.length = 2 ∧ ∃ (b : Addr) (M : Addr → Prop) (gs : List Gm) (ds : List Int) (v : V), vs = [.ref b, v] ∧ BookAt c H b M gs ds ∧ BadV H gs.length v ∧ E (.ref c.cNoGame) none H
theorem q_Book_depth {c : Cn} {mg : Str → Option Value} (T : Txt c mg) {vs : List V} {H : Hp} {Q : VK} {E : XK} (h : sy_Book_depth c vs H Q E) : t_Book_depth c E { nx := fun _ H' => Q .non H', rt := Q } (start N_Book_depth vs) H := by
  obtain ⟨_, b, M, gs, ds, v, rfl, B, bd, k⟩ := h
  obtain ⟨dx, mv, nm, dp, hb⟩ := B.ins_
  unfold t_Book_depth
  repeat kaf_suf
  exact ⟨rfl, .inr ⟨rfl, b, M, gs, ds, v, rfl, B, bd, k⟩⟩
def sx_Book_depth (c : Cn) : Sp := fun vs H Q E => vs.length = 2 ∧ (sp_Book_depth c vs H Q E ∨ sy_Book_depth c vs H Q E)
theorem metx_Book_depth {c : Cn} {mg : Str → Option Value} {base : Heap} (T : Txt c mg) : Met c.P c.w c.K mg base (L2.CX c.P c.w) 2 c.cBook "depth" (sx_Book_depth c) := by
  obtain ⟨f, fd, F, g, b⟩ := T.F_Book_depth
  exact ⟨f, fd, ["self", "g"], T.cl_Book, g, F.okX (k := 1) (N := N_Book_depth) sc_Book_depth (fun vs H Q E h => h.1) (fun cdv A outer s H vs Q E hr h => ⟨t_Book_depth c E, by
  exact (pss_cons (ps_expr (e_meth (metx_Book_need T) hr (by decide) (passes_call (takes_of rfl rfl rfl rfl) fun _ _ _ _ z => z) (pv 0) (pa_cons (pv 1) pa_nil)))
  (pss_one (ps_ret (pe_ix (x_ix (hu64 hr)) (pe_fld (pv 0) rfl) (pv 1) (fun _ _ => rfl))))), h.2.elim (p_Book_depth T) (q_Book_depth T)⟩), b⟩
theorem met_Book_depth {c : Cn} {mg : Str → Option Value} {base : Heap} (T : Txt c mg) : Met c.P c.w c.K mg base (L2.CX c.P c.w) 2 c.cBook "depth" (sp_Book_depth c) := by
  obtain ⟨f, fd, ps, cl, m, F, b⟩ := (metx_Book_depth T).ex
  exact ⟨⟨f, fd, ps, cl, m, F.imp fun vs H Q E h => ⟨h.1, .inl h⟩, b⟩⟩
theorem DOk.pos {gs : List Gm} {ds : List Int} (o : GOk gs) (d : DOk gs ds) : ∀ (n i : Nat), i < n → ∀ e, ds[i]? = some e → 0 ≤ e
  | 0, _, h, _, _ => by omega
  | n + 1, i, h, e, he => by
    have hi := (List.getElem?_eq_some_iff.mp he).1
    obtain ⟨g, hg⟩ : ∃ g, gs[i]? = some g := ⟨_, List.getElem?_eq_getElem (by rw [← d.len]; exact hi)⟩
    obtain ⟨d1, _, d3⟩ := d.at_ i _ e hg he
    by_cases z : g.1 ++ g.2 = []
    · have := d1 z; omega
    · obtain ⟨x, hx, ex⟩ := d3 z
      obtain ⟨m, hm, rfl⟩ := List.mem_map.mp hx
      obtain ⟨l0, l1⟩ := o.low i _ hg m hm
      have : 0 ≤ ds[m.toNat]?.getD 0 := by
        cases q : ds[m.toNat]? with
        | none => simp
        | some v => exact DOk.pos o d n m.toNat (by omega) v q
      omega

/-! plain helpers -/
theorem any_eq {α : Type} {f g : α → Bool} : ∀ {l : List α}, (∀ m ∈ l, f m = g m) → l.any f = l.any g
  | [], _ => rfl
  | x :: r, h => by rw [List.any_cons, List.any_cons, h x List.mem_cons_self, any_eq fun m hm => h m (List.mem_cons_of_mem _ hm)]
def mvs (gs : List Gm) (g : Nat) (s : Bool) : List Int := match gs[g]? with
  | some x => if s then x.1 else x.2
  | none => []
theorem mvs_low {gs : List Gm} (o : GOk gs) {g : Nat} {s : Bool} {m : Int} (h : m ∈ mvs gs g s) : 0 ≤ m ∧ m < g ∧ g < gs.length := by
  unfold mvs at h
  cases e : gs[g]? with
  | none => rw [e] at h; simp at h
  | some x =>
    rw [e] at h
    have hl := (List.getElem?_eq_some_iff.mp e).1
    have := o.low g x e m (by
      cases s
      · simp at h; simp [h]
      · simp at h; simp [h])
    omega
theorem mvs_more {gs f : List Gm} {g : Nat} {s : Bool} (h : g < gs.length) : mvs (gs ++ f) g s = mvs gs g s := by
  unfold mvs; rw [List.getElem?_append_left h]
theorem nodup_le {α : Type} [DecidableEq α] : ∀ (l m : List α), l.Nodup → (∀ x ∈ l, x ∈ m) → l.length ≤ m.length
  | [], _, _, _ => Nat.zero_le _
  | x :: l, m, nd, h => by
    have nd' := List.nodup_cons.mp nd
    have hx := h x List.mem_cons_self
    have := nodup_le l (m.erase x) nd'.2 fun y hy => by
      have hm := h y (List.mem_cons_of_mem _ hy)
      exact (List.mem_erase_of_ne (fun (e : y = x) => nd'.1 (by rw [← e]; exact hy))).mpr hm
    rw [List.length_erase_of_mem hx] at this
    have := List.length_pos_of_mem hx
    simp only [List.length_cons]; omega
theorem nval_nput {xs : List NX} {k : NestedKey} {a : Addr} {v : V} : nval (nput xs k a v) k = some v := by
  unfold nput
  split
  · rename_i h
    clear a
    have go : ∀ xs : List NX, (nval xs k).isSome = true → nval (xs.map fun x => if x.1 = k then (x.1, x.2.1, v) else x) k = some v := fun xs => by
      unfold nval
      induction xs with
      | nil => intro h; simp at h
      | cons p q ih =>
        intro h
        rw [List.map_cons]
        by_cases e : p.1 = k
        · rw [if_pos e, List.find?_cons_of_pos (by simp [e])]; rfl
        · rw [if_neg e, List.find?_cons_of_neg (by simp [e])]
          rw [List.find?_cons_of_neg (by simp [e])] at h
          exact ih h
    exact go xs h
  · rename_i h
    rw [nval_snoc]
    have : nval xs k = none := by
      cases e : nval xs k with
      | none => rfl
      | some v => rw [e] at h; simp at h
    rw [this]; simp
theorem nval_mem {xs : List NX} {k : NestedKey} {v : V} (h : nval xs k = some v) : ∃ x ∈ xs, x.1 = k ∧ x.2.2 = v := by
  unfold nval at h
  obtain ⟨x, hx, rfl⟩ := Option.map_eq_some_iff.mp h
  exact ⟨x, List.mem_of_find?_eq_some hx, by simpa using List.find?_some hx, rfl⟩
theorem nval_none {xs : List NX} {k : NestedKey} (h : nval xs k = none) : ∀ x ∈ xs, x.1 ≠ k := fun x hx e => by
  unfold nval at h
  rw [Option.map_eq_none_iff] at h
  have := List.find?_eq_none.mp h x hx
  simp [e] at this
theorem any_filter {α : Type} [DecidableEq α] {p : α → Bool} : ∀ (l : List α), l.any p = !decide (l.filter p = [])
  | [] => by simp
  | x :: r => by
    by_cases h : p x = true
    · simp [h]
    · simp only [Bool.not_eq_true] at h
      rw [List.any_cons, h, Bool.false_or, any_filter r]
      simp [List.filter_cons, h]
theorem BookAt.keepX {c : Cn} {H H' : Hp} {b : Addr} {M N : Addr → Prop} {gs : List Gm} {ds : List Int} (B : BookAt c H b M gs ds) (k : Keep N H H') (n : ∀ x, N x → ∃ φ, H x = some (.ext φ)) (d : ∀ x, M x → ¬ N x) : BookAt c H' b M gs ds := by
  obtain ⟨dx, mv, nm, dp, ts, xs, h1, h2, h3, h4, h5, h6, h7, m1, m2, m3, ne, h8⟩ := B.ex
  have kt : ∀ q ys, H q = some (.tup ys) → H' q = some (.tup ys) := fun q ys e => k _ _ (fun z => by obtain ⟨l, e'⟩ := n q z; rw [e] at e'; cases e') e
  refine ⟨B.ok, B.dok, dx, mv, nm, dp, ts, xs, k _ _ (fun z => ?_) h1, k _ _ (d _ m1) h2, paired_keep h3 fun t g q => q.keep kt, ⟨k _ _ (d _ m2) h4.here, fun x hx => ⟨NkV.keeps kt _ _ (h4.keys x hx).1, (h4.keys x hx).2⟩⟩, h5, h6, k _ _ (d _ m3) h7, m1, m2, m3, ne, h8⟩
  obtain ⟨l, e'⟩ := n b z; rw [h1] at e'; cases e'
theorem v_setN' {P : Program} {w : World} {H : Hp} {Q : Hp → Prop} {p a : Addr} {k : NestedKey} {xs : List NX} {v : V} (N : NdAt P w H a xs) (kp : NkV H k (.ref p)) (d : k.depth ≤ 8) (l : xs.length < sizeLine) (q : Q (upd H a (NdO P w a (nput xs k p v)))) : bSet P w (.ref a) (.ref p) v H Q := v_setN N kp d l q
theorem BookAt.keepY {c : Cn} {H H' : Hp} {b : Addr} {M N : Addr → Prop} {gs : List Gm} {ds : List Int} (B : BookAt c H b M gs ds) (k : Keep N H H') (n : ∀ x, N x → (∀ l, H x ≠ some (.tup l)) ∧ ∀ C d l, H x ≠ some (.ins C d l)) (d : ∀ x, M x → ¬ N x) : BookAt c H' b M gs ds := by
  obtain ⟨dx, mv, nm, dp, ts, xs, h1, h2, h3, h4, h5, h6, h7, m1, m2, m3, ne, h8⟩ := B.ex
  have kt : ∀ q ys, H q = some (.tup ys) → H' q = some (.tup ys) := fun q ys e => k _ _ (fun z => (n q z).1 _ e) e
  exact ⟨B.ok, B.dok, dx, mv, nm, dp, ts, xs, k _ _ (fun z => (n b z).2 _ _ _ h1) h1, k _ _ (d _ m1) h2, paired_keep h3 fun t g q => q.keep kt, ⟨k _ _ (d _ m2) h4.here, fun x hx => ⟨NkV.keeps kt _ _ (h4.keys x hx).1, (h4.keys x hx).2⟩⟩, h5, h6, k _ _ (d _ m3) h7, m1, m2, m3, ne, h8⟩
abbrev KX := Key × V
theorem valV_mem {kvs : List KX} {k : Key} {v : V} (h : valV kvs k = some v) : ∃ x ∈ kvs, x.1 = k ∧ x.2 = v := by
  unfold valV at h
  obtain ⟨x, hx, rfl⟩ := Option.map_eq_some_iff.mp h
  exact ⟨x, List.mem_of_find?_eq_some hx, by simpa using List.find?_some hx, rfl⟩
theorem valV_none {kvs : List KX} {k : Key} (h : valV kvs k = none) : ∀ x ∈ kvs, x.1 ≠ k := fun x hx e => by
  unfold valV at h
  rw [Option.map_eq_none_iff] at h
  have := List.find?_eq_none.mp h x hx
  simp [e] at this
theorem putK_new {kvs : List KX} {k : Key} {v : V} (h : valV kvs k = none) : putK kvs k v = kvs ++ [(k, v)] := by
  unfold putK
  rw [if_neg]
  intro z
  obtain ⟨x, hx, e⟩ := List.any_eq_true.mp z
  exact valV_none h x hx (by simpa using e)
theorem putK_val {kvs : List KX} {k : Key} {v : V} : valV (putK kvs k v) k = some v := by
  unfold putK
  split
  · rename_i h
    induction kvs with
    | nil => simp at h
    | cons p q ih =>
      rw [List.map_cons]
      by_cases e : p.1 = k
      · rw [if_pos e]; exact valV_pos e
      · rw [if_neg e, valV_neg e]
        exact ih (by simpa [e] using h)
  · rename_i h
    unfold valV
    rw [List.find?_append]
    have : kvs.find? (fun kv => decide (kv.1 = k)) = none := List.find?_eq_none.mpr fun x hx z => h (List.any_eq_true.mpr ⟨x, hx, z⟩)
    rw [this]; simp
theorem putK_len {kvs : List KX} {k : Key} {v : V} : kvs.length ≤ (putK kvs k v).length := by
  unfold putK; split <;> simp
theorem addG_grow {gs : List Gm} {k : Gm} : ∃ f, addG gs k = gs ++ f ∧ f.length ≤ 1 ∧ (k ∈ gs → f = []) := by
  unfold addG; split
  · exact ⟨[], by simp, by simp, fun _ => rfl⟩
  · rename_i h
    exact ⟨[k], rfl, by simp, fun z => absurd z h⟩
theorem DOk.move {gs : List Gm} {ds : List Int} (o : GOk gs) (d : DOk gs ds) {g : Nat} {gm : Gm} {dg : Int} (hg : gs[g]? = some gm) (hd : ds[g]? = some dg) {m : Int} (hm : m ∈ gm.1 ++ gm.2) : ∃ dm, ds[m.toNat]? = some dm ∧ dm + 1 ≤ dg := by
  have low := o.low g gm hg m hm
  have lg := (List.getElem?_eq_some_iff.mp hg).1
  have dl := d.len
  obtain ⟨v, hv⟩ : ∃ v, ds[m.toNat]? = some v := ⟨_, List.getElem?_eq_getElem (by omega)⟩
  refine ⟨v, hv, (d.at_ g gm dg hg hd).2.1 v ?_⟩
  unfold dps
  exact List.mem_map.mpr ⟨m, hm, by rw [hv]; rfl⟩
theorem DOk.le {gs : List Gm} {ds : List Int} (o : GOk gs) (d : DOk gs ds) : ∀ (n g : Nat), g < n → ∀ dg, ds[g]? = some dg → dg ≤ g
  | 0, _, h, _, _ => by omega
  | n + 1, g, h, dg, hd => by
    have hl := (List.getElem?_eq_some_iff.mp hd).1
    obtain ⟨gm, hg⟩ : ∃ x, gs[g]? = some x := ⟨_, List.getElem?_eq_getElem (by have := d.len; omega)⟩
    obtain ⟨p1, p2, p3⟩ := d.at_ g gm dg hg hd
    by_cases z : gm.1 ++ gm.2 = []
    · have := p1 z; omega
    · obtain ⟨u, hu, eu⟩ := p3 z
      obtain ⟨m, hm, em⟩ := List.mem_map.mp hu
      have low := o.low g gm hg m hm
      obtain ⟨v, hv⟩ : ∃ v, ds[m.toNat]? = some v := ⟨_, List.getElem?_eq_getElem (by have := d.len; omega)⟩
      have := DOk.le o d n m.toNat (by omega) v hv
      rw [hv] at em
      have em' : v = u := em
      omega
theorem mvs_dep {gs : List Gm} {ds : List Int} (o : GOk gs) (d : DOk gs ds) {g : Nat} {s : Bool} {m : Int} (h : m ∈ mvs gs g s) {dg : Int} (hd : ds[g]? = some dg) : ∃ dm, ds[m.toNat]? = some dm ∧ dm + 1 ≤ dg := by
  obtain ⟨m0, m1, m2⟩ := mvs_low o h
  have e := List.getElem?_eq_getElem m2
  refine d.move o e hd ?_
  unfold mvs at h; rw [e] at h
  cases s
  · exact List.mem_append_right _ (by simpa using h)
  · exact List.mem_append_left _ (by simpa using h)

/-! no less: the plain law -/
theorem all_eq {α : Type} {f g : α → Bool} : ∀ {l : List α}, (∀ m ∈ l, f m = g m) → l.all f = l.all g
  | [], _ => rfl
  | x :: r, h => by
    rw [List.all_cons, List.all_cons, h x List.mem_cons_self, all_eq fun m hm => h m (List.mem_cons_of_mem _ hm)]
def gR (gs : List Gm) (G : Nat → Nat → Bool) (r y : Nat) : Bool := ((mvs gs r true).any fun l => G l.toNat y) || ((mvs gs y false).any fun q => G r q.toNat)
def gL (gs : List Gm) (G : Nat → Nat → Bool) (x p : Nat) : Bool := ((mvs gs x true).any fun l => G l.toNat p) || ((mvs gs p false).any fun q => G x q.toNat)
def gB (gs : List Gm) (G : Nat → Nat → Bool) (x y : Nat) : Bool := ((mvs gs x false).all fun r => gR gs G r.toNat y) && ((mvs gs y true).all fun p => gL gs G x p.toNat)
theorem gB_congr {gs : List Gm} (o : GOk gs) {G G' : Nat → Nat → Bool} {x y : Nat} (h : ∀ a b, a + b < x + y → a ≤ x → b ≤ y → G a b = G' a b) : gB gs G x y = gB gs G' x y := by
  have e1 : ((mvs gs x false).all fun r => gR gs G r.toNat y) = (mvs gs x false).all fun r => gR gs G' r.toNat y := all_eq fun r hr => by
    have := mvs_low o hr
    have q1 : ((mvs gs r.toNat true).any fun l => G l.toNat y) = (mvs gs r.toNat true).any fun l => G' l.toNat y := any_eq fun l hl => h l.toNat y (by have := mvs_low o hl; omega) (by have := mvs_low o hl; omega) (Nat.le_refl _)
    have q2 : ((mvs gs y false).any fun q => G r.toNat q.toNat) = (mvs gs y false).any fun q => G' r.toNat q.toNat := any_eq fun q hq => h r.toNat q.toNat (by have := mvs_low o hq; omega) (by omega) (by have := mvs_low o hq; omega)
    unfold gR
    rw [q1, q2]
  have e2 : ((mvs gs y true).all fun p => gL gs G x p.toNat) = (mvs gs y true).all fun p => gL gs G' x p.toNat := all_eq fun p hp => by
    have := mvs_low o hp
    have q1 : ((mvs gs x true).any fun l => G l.toNat p.toNat) = (mvs gs x true).any fun l => G' l.toNat p.toNat := any_eq fun l hl => h l.toNat p.toNat (by have := mvs_low o hl; omega) (by have := mvs_low o hl; omega) (by omega)
    have q2 : ((mvs gs p.toNat false).any fun q => G x q.toNat) = (mvs gs p.toNat false).any fun q => G' x q.toNat := any_eq fun q hq => h x q.toNat (by have := mvs_low o hq; omega) (Nat.le_refl _) (by have := mvs_low o hq; omega)
    unfold gL
    rw [q1, q2]
  unfold gB
  rw [e1, e2]
def gl (gs : List Gm) : Nat → Nat → Nat → Bool
  | 0, _, _ => false
  | n + 1, x, y => gB gs (gl gs n) x y
def ge (gs : List Gm) (x y : Nat) : Bool := gl gs (x + y + 1) x y
theorem gl_more {gs : List Gm} (o : GOk gs) : ∀ (n k x y : Nat), x + y < n → n ≤ k → gl gs k x y = gl gs n x y
  | 0, _, _, _, h, _ => by omega
  | n + 1, 0, _, _, _, h => by omega
  | n + 1, k + 1, x, y, h, hk => gB_congr o fun a b hab _ _ => gl_more o n k a b (by omega) (by omega)
theorem ge_eq {gs : List Gm} (o : GOk gs) (x y : Nat) : ge gs x y = gB gs (ge gs) x y := gB_congr o fun a b hab _ _ => by
  unfold ge
  exact gl_more o (a + b + 1) (x + y) a b (by omega) (by omega)
theorem gB_app {gs f : List Gm} (o : GOk gs) {G : Nat → Nat → Bool} {x y : Nat} (hx : x < gs.length) (hy : y < gs.length) : gB (gs ++ f) G x y = gB gs G x y := by
  unfold gB gR gL
  rw [mvs_more hx, mvs_more hy, mvs_more hx, mvs_more hy]
  rw [all_eq (g := fun r => ((mvs gs r.toNat true).any fun l => G l.toNat y) || ((mvs gs y false).any fun q => G r.toNat q.toNat)) fun r hr => by rw [mvs_more (by have := mvs_low o hr; omega)]]
  rw [all_eq (l := mvs gs y true) (g := fun p => ((mvs gs x true).any fun l => G l.toNat p.toNat) || ((mvs gs p.toNat false).any fun q => G x q.toNat)) fun r hr => by rw [mvs_more (by have := mvs_low o hr; omega)]]
theorem gl_app {gs f : List Gm} (o : GOk gs) : ∀ (n x y : Nat), x < gs.length → y < gs.length → gl (gs ++ f) n x y = gl gs n x y
  | 0, _, _, _, _ => rfl
  | n + 1, x, y, hx, hy => by
    show gB (gs ++ f) (gl (gs ++ f) n) x y = gB gs (gl gs n) x y
    rw [gB_app o hx hy]
    exact gB_congr o fun a b _ ha hb => gl_app o n a b (by omega) (by omega)
theorem ge_app {gs f : List Gm} (o : GOk gs) {x y : Nat} (hx : x < gs.length) (hy : y < gs.length) : ge (gs ++ f) x y = ge gs x y := gl_app o _ _ _ hx hy
/-! the moves, by their numbers -/
def MvW (W : Addr → Prop) (H : Hp) (mv : Addr) (gs : List Gm) (A : Nat → Prop) : Prop := ∃ kvs : List KX, H mv = some (.dK kvs) ∧ ∀ g, A g → ∃ gm t, gs[g]? = some gm ∧ valV kvs (.inl (g : Int)) = some (.ref t) ∧ RowAt W H t gm
abbrev MvAt (H : Hp) (mv : Addr) (gs : List Gm) (A : Nat → Prop) : Prop := MvW Nil H mv gs A
theorem RowAt.weak {W W' : Addr → Prop} {H : Hp} {t : Addr} {g : Gm} (r : RowAt W H t g) (s : ∀ x, W' x → W x) : RowAt W' H t g := by
  obtain ⟨a, b, h1, h2, h3, n1, n2, n3⟩ := r
  exact ⟨a, b, h1, h2, h3, fun z => n1 (s _ z), fun z => n2 (s _ z), fun z => n3 (s _ z)⟩
theorem MvW.weak {W W' : Addr → Prop} {H : Hp} {mv : Addr} {gs : List Gm} {A : Nat → Prop} (m : MvW W H mv gs A) (s : ∀ x, W' x → W x) : MvW W' H mv gs A := by
  obtain ⟨kvs, e, h⟩ := m
  exact ⟨kvs, e, fun g hg => by obtain ⟨gm, t, e1, e2, r⟩ := h g hg; exact ⟨gm, t, e1, e2, r.weak s⟩⟩
theorem MvW.keepW {W : Addr → Prop} {H H' : Hp} {mv : Addr} {gs : List Gm} {A : Nat → Prop} (m : MvW W H mv gs A) (k : Keep W H H') (n : ¬ W mv) : MvW W H' mv gs A := by
  obtain ⟨kvs, e, h⟩ := m
  exact ⟨kvs, k _ _ n e, fun g hg => by obtain ⟨gm, t, e1, e2, r⟩ := h g hg; exact ⟨gm, t, e1, e2, r.keep k⟩⟩
theorem MvW.keep {W : Addr → Prop} {H H' : Hp} {mv : Addr} {gs : List Gm} {A : Nat → Prop} {N : Addr → Prop} (m : MvW W H mv gs A) (k : Keep N H H') (n : ∀ x, N x → (∀ l, H x ≠ some (.lst l)) ∧ (∀ l, H x ≠ some (.tup l)) ∧ ∀ l, H x ≠ some (.dK l)) : MvW W H' mv gs A := by
  obtain ⟨kvs, e, h⟩ := m
  refine ⟨kvs, k _ _ (fun z => (n _ z).2.2 _ e) e, fun g hg => ?_⟩
  obtain ⟨gm, t, e1, e2, u, v, h1, h2, h3, w⟩ := h g hg
  exact ⟨gm, t, e1, e2, u, v, k _ _ (fun z => (n _ z).2.1 _ h1) h1, k _ _ (fun z => (n _ z).1 _ h2) h2, k _ _ (fun z => (n _ z).1 _ h3) h3, w⟩
theorem MvW.same {W : Addr → Prop} {H H' : Hp} {mv : Addr} {gs : List Gm} {A : Nat → Prop} (m : MvW W H mv gs A) (k : Keep Nil H H') : MvW W H' mv gs A := m.keep k fun _ z => z.elim
theorem MvW.list {W : Addr → Prop} {H : Hp} {mv : Addr} {gs : List Gm} {A : Nat → Prop} (m : MvW W H mv gs A) {g : Nat} (hg : A g) : ∃ kvs t a b, H mv = some (.dK kvs) ∧ valV kvs (.inl (g : Int)) = some (.ref t) ∧ H t = some (.tup [.ref a, .ref b]) ∧ H a = some (.lst ((mvs gs g true).map V.int)) ∧ H b = some (.lst ((mvs gs g false).map V.int)) := by
  obtain ⟨kvs, e, h⟩ := m
  obtain ⟨gm, t, e1, e2, u, v, h1, h2, h3, _⟩ := h g hg
  refine ⟨kvs, t, u, v, e, e2, h1, ?_, ?_⟩
  · unfold mvs; rw [e1]; exact h2
  · unfold mvs; rw [e1]; exact h3
theorem v_ixMv {P : Program} {w : World} {K : PySem.W.Frag} {H : Hp} {Q : VK} {d : Addr} {kvs : List KX} {g : Int} {v : V} (e : H d = some (.dK kvs)) (h : valV kvs (.inl g) = some v) (q : Q v H) : bIx P w K (.ref d) (.int g) H Q :=
  .inr (.inr (.inr (.inl ⟨d, v, rfl, h ▸ DGet.k (k := .inl g) e, q⟩)))
theorem v_ixKn {P : Program} {w : World} {K : PySem.W.Frag} {H : Hp} {Q : VK} {d p : Addr} {kvs : List (List L2.Key × V)} {a b : Int} {v : V} (e : H d = some (.dT kvs)) (ep : H p = some (.tup [.int a, .int b])) (h : valV kvs [.inl a, .inl b] = some v) (q : Q v H) : bIx P w K (.ref d) (.ref p) H Q :=
  .inr (.inr (.inr (.inl ⟨d, v, rfl, h ▸ DGet.t (k := [.inl a, .inl b]) e ep, q⟩)))
theorem v_ninK {P : Program} {w : World} {K : PySem.W.Frag} {H : Hp} {Q : VK} {d : Addr} {kvs : List KX} {g : Int} (e : H d = some (.dK kvs)) (q : Q (.bl (!(valV kvs (.inl g)).isSome)) H) : cNotIn P w K (.int g) (.ref d) H Q :=
  .inr (.inr (.inr (.inl ⟨d, _, rfl, DGet.k (k := .inl g) e, by simpa using q⟩)))
theorem v_setK {P : Program} {w : World} {H : Hp} {Q : Hp → Prop} {d : Addr} {kvs : List KX} {g : Int} {v : V} (e : H d = some (.dK kvs)) (l : kvs.length < sizeLine) (q : Q (upd H d (.dK (putK kvs (.inl g) v)))) : bSet P w (.ref d) (.int g) v H Q :=
  .inr (.inl ⟨d, _, rfl, DPut.k (k := .inl g) e l, q⟩)
theorem v_setKn {P : Program} {w : World} {H : Hp} {Q : Hp → Prop} {d p : Addr} {kvs : List (List L2.Key × V)} {a b : Int} {v : V} (e : H d = some (.dT kvs)) (ep : H p = some (.tup [.int a, .int b])) (l : kvs.length < sizeLine) (q : Q (upd H d (.dT (putK kvs [.inl a, .inl b] v)))) : bSet P w (.ref d) (.ref p) v H Q :=
  .inr (.inl ⟨d, _, rfl, DPut.t (k := [.inl a, .inl b]) e ep l, q⟩)
theorem v_pop {H : Hp} {Q : VK} {l : Addr} {xs : List V} {y : V} (h : H l = some (.lst (xs ++ [y]))) (k : Q y (upd H l (.lst xs))) : rPop (.ref l) [] H Q :=
  ⟨l, xs ++ [y], y, rfl, rfl, h, by simp, by rw [List.dropLast_concat]; exact k⟩
theorem putK_len1 {κ : Type} [DecidableEq κ] {kvs : List (κ × V)} {k : κ} {v : V} : (putK kvs k v).length ≤ kvs.length + 1 := by
  unfold putK; split <;> simp
theorem r_dget2 {td ty tx : TE} {σ : L2.St} {H : Hp} {Q : VK} (k : td σ H fun x H1 => ∃ a, x = .ref a ∧ IsD H1 a ∧ ty σ H1 fun y H2 => tx σ H2 fun z H3 => ∃ o, DGet H3 a y o ∧ Q (o.getD z) H3) : tDGet2 td ty tx σ H Q := k
theorem r_ienum {K : PySem.W.Frag} {ta : TA} {σ : L2.St} {H : Hp} {R : It → Hp → Prop} (k : ta σ H fun vs H1 => ∃ a xs, vs = [.ref a] ∧ SqL K H1 a xs ∧ R (Ite K a) H1) : iEnum K ta σ H R := k

abbrev N_behind_right : List Str := ["moves", "known", "r", "y", "l", "q"]
theorem sc_behind_right : FnScope N_behind_right ["moves", "known", "r", "y"] (defScope s_behind_right) := ⟨rfl, rfl, rfl, by decide +kernel, rfl, by decide +kernel, by decide +kernel⟩
def t_behind_right (c : Cn) : TS :=
  (tSeq (tFor (iAny c.K (tOp (bIx c.P c.w c.K) (tOp (bIx c.P c.w c.K) (tVar 0) (tVar 2)) (tC (.int 0)))) (gName 4)
  (tIfS (tTru c.K (tDGet2 (tVar 1) (tTup (tCons (tVar 4) (tCons (tVar 3) tNil))) (tC (.bl false))))
  (tRet (tTup (tCons (tVar 4) (tCons (tVar 3) tNil))))
  tNext))
  (tSeq (tFor (iAny c.K (tOp (bIx c.P c.w c.K) (tOp (bIx c.P c.w c.K) (tVar 0) (tVar 3)) (tC (.int 1)))) (gName 5)
  (tIfS (tTru c.K (tDGet2 (tVar 1) (tTup (tCons (tVar 2) (tCons (tVar 5) tNil))) (tC (.bl false))))
  (tRet (tTup (tCons (tVar 2) (tCons (tVar 5) tNil))))
  tNext))
  (tRet (tC .non))))
def sp_behind_right (c : Cn) : Sp := fun vs H Q E => vs.length = 4 ∧ ∃ (mv kn : Addr) (gs : List Gm) (A : Nat → Prop) (G : Nat → Nat → Bool) (kvs : List (List L2.Key × V)) (r y : Nat), vs = [.ref mv, .ref kn, .int r, .int y] ∧ MvAt H mv gs A ∧ A r ∧ A y ∧ GOk gs ∧ H kn = some (.dT kvs) ∧
  (∀ m : Nat, (m : Int) ∈ mvs gs r true → valV kvs [.inl (m : Int), .inl (y : Int)] = some (.bl (G m y))) ∧ (∀ m : Nat, (m : Int) ∈ mvs gs y false → valV kvs [.inl (r : Int), .inl (m : Int)] = some (.bl (G r m))) ∧
  ∀ (H' : Hp) (v : V), Keep Nil H H' → (gR gs G r y = true → ∃ (pa : Addr) (u w : Nat), v = .ref pa ∧ H' pa = some (.tup [.int u, .int w]) ∧ G u w = true ∧ (((u : Int) ∈ mvs gs r true ∧ w = y) ∨ (u = r ∧ (w : Int) ∈ mvs gs y false))) → (gR gs G r y = false → v = .non) → Q v H'
theorem p_behind_right {c : Cn} {mg : Str → Option Value} (T : Txt c mg) {vs : List V} {H : Hp} {Q : VK} {E : XK} (h : sp_behind_right c vs H Q E) : t_behind_right c { nx := fun _ H' => Q .non H', rt := Q } (start N_behind_right vs) H := by
  obtain ⟨_, mv, kn, gs, A, G, kvs, r, y, rfl, M, Aa, Ab, go, ek, h1, h2, k⟩ := h
  obtain ⟨kv, t1, a1, b1, e1, w1, t1', l1, _⟩ := M.list (g := r) Aa
  obtain ⟨kv2, t2, a2, b2, e2, w2, t2', _, l2⟩ := M.list (g := y) Ab
  unfold t_behind_right
  repeat kaf_suf
  refine v_ixMv e1 w1 ?_
  repeat kaf_suf
  refine for_list (xs := (mvs gs r true).map V.int) (fun i σ H' => ∃ (x4 : Option V), σ = [some (.ref mv), some (.ref kn), some (.int r), some (.int y), x4, none] ∧ Keep Nil H H' ∧ ∀ m ∈ (mvs gs r true).take i, G m.toNat y = false) ⟨_, rfl, Keep.refl, fun _ h => by simp at h⟩ ?_ ?_ ?_
  · rintro i σ H' _ ⟨_, _, kk, _⟩; exact SqL.of (kk.get (fun z => z) l1)
  · rintro i x σ H1 hi ⟨x4, rfl, kk, lo⟩
    rw [List.getElem?_map] at hi
    obtain ⟨m, hm, rfl⟩ := Option.map_eq_some_iff.mp hi
    have mm := List.mem_of_getElem? hm
    obtain ⟨m0, _⟩ := mvs_low go mm
    obtain ⟨mn, rfl⟩ := Int.eq_ofNat_of_zero_le m0
    have ek1 := kk.get (fun z => z) ek
    repeat kaf_suf
    refine r_dget2 ?_
    repeat kaf_suf
    refine ⟨kn, rfl, .inr ⟨_, .inl ek1⟩, ?_⟩
    repeat kaf_suf
    intro p hp
    repeat kaf_suf
    refine ⟨_, DGet.t (k := [.inl (mn : Int), .inl (y : Int)]) (get_new hp ek1) upd_same, ?_⟩
    rw [h1 mn mm, Option.getD_some]
    have kp : Keep Nil H (upd H1 p (.tup [.int mn, .int y])) := kk.new hp
    repeat kaf_suf
    refine r_iteB (fun hG => ?_) (fun hG => ?_)
    · repeat kaf_suf
      intro p2 hp2
      refine k _ _ (kp.new hp2) (fun _ => ⟨p2, mn, y, rfl, upd_same, hG, .inl ⟨mm, rfl⟩⟩) fun z => ?_
      have : gR gs G r y = true := by
        unfold gR
        rw [Bool.or_eq_true]
        exact .inl (List.any_eq_true.mpr ⟨_, mm, hG⟩)
      rw [this] at z; cases z
    · repeat kaf_suf
      refine ⟨_, rfl, kp, fun m hm' => ?_⟩
      rw [List.take_succ, hm] at hm'
      rcases List.mem_append.mp hm' with h | h
      · exact lo m h
      · cases List.mem_singleton.mp h; exact hG
  rintro σ H1 ⟨x4, rfl, kk, lo⟩
  rw [List.length_map, List.take_length] at lo
  have e2' := kk.get (fun z => z) e2
  have t2'' := kk.get (fun z => z) t2'
  have l2' := kk.get (fun z => z) l2
  repeat kaf_suf
  refine v_ixMv e2' w2 ?_
  repeat kaf_suf
  refine for_list (xs := (mvs gs y false).map V.int) (fun i σ H' => ∃ (x5 : Option V), σ = [some (.ref mv), some (.ref kn), some (.int r), some (.int y), x4, x5] ∧ Keep Nil H H' ∧ ∀ m ∈ (mvs gs y false).take i, G r m.toNat = false) ⟨_, rfl, kk, fun _ h => by simp at h⟩ ?_ ?_ ?_
  · rintro i σ H' _ ⟨_, _, kk, _⟩; exact SqL.of (kk.get (fun z => z) l2)
  · rintro i x σ H2 hi ⟨x5, rfl, kk2, lo2⟩
    rw [List.getElem?_map] at hi
    obtain ⟨m, hm, rfl⟩ := Option.map_eq_some_iff.mp hi
    have mm := List.mem_of_getElem? hm
    obtain ⟨m0, _⟩ := mvs_low go mm
    obtain ⟨mn, rfl⟩ := Int.eq_ofNat_of_zero_le m0
    have ek1 := kk2.get (fun z => z) ek
    clear kk e2' t2'' l2'
    repeat kaf_suf
    refine r_dget2 ?_
    repeat kaf_suf
    refine ⟨kn, rfl, .inr ⟨_, .inl ek1⟩, ?_⟩
    repeat kaf_suf
    intro p hp
    repeat kaf_suf
    refine ⟨_, DGet.t (k := [.inl (r : Int), .inl (mn : Int)]) (get_new hp ek1) upd_same, ?_⟩
    rw [h2 mn mm, Option.getD_some]
    have kp : Keep Nil H (upd H2 p (.tup [.int r, .int mn])) := kk2.new hp
    repeat kaf_suf
    refine r_iteB (fun hG => ?_) (fun hG => ?_)
    · repeat kaf_suf
      intro p2 hp2
      refine k _ _ (kp.new hp2) (fun _ => ⟨p2, r, mn, rfl, upd_same, hG, .inr ⟨rfl, mm⟩⟩) fun z => ?_
      have : gR gs G r y = true := by
        unfold gR
        rw [Bool.or_eq_true]
        exact .inr (List.any_eq_true.mpr ⟨_, mm, hG⟩)
      rw [this] at z; cases z
    · repeat kaf_suf
      refine ⟨_, rfl, kp, fun m hm' => ?_⟩
      rw [List.take_succ, hm] at hm'
      rcases List.mem_append.mp hm' with h | h
      · exact lo2 m h
      · cases List.mem_singleton.mp h; exact hG
  rintro σ H2 ⟨x5, rfl, kk2, lo2⟩
  rw [List.length_map, List.take_length] at lo2
  have gf : gR gs G r y = false := by
    unfold gR
    rw [Bool.or_eq_false_iff]
    exact ⟨List.any_eq_false.mpr fun m hm => by rw [lo m hm]; simp, List.any_eq_false.mpr fun m hm => by rw [lo2 m hm]; simp⟩
  repeat kaf_suf
  exact k _ _ kk2 (fun z => by rw [gf] at z; cases z) fun _ => rfl
theorem cal_behind_right {c : Cn} {mg : Str → Option Value} {base : Heap} (T : Txt c mg) : Cal c.P c.w c.K mg base CX0 1 "behind_right" (sp_behind_right c) := by
  obtain ⟨f, fd, F, g, b⟩ := T.F_behind_right
  exact ⟨f, fd, ["moves", "known", "r", "y"], F.ok (k := 0) (N := N_behind_right) sc_behind_right (fun vs H Q E h => h.1) (fun cdv A outer s H vs Q E hr h => ⟨t_behind_right c, by
  exact (pss_cons (ps_for PassesOwn.never rfl (pi_any (pe_ix (x_ix (hu64 hr)) (pe_ix (x_ix (hu64 hr)) (pv 0) (pv 2) (fun _ _ => rfl)) pe_int (fun _ _ => rfl))) (pg_name (i := 4) sc_behind_right.nd rfl (Or.inl rfl))
  (pss_one (ps_if (p_tru (pe_dget2 (hu1 hr) (pv 1) (pe_tup (pa_cons (pv 4) (pa_cons (pv 3) pa_nil))) pe_bl ⟨by rfl, by rfl, by rfl, by rfl⟩)) (pss_one (ps_ret (pe_tup (pa_cons (pv 4) (pa_cons (pv 3) pa_nil))))) pss_nil)))
  (pss_cons (ps_for PassesOwn.never rfl (pi_any (pe_ix (x_ix (hu64 hr)) (pe_ix (x_ix (hu64 hr)) (pv 0) (pv 3) (fun _ _ => rfl)) pe_int (fun _ _ => rfl))) (pg_name (i := 5) sc_behind_right.nd rfl (Or.inl rfl))
  (pss_one (ps_if (p_tru (pe_dget2 (hu1 hr) (pv 1) (pe_tup (pa_cons (pv 2) (pa_cons (pv 5) pa_nil))) pe_bl ⟨by rfl, by rfl, by rfl, by rfl⟩)) (pss_one (ps_ret (pe_tup (pa_cons (pv 2) (pa_cons (pv 5) pa_nil))))) pss_nil)))
  (pss_one (ps_ret pe_non)))), p_behind_right T h⟩), g, F.kp, b⟩
abbrev N_behind_left : List Str := ["moves", "known", "x", "p", "l", "q"]
theorem sc_behind_left : FnScope N_behind_left ["moves", "known", "x", "p"] (defScope s_behind_left) := ⟨rfl, rfl, rfl, by decide +kernel, rfl, by decide +kernel, by decide +kernel⟩
def t_behind_left (c : Cn) : TS :=
  (tSeq (tFor (iAny c.K (tOp (bIx c.P c.w c.K) (tOp (bIx c.P c.w c.K) (tVar 0) (tVar 2)) (tC (.int 0)))) (gName 4)
  (tIfS (tTru c.K (tDGet2 (tVar 1) (tTup (tCons (tVar 4) (tCons (tVar 3) tNil))) (tC (.bl false))))
  (tRet (tTup (tCons (tVar 4) (tCons (tVar 3) tNil))))
  tNext))
  (tSeq (tFor (iAny c.K (tOp (bIx c.P c.w c.K) (tOp (bIx c.P c.w c.K) (tVar 0) (tVar 3)) (tC (.int 1)))) (gName 5)
  (tIfS (tTru c.K (tDGet2 (tVar 1) (tTup (tCons (tVar 2) (tCons (tVar 5) tNil))) (tC (.bl false))))
  (tRet (tTup (tCons (tVar 2) (tCons (tVar 5) tNil))))
  tNext))
  (tRet (tC .non))))
def sp_behind_left (c : Cn) : Sp := fun vs H Q E => vs.length = 4 ∧ ∃ (mv kn : Addr) (gs : List Gm) (A : Nat → Prop) (G : Nat → Nat → Bool) (kvs : List (List L2.Key × V)) (x p : Nat), vs = [.ref mv, .ref kn, .int x, .int p] ∧ MvAt H mv gs A ∧ A x ∧ A p ∧ GOk gs ∧ H kn = some (.dT kvs) ∧
  (∀ m : Nat, (m : Int) ∈ mvs gs x true → valV kvs [.inl (m : Int), .inl (p : Int)] = some (.bl (G m p))) ∧ (∀ m : Nat, (m : Int) ∈ mvs gs p false → valV kvs [.inl (x : Int), .inl (m : Int)] = some (.bl (G x m))) ∧
  ∀ (H' : Hp) (v : V), Keep Nil H H' → (gL gs G x p = true → ∃ (pa : Addr) (u w : Nat), v = .ref pa ∧ H' pa = some (.tup [.int u, .int w]) ∧ G u w = true ∧ (((u : Int) ∈ mvs gs x true ∧ w = p) ∨ (u = x ∧ (w : Int) ∈ mvs gs p false))) → (gL gs G x p = false → v = .non) → Q v H'
theorem p_behind_left {c : Cn} {mg : Str → Option Value} (T : Txt c mg) {vs : List V} {H : Hp} {Q : VK} {E : XK} (h : sp_behind_left c vs H Q E) : t_behind_left c { nx := fun _ H' => Q .non H', rt := Q } (start N_behind_left vs) H := by
  obtain ⟨_, mv, kn, gs, A, G, kvs, x, p, rfl, M, Aa, Ab, go, ek, h1, h2, k⟩ := h
  obtain ⟨kv, t1, a1, b1, e1, w1, t1', l1, _⟩ := M.list (g := x) Aa
  obtain ⟨kv2, t2, a2, b2, e2, w2, t2', _, l2⟩ := M.list (g := p) Ab
  unfold t_behind_left
  repeat kaf_suf
  refine v_ixMv e1 w1 ?_
  repeat kaf_suf
  refine for_list (xs := (mvs gs x true).map V.int) (fun i σ H' => ∃ (x4 : Option V), σ = [some (.ref mv), some (.ref kn), some (.int x), some (.int p), x4, none] ∧ Keep Nil H H' ∧ ∀ m ∈ (mvs gs x true).take i, G m.toNat p = false) ⟨_, rfl, Keep.refl, fun _ h => by simp at h⟩ ?_ ?_ ?_
  · rintro i σ H' _ ⟨_, _, kk, _⟩; exact SqL.of (kk.get (fun z => z) l1)
  · rintro i x σ H1 hi ⟨x4, rfl, kk, lo⟩
    rw [List.getElem?_map] at hi
    obtain ⟨m, hm, rfl⟩ := Option.map_eq_some_iff.mp hi
    have mm := List.mem_of_getElem? hm
    obtain ⟨m0, _⟩ := mvs_low go mm
    obtain ⟨mn, rfl⟩ := Int.eq_ofNat_of_zero_le m0
    have ek1 := kk.get (fun z => z) ek
    repeat kaf_suf
    refine r_dget2 ?_
    repeat kaf_suf
    refine ⟨kn, rfl, .inr ⟨_, .inl ek1⟩, ?_⟩
    repeat kaf_suf
    intro pp hpp
    repeat kaf_suf
    refine ⟨_, DGet.t (k := [.inl (mn : Int), .inl (p : Int)]) (get_new hpp ek1) upd_same, ?_⟩
    rw [h1 mn mm, Option.getD_some]
    have kp : Keep Nil H (upd H1 pp (.tup [.int mn, .int p])) := kk.new hpp
    repeat kaf_suf
    refine r_iteB (fun hG => ?_) (fun hG => ?_)
    · repeat kaf_suf
      intro p2 hp2
      refine k _ _ (kp.new hp2) (fun _ => ⟨p2, mn, p, rfl, upd_same, hG, .inl ⟨mm, rfl⟩⟩) fun z => ?_
      have : gL gs G x p = true := by
        unfold gL
        rw [Bool.or_eq_true]
        exact .inl (List.any_eq_true.mpr ⟨_, mm, hG⟩)
      rw [this] at z; cases z
    · repeat kaf_suf
      refine ⟨_, rfl, kp, fun m hm' => ?_⟩
      rw [List.take_succ, hm] at hm'
      rcases List.mem_append.mp hm' with h | h
      · exact lo m h
      · cases List.mem_singleton.mp h; exact hG
  rintro σ H1 ⟨x4, rfl, kk, lo⟩
  rw [List.length_map, List.take_length] at lo
  have e2' := kk.get (fun z => z) e2
  have t2'' := kk.get (fun z => z) t2'
  have l2' := kk.get (fun z => z) l2
  repeat kaf_suf
  refine v_ixMv e2' w2 ?_
  repeat kaf_suf
  refine for_list (xs := (mvs gs p false).map V.int) (fun i σ H' => ∃ (x5 : Option V), σ = [some (.ref mv), some (.ref kn), some (.int x), some (.int p), x4, x5] ∧ Keep Nil H H' ∧ ∀ m ∈ (mvs gs p false).take i, G x m.toNat = false) ⟨_, rfl, kk, fun _ h => by simp at h⟩ ?_ ?_ ?_
  · rintro i σ H' _ ⟨_, _, kk, _⟩; exact SqL.of (kk.get (fun z => z) l2)
  · rintro i x σ H2 hi ⟨x5, rfl, kk2, lo2⟩
    rw [List.getElem?_map] at hi
    obtain ⟨m, hm, rfl⟩ := Option.map_eq_some_iff.mp hi
    have mm := List.mem_of_getElem? hm
    obtain ⟨m0, _⟩ := mvs_low go mm
    obtain ⟨mn, rfl⟩ := Int.eq_ofNat_of_zero_le m0
    have ek1 := kk2.get (fun z => z) ek
    clear kk e2' t2'' l2'
    repeat kaf_suf
    refine r_dget2 ?_
    repeat kaf_suf
    refine ⟨kn, rfl, .inr ⟨_, .inl ek1⟩, ?_⟩
    repeat kaf_suf
    intro pp hpp
    repeat kaf_suf
    refine ⟨_, DGet.t (k := [.inl (x : Int), .inl (mn : Int)]) (get_new hpp ek1) upd_same, ?_⟩
    rw [h2 mn mm, Option.getD_some]
    have kp : Keep Nil H (upd H2 pp (.tup [.int x, .int mn])) := kk2.new hpp
    repeat kaf_suf
    refine r_iteB (fun hG => ?_) (fun hG => ?_)
    · repeat kaf_suf
      intro p2 hp2
      refine k _ _ (kp.new hp2) (fun _ => ⟨p2, x, mn, rfl, upd_same, hG, .inr ⟨rfl, mm⟩⟩) fun z => ?_
      have : gL gs G x p = true := by
        unfold gL
        rw [Bool.or_eq_true]
        exact .inr (List.any_eq_true.mpr ⟨_, mm, hG⟩)
      rw [this] at z; cases z
    · repeat kaf_suf
      refine ⟨_, rfl, kp, fun m hm' => ?_⟩
      rw [List.take_succ, hm] at hm'
      rcases List.mem_append.mp hm' with h | h
      · exact lo2 m h
      · cases List.mem_singleton.mp h; exact hG
  rintro σ H2 ⟨x5, rfl, kk2, lo2⟩
  rw [List.length_map, List.take_length] at lo2
  have gf : gL gs G x p = false := by
    unfold gL
    rw [Bool.or_eq_false_iff]
    exact ⟨List.any_eq_false.mpr fun m hm => by rw [lo m hm]; simp, List.any_eq_false.mpr fun m hm => by rw [lo2 m hm]; simp⟩
  repeat kaf_suf
  exact k _ _ kk2 (fun z => by rw [gf] at z; cases z) fun _ => rfl
theorem cal_behind_left {c : Cn} {mg : Str → Option Value} {base : Heap} (T : Txt c mg) : Cal c.P c.w c.K mg base CX0 1 "behind_left" (sp_behind_left c) := by
  obtain ⟨f, fd, F, g, b⟩ := T.F_behind_left
  exact ⟨f, fd, ["moves", "known", "x", "p"], F.ok (k := 0) (N := N_behind_left) sc_behind_left (fun vs H Q E h => h.1) (fun cdv A outer s H vs Q E hr h => ⟨t_behind_left c, by
  exact (pss_cons (ps_for PassesOwn.never rfl (pi_any (pe_ix (x_ix (hu64 hr)) (pe_ix (x_ix (hu64 hr)) (pv 0) (pv 2) (fun _ _ => rfl)) pe_int (fun _ _ => rfl))) (pg_name (i := 4) sc_behind_left.nd rfl (Or.inl rfl))
  (pss_one (ps_if (p_tru (pe_dget2 (hu1 hr) (pv 1) (pe_tup (pa_cons (pv 4) (pa_cons (pv 3) pa_nil))) pe_bl ⟨by rfl, by rfl, by rfl, by rfl⟩)) (pss_one (ps_ret (pe_tup (pa_cons (pv 4) (pa_cons (pv 3) pa_nil))))) pss_nil)))
  (pss_cons (ps_for PassesOwn.never rfl (pi_any (pe_ix (x_ix (hu64 hr)) (pe_ix (x_ix (hu64 hr)) (pv 0) (pv 3) (fun _ _ => rfl)) pe_int (fun _ _ => rfl))) (pg_name (i := 5) sc_behind_left.nd rfl (Or.inl rfl))
  (pss_one (ps_if (p_tru (pe_dget2 (hu1 hr) (pv 1) (pe_tup (pa_cons (pv 2) (pa_cons (pv 5) pa_nil))) pe_bl ⟨by rfl, by rfl, by rfl, by rfl⟩)) (pss_one (ps_ret (pe_tup (pa_cons (pv 2) (pa_cons (pv 5) pa_nil))))) pss_nil)))
  (pss_one (ps_ret pe_non)))), p_behind_left T h⟩), g, F.kp, b⟩
abbrev N_pair_holds : List Str := ["moves", "known", "x", "y", "r", "p"]
theorem sc_pair_holds : FnScope N_pair_holds ["moves", "known", "x", "y"] (defScope s_pair_holds) := ⟨rfl, rfl, rfl, by decide +kernel, rfl, by decide +kernel, by decide +kernel⟩
def t_pair_holds (c : Cn) : TS :=
  (tSeq (tFor (iAny c.K (tOp (bIx c.P c.w c.K) (tOp (bIx c.P c.w c.K) (tVar 0) (tVar 2)) (tC (.int 1)))) (gName 4)
  (tIfS (tTest (tOp cIs (tCall (sp_behind_right c) [] E0 (tCons (tVar 0) (tCons (tVar 1) (tCons (tVar 4) (tCons (tVar 3) tNil))))) (tC .non)))
  (tRet (tC (.bl false)))
  tNext))
  (tSeq (tFor (iAny c.K (tOp (bIx c.P c.w c.K) (tOp (bIx c.P c.w c.K) (tVar 0) (tVar 3)) (tC (.int 0)))) (gName 5)
  (tIfS (tTest (tOp cIs (tCall (sp_behind_left c) [] E0 (tCons (tVar 0) (tCons (tVar 1) (tCons (tVar 2) (tCons (tVar 5) tNil))))) (tC .non)))
  (tRet (tC (.bl false)))
  tNext))
  (tRet (tC (.bl true)))))
def sp_pair_holds (c : Cn) : Sp := fun vs H Q E => vs.length = 4 ∧ ∃ (mv kn : Addr) (gs : List Gm) (A : Nat → Prop) (G : Nat → Nat → Bool) (kvs : List (List L2.Key × V)) (x y : Nat), vs = [.ref mv, .ref kn, .int x, .int y] ∧ MvAt H mv gs A ∧ (∀ g, A g → ∀ s, ∀ m ∈ mvs gs g s, A m.toNat) ∧ A x ∧ A y ∧ GOk gs ∧ H kn = some (.dT kvs) ∧
  (∀ r : Nat, (r : Int) ∈ mvs gs x false → (∀ m : Nat, (m : Int) ∈ mvs gs r true → valV kvs [.inl (m : Int), .inl (y : Int)] = some (.bl (G m y))) ∧ ∀ m : Nat, (m : Int) ∈ mvs gs y false → valV kvs [.inl (r : Int), .inl (m : Int)] = some (.bl (G r m))) ∧
  (∀ p : Nat, (p : Int) ∈ mvs gs y true → (∀ m : Nat, (m : Int) ∈ mvs gs x true → valV kvs [.inl (m : Int), .inl (p : Int)] = some (.bl (G m p))) ∧ ∀ m : Nat, (m : Int) ∈ mvs gs p false → valV kvs [.inl (x : Int), .inl (m : Int)] = some (.bl (G x m))) ∧
  ∀ (H' : Hp), Keep Nil H H' → Q (.bl (gB gs G x y)) H'
theorem p_pair_holds {c : Cn} {mg : Str → Option Value} (T : Txt c mg) {vs : List V} {H : Hp} {Q : VK} {E : XK} (h : sp_pair_holds c vs H Q E) : t_pair_holds c { nx := fun _ H' => Q .non H', rt := Q } (start N_pair_holds vs) H := by
  obtain ⟨_, mv, kn, gs, A, G, kvs, x, y, rfl, M, cl, Ax, Ay, go, ek, h1, h2, k⟩ := h
  obtain ⟨kv, t1, a1, b1, e1, w1, t1', _, l1⟩ := M.list Ax
  obtain ⟨kv2, t2, a2, b2, e2, w2, t2', l2, _⟩ := M.list Ay
  unfold t_pair_holds
  repeat kaf_suf
  refine v_ixMv e1 w1 ?_
  repeat kaf_suf
  refine for_list (xs := (mvs gs x false).map V.int) (fun i σ H' => ∃ (x4 : Option V), σ = [some (.ref mv), some (.ref kn), some (.int x), some (.int y), x4, none] ∧ Keep Nil H H' ∧ ∀ m ∈ (mvs gs x false).take i, gR gs G m.toNat y = true) ⟨_, rfl, Keep.refl, fun _ h => by simp at h⟩ ?_ ?_ ?_
  · rintro i σ H' _ ⟨_, _, kk, _⟩; exact SqL.of (kk.get (fun z => z) l1)
  · rintro i xx σ H1 hi ⟨x4, rfl, kk, lo⟩
    rw [List.getElem?_map] at hi
    obtain ⟨m, hm, rfl⟩ := Option.map_eq_some_iff.mp hi
    have mm := List.mem_of_getElem? hm
    obtain ⟨m0, _⟩ := mvs_low go mm
    obtain ⟨mn, rfl⟩ := Int.eq_ofNat_of_zero_le m0
    have Am := cl _ Ax _ _ mm
    rw [Int.toNat_natCast] at Am
    repeat kaf_suf
    refine ⟨rfl, mv, kn, gs, A, G, kvs, mn, y, rfl, M.same kk, Am, Ay, go, kk.get (fun z => z) ek, (h1 mn mm).1, (h1 mn mm).2, fun H2 v k2 vt vf => ?_⟩
    cases hG : gR gs G mn y with
    | true =>
      obtain ⟨p, u, w, rfl, _⟩ := vt hG
      repeat kaf_suf
      refine r_iteF' (fun z => by cases z) ?_
      repeat kaf_suf
      refine ⟨_, rfl, kk.trans k2, fun m hm' => ?_⟩
      rw [List.take_succ, hm] at hm'
      rcases List.mem_append.mp hm' with h | h
      · exact lo m h
      · cases List.mem_singleton.mp h; exact hG
    | false =>
      obtain rfl := vf hG
      repeat kaf_suf
      have := k _ (kk.trans k2)
      have gf : gB gs G x y = false := by
        unfold gB
        rw [Bool.and_eq_false_iff]
        exact .inl (List.all_eq_false.mpr ⟨_, mm, by rw [Int.toNat_natCast, hG]; simp⟩)
      rw [gf] at this
      exact this
  rintro σ H1 ⟨x4, rfl, kk, lo⟩
  rw [List.length_map, List.take_length] at lo
  have e2' := kk.get (fun z => z) e2
  have t2'' := kk.get (fun z => z) t2'
  have l2' := kk.get (fun z => z) l2
  repeat kaf_suf
  refine v_ixMv e2' w2 ?_
  repeat kaf_suf
  refine for_list (xs := (mvs gs y true).map V.int) (fun i σ H' => ∃ (x5 : Option V), σ = [some (.ref mv), some (.ref kn), some (.int x), some (.int y), x4, x5] ∧ Keep Nil H H' ∧ ∀ m ∈ (mvs gs y true).take i, gL gs G x m.toNat = true) ⟨_, rfl, kk, fun _ h => by simp at h⟩ ?_ ?_ ?_
  · rintro i σ H' _ ⟨_, _, kk, _⟩; exact SqL.of (kk.get (fun z => z) l2)
  · rintro i xx σ H2 hi ⟨x5, rfl, kk2, lo2⟩
    rw [List.getElem?_map] at hi
    obtain ⟨m, hm, rfl⟩ := Option.map_eq_some_iff.mp hi
    have mm := List.mem_of_getElem? hm
    obtain ⟨m0, _⟩ := mvs_low go mm
    obtain ⟨mn, rfl⟩ := Int.eq_ofNat_of_zero_le m0
    have Am := cl _ Ay _ _ mm
    rw [Int.toNat_natCast] at Am
    clear kk e2' t2'' l2'
    repeat kaf_suf
    refine ⟨rfl, mv, kn, gs, A, G, kvs, x, mn, rfl, M.same kk2, Ax, Am, go, kk2.get (fun z => z) ek, (h2 mn mm).1, (h2 mn mm).2, fun H3 v k3 vt vf => ?_⟩
    cases hG : gL gs G x mn with
    | true =>
      obtain ⟨p, u, w, rfl, _⟩ := vt hG
      repeat kaf_suf
      refine r_iteF' (fun z => by cases z) ?_
      repeat kaf_suf
      refine ⟨_, rfl, kk2.trans k3, fun m hm' => ?_⟩
      rw [List.take_succ, hm] at hm'
      rcases List.mem_append.mp hm' with h | h
      · exact lo2 m h
      · cases List.mem_singleton.mp h; exact hG
    | false =>
      obtain rfl := vf hG
      repeat kaf_suf
      have := k _ (kk2.trans k3)
      have gf : gB gs G x y = false := by
        unfold gB
        rw [Bool.and_eq_false_iff]
        exact .inr (List.all_eq_false.mpr ⟨_, mm, by rw [Int.toNat_natCast, hG]; simp⟩)
      rw [gf] at this
      exact this
  rintro σ H2 ⟨x5, rfl, kk2, lo2⟩
  rw [List.length_map, List.take_length] at lo2
  have := k _ kk2
  have gt : gB gs G x y = true := by
    unfold gB
    rw [Bool.and_eq_true]
    exact ⟨List.all_eq_true.mpr lo, List.all_eq_true.mpr lo2⟩
  rw [gt] at this
  repeat kaf_suf
  exact this
theorem cal_pair_holds {c : Cn} {mg : Str → Option Value} {base : Heap} (T : Txt c mg) : Cal c.P c.w c.K mg base CX0 2 "pair_holds" (sp_pair_holds c) := by
  obtain ⟨f, fd, F, g, b⟩ := T.F_pair_holds
  exact ⟨f, fd, ["moves", "known", "x", "y"], F.ok (k := 1) (N := N_pair_holds) sc_pair_holds (fun vs H Q E h => h.1) (fun cdv A outer s H vs Q E hr h => ⟨t_pair_holds c, by
  exact (pss_cons (ps_for PassesOwn.never rfl (pi_any (pe_ix (x_ix (hu64 hr)) (pe_ix (x_ix (hu64 hr)) (pv 0) (pv 2) (fun _ _ => rfl)) pe_int (fun _ _ => rfl))) (pg_name (i := 4) sc_pair_holds.nd rfl (Or.inl rfl))
  (pss_one (ps_if (pt_cmpR o_is (e_call (cal_behind_right T) hr (by decide) pass0 rfl (pa_cons (pv 0) (pa_cons (pv 1) (pa_cons (pv 4) (pa_cons (pv 3) pa_nil))))) pe_non (nomark _)) (pss_one (ps_ret pe_bl)) pss_nil)))
  (pss_cons (ps_for PassesOwn.never rfl (pi_any (pe_ix (x_ix (hu64 hr)) (pe_ix (x_ix (hu64 hr)) (pv 0) (pv 3) (fun _ _ => rfl)) pe_int (fun _ _ => rfl))) (pg_name (i := 5) sc_pair_holds.nd rfl (Or.inl rfl))
  (pss_one (ps_if (pt_cmpR o_is (e_call (cal_behind_left T) hr (by decide) pass0 rfl (pa_cons (pv 0) (pa_cons (pv 1) (pa_cons (pv 2) (pa_cons (pv 5) pa_nil))))) pe_non (nomark _)) (pss_one (ps_ret pe_bl)) pss_nil)))
  (pss_one (ps_ret pe_bl)))), p_pair_holds T h⟩), g, F.kp, b⟩

abbrev N_reached : List Str := ["book", "g", "found", "waiting", "here", "move"]
theorem sc_reached : FnScope N_reached ["book", "g"] (defScope s_reached) := ⟨rfl, rfl, rfl, by decide +kernel, rfl, by decide +kernel, by decide +kernel⟩
def t_reached (c : Cn) (E : XK) : TS :=
  (tSeq (tDrop (tMeth c.cBook "depth" (sx_Book_depth c) [] E (tVar 0) (tCons (tVar 1) tNil)))
  (tSeq (tAsg (tDisp (((tVar 1), (tC (.bl true))) :: [])) (gName 2))
  (tSeq (tAsg (tLst (tCons (tVar 1) tNil)) (gName 3))
  (tSeq (tWhile (tTest (tOp (cNe c.K) (tVar 3) (tLst tNil)))
  (tSeq (tAsg (tBM0 c.K "list" rPop (tVar 3)) (gName 4))
  (tFor (iAny c.K (tOp (bAdd c.K) (tMeth c.cBook "lefts" (sx_Book_lefts c) [] E (tVar 0) (tCons (tVar 4) tNil)) (tMeth c.cBook "rights" (sx_Book_rights c) [] E (tVar 0) (tCons (tVar 4) tNil)))) (gName 5)
  (tIfS (tTest (tOp (cNotIn c.P c.w c.K) (tVar 5) (tVar 2)))
  (tSeq (tAsg (tC (.bl true)) (gSub (tVar 2) (tVar 5) (bSet c.P c.w)))
  (tDrop (tBM c.K "list" rAppend (tVar 3) (tCons (tVar 5) tNil))))
  tNext))))
  (tRet (tCB (kSorted c.K c.w) (tCons (tVar 2) tNil)))))))
/-- what can be come to from g: rising, closed, none greater -/
structure Rch (gs : List Gm) (g : Nat) (rs : List Int) : Prop where
  up : rs.Pairwise (· < ·)
  mem : (g : Int) ∈ rs
  low : ∀ z ∈ rs, 0 ≤ z ∧ z ≤ g
  cl : ∀ z ∈ rs, ∀ s, ∀ m ∈ mvs gs z.toNat s, m ∈ rs
theorem lt_of_nodup : ∀ {l : List Int}, l.Pairwise (· ≤ ·) → l.Nodup → l.Pairwise (· < ·)
  | [], _, _ => .nil
  | x :: r, h, n => by
    obtain ⟨h1, h2⟩ := List.pairwise_cons.mp h
    obtain ⟨n1, n2⟩ := List.nodup_cons.mp n
    refine List.pairwise_cons.mpr ⟨fun y hy => ?_, lt_of_nodup h2 n2⟩
    have := h1 y hy
    have : x ≠ y := fun e => n1 (e ▸ hy)
    omega
theorem keys_bound {ks : List Int} {g : Nat} (n : ks.Nodup) (h : ∀ z ∈ ks, 0 ≤ z ∧ z ≤ g) : ks.length ≤ g + 1 := by
  have := nodup_le ks ((List.range (g + 1)).map Int.ofNat) n fun z hz => by
    have := h z hz
    exact List.mem_map.mpr ⟨z.toNat, List.mem_range.mpr (by omega), by show ((z.toNat : Nat) : Int) = z; omega⟩
  rw [List.length_map, List.length_range] at this
  exact this
theorem keysM {kvs : List KX} {ks : List Int} (e : kvs.map (·.1) = ks.map Sum.inl) (z : Int) : (valV kvs (.inl z)).isSome = decide (z ∈ ks) := by
  rw [← valV_any]
  have : (kvs.any fun kv => decide (kv.1 = (Sum.inl z : Key))) = (kvs.map (·.1)).any fun k => decide (k = Sum.inl z) := by rw [List.any_map]; rfl
  rw [this, e, List.any_map]
  by_cases h : z ∈ ks
  · rw [decide_eq_true h]
    exact List.any_eq_true.mpr ⟨z, h, by simp⟩
  · rw [decide_eq_false h]
    exact List.any_eq_false.mpr fun y hy => by
      simp only [Function.comp, decide_eq_true_eq]
      intro q; injection q with q; exact h (q ▸ hy)
def sp_reached (c : Cn) : Sp := fun vs H Q E => vs.length = 2 ∧ ∃ (b : Addr) (M : Addr → Prop) (gs : List Gm) (ds : List Int) (g : Nat), vs = [.ref b, .int g] ∧ BookAt c H b M gs ds ∧ g < gs.length ∧ gs.length ≤ 40000 ∧
  ∀ (H' : Hp) (p : Addr) (rs : List Int), Keep Nil H H' → H p = none → H' p = some (.lst (rs.map V.int)) → Rch gs g rs → Q (.ref p) H'
theorem p_reached {c : Cn} {mg : Str → Option Value} (T : Txt c mg) {vs : List V} {H : Hp} {Q : VK} {E : XK} (h : sp_reached c vs H Q E) : t_reached c E { nx := fun _ H' => Q .non H', rt := Q } (start N_reached vs) H := by
  obtain ⟨_, b, M, gs, ds, g, rfl, B, hg, few, k⟩ := h
  obtain ⟨dg, hdg⟩ : ∃ v, ds[g]? = some v := ⟨_, List.getElem?_eq_getElem (by have := B.dok.len; omega)⟩
  obtain ⟨bx, bm, bn, bd, hb⟩ := B.ins_
  unfold t_reached
  repeat kaf_suf
  refine ⟨rfl, .inl ⟨rfl, b, M, gs, ds, g, dg, rfl, B, hdg, ?_⟩⟩
  repeat kaf_suf
  refine fun fd hfd => ?_
  simp only [tPairs]
  repeat kaf_suf
  refine ⟨upd_same, [(.inl (g : Int), .bl true)], rfl, by simp, ?_⟩
  repeat kaf_suf
  intro wt hwt
  repeat kaf_suf
  have k0 : Keep Nil H (upd (upd (upd H fd (.dK [])) fd (.dK (mergeK [] [(.inl (g : Int), .bl true)]))) wt (.lst [.int g])) := ((Keep.alloc hfd).setN hfd).new hwt
  have hwt0 : H wt = none := by
    have := none_of_upd (none_of_upd hwt); exact this
  have efd : (upd (upd (upd H fd (.dK [])) fd (.dK (mergeK [] [(.inl (g : Int), .bl true)]))) wt (.lst [.int g])) fd = some (.dK [(.inl (g : Int), .bl true)]) := get_new hwt upd_same
  have ewt : (upd (upd (upd H fd (.dK [])) fd (.dK (mergeK [] [(.inl (g : Int), .bl true)]))) wt (.lst [.int g])) wt = some (.lst [.int g]) := upd_same
  generalize upd (upd (upd H fd (.dK [])) fd (.dK (mergeK [] [(.inl (g : Int), .bl true)]))) wt (.lst [.int g]) = H0 at k0 efd ewt ⊢
  clear hwt
  have nfw : fd ≠ wt := fun z => by rw [z, ewt] at efd; cases efd
  refine ⟨fun m σ H' => ∃ (x4 x5 : Option V) (ks ws : List Int) (kvs : List KX), σ = [some (.ref b), some (.int g), some (.ref fd), some (.ref wt), x4, x5] ∧ kvs.map (·.1) = ks.map Sum.inl ∧ H' fd = some (.dK kvs) ∧ H' wt = some (.lst (ws.map V.int)) ∧ Keep Nil H H' ∧
    ks.Nodup ∧ (∀ z ∈ ks, 0 ≤ z ∧ z ≤ g) ∧ (g : Int) ∈ ks ∧ (∀ z ∈ ws, z ∈ ks) ∧ (∀ z ∈ ks, z ∉ ws → ∀ s, ∀ m ∈ mvs gs z.toNat s, m ∈ ks) ∧ ws.Nodup ∧ m = 2 * (g + 1 - ks.length) + ws.length, ⟨_, _, _, [(g : Int)], [(g : Int)], _, rfl, rfl, efd, ewt, k0, by simp, (fun z hz => by simp at hz; omega), by simp, (fun z hz => hz), (fun z hz n => absurd hz n), by simp, rfl⟩, ?_⟩
  rintro m σ H1 ⟨x4, x5, ks, ws, kvs, rfl, hks, e1, e2, k1, nd, lo, gm, wk, cl, wl, rfl⟩
  clear efd ewt k0
  repeat kaf_suf
  intro q hq
  repeat kaf_suf
  refine v_neD (dp_ints (get_new hq e2)) (.lst (SqL.of upd_same) .nil) (dInts_sh _) (dInts_sh []) ?_
  rw [show PyData.eqv (dInts ws) (.list []) = decide (ws = []) from eqv_dInts ws []]
  have e1q : (upd H1 q (.lst [])) fd = some (.dK kvs) := get_new hq e1
  have e2q : (upd H1 q (.lst [])) wt = some (.lst (ws.map V.int)) := get_new hq e2
  have k1q : Keep Nil H (upd H1 q (.lst [])) := k1.new hq
  generalize upd H1 q (.lst []) = H2 at e1q e2q k1q ⊢
  clear e1 e2 k1 hq
  have ksb := keys_bound nd lo
  rcases List.eq_nil_or_concat ws with rfl | ⟨w2, z, rfl⟩
  · repeat kaf_suf
    refine r_iteNF' rfl ?_
    repeat kaf_suf
    refine v_sortedD e1q hks fun rs p pr ris hp => ?_
    have rn : rs.Nodup := pr.nodup_iff.mpr nd
    exact k _ p rs (k1q.new hp) (keep_none k1q hp) upd_same ⟨lt_of_nodup ris rn, pr.mem_iff.mpr gm, fun z hz => lo z (pr.mem_iff.mp hz), fun z hz s m hm => pr.mem_iff.mpr (cl z (pr.mem_iff.mp hz) (by simp) s m hm)⟩
  · rw [List.concat_eq_append] at e2q wk cl wl ⊢
    refine r_kB ?_
    refine r_iteNT' (by simp) ?_
    rw [List.map_append] at e2q
    have zk : z ∈ ks := wk z (by simp)
    obtain ⟨z0, zg⟩ := lo z zk
    obtain ⟨zn, rfl⟩ := Int.eq_ofNat_of_zero_le z0
    obtain ⟨gmz, hgz⟩ : ∃ x, gs[zn]? = some x := ⟨_, List.getElem?_eq_getElem (by omega)⟩
    have emz : ∀ s, mvs gs zn s = if s then gmz.1 else gmz.2 := fun s => by unfold mvs; rw [hgz]
    refine ⟨fun σ' H' => ∃ (x4 x5 : Option V) (ks' ws' : List Int) (kvs' : List KX), σ' = [some (.ref b), some (.int g), some (.ref fd), some (.ref wt), x4, x5] ∧ kvs'.map (·.1) = ks'.map Sum.inl ∧ H' fd = some (.dK kvs') ∧ H' wt = some (.lst (ws'.map V.int)) ∧ Keep Nil H H' ∧
      ks'.Nodup ∧ (∀ z ∈ ks', 0 ≤ z ∧ z ≤ g) ∧ (g : Int) ∈ ks' ∧ (∀ z ∈ ws', z ∈ ks') ∧ (∀ z ∈ ks', z ∉ ws' → ∀ s, ∀ m ∈ mvs gs z.toNat s, m ∈ ks') ∧ ws'.Nodup ∧ 2 * (g + 1 - ks'.length) + ws'.length < 2 * (g + 1 - ks.length) + (w2 ++ [(zn : Int)]).length, fun σ' H' ⟨x4, x5, ks', ws', kvs', h1, h2, h3, h4, h5, h6, h7, h8, h9, h10, h11, h12⟩ => ⟨_, h12, x4, x5, ks', ws', kvs', h1, h2, h3, h4, h5, h6, h7, h8, h9, h10, h11, rfl⟩, ?_⟩
    repeat kaf_suf
    refine v_pop e2q ?_
    have e1p : (upd H2 wt (.lst (w2.map V.int))) fd = some (.dK kvs) := get_set nfw e1q
    have e2p : (upd H2 wt (.lst (w2.map V.int))) wt = some (.lst (w2.map V.int)) := upd_same
    have kp : Keep Nil H (upd H2 wt (.lst (w2.map V.int))) := k1q.setN hwt0
    have Bp := B.same kp
    generalize upd H2 wt (.lst (w2.map V.int)) = H3 at e1p e2p kp Bp ⊢
    clear e1q e2q k1q
    obtain ⟨bx3, bm3, bn3, bd3, hb3⟩ := Bp.ins_
    repeat kaf_suf
    refine ⟨rfl, .inl ⟨rfl, b, M, gs, ds, zn, gmz, rfl, Bp, hgz, fun r1 hr1 => ?_⟩⟩
    repeat kaf_suf
    refine ⟨rfl, .inl ⟨rfl, b, M, gs, ds, zn, gmz, rfl, Bp.same (Keep.alloc hr1), hgz, fun r2 hr2 => ?_⟩⟩
    have u1 := B.ok.up gmz (List.mem_of_getElem? hgz)
    have lw := B.ok.low zn gmz hgz
    have n1 := up_len _ 0 zn u1.1 (fun x hx => lw x (List.mem_append_left _ hx)) (by omega)
    have n2 := up_len _ 0 zn u1.2 (fun x hx => lw x (List.mem_append_right _ hx)) (by omega)
    repeat kaf_suf
    intro r3 hr3
    have e3 : (upd (upd (upd H3 r1 (.lst (gmz.1.map V.int))) r2 (.lst (gmz.2.map V.int))) r3 (.lst (gmz.1.map V.int ++ gmz.2.map V.int))) r3 = some (.lst ((gmz.1 ++ gmz.2).map V.int)) := by rw [List.map_append]; exact upd_same
    have k3 : Keep Nil H3 (upd (upd (upd H3 r1 (.lst (gmz.1.map V.int))) r2 (.lst (gmz.2.map V.int))) r3 (.lst (gmz.1.map V.int ++ gmz.2.map V.int))) := ((Keep.alloc hr1).new hr2).new hr3
    have e13 := k3.get (fun z => z) e1p
    have e23 := k3.get (fun z => z) e2p
    have k03 := kp.trans k3
    have nr3 : r3 ≠ wt := ne_new hr3 (get_new hr2 (get_new hr1 e2p))
    have nr3' : r3 ≠ fd := ne_new hr3 (get_new hr2 (get_new hr1 e1p))
    generalize upd (upd (upd H3 r1 (.lst (gmz.1.map V.int))) r2 (.lst (gmz.2.map V.int))) r3 (.lst (gmz.1.map V.int ++ gmz.2.map V.int)) = H4 at e3 e13 e23 k03 ⊢
    clear hr1 hr2 hr3 k3 e1p e2p kp Bp hb3
    repeat kaf_suf
    have hfd0 : H fd = none := hfd
    refine for_list (xs := (gmz.1 ++ gmz.2).map V.int) (fun j σ H' => ∃ (x5 : Option V) (ks' ws' : List Int) (kvs' : List KX), σ = [some (.ref b), some (.int g), some (.ref fd), some (.ref wt), some (.int zn), x5] ∧ kvs'.map (·.1) = ks'.map Sum.inl ∧ H' fd = some (.dK kvs') ∧ H' wt = some (.lst (ws'.map V.int)) ∧ Keep Nil H H' ∧ H' r3 = some (.lst ((gmz.1 ++ gmz.2).map V.int)) ∧
      ks'.Nodup ∧ (∀ z ∈ ks', 0 ≤ z ∧ z ≤ g) ∧ (∀ z ∈ ks, z ∈ ks') ∧ (∀ z ∈ ws', z ∈ ks') ∧ (∀ z ∈ w2, z ∈ ws') ∧ (∀ z ∈ ks', z ∉ ks → z ∈ ws') ∧ (∀ m ∈ (gmz.1 ++ gmz.2).take j, m ∈ ks') ∧ ws'.Nodup ∧ ws'.length + ks.length = w2.length + ks'.length) ⟨_, ks, w2, kvs, rfl, hks, e13, e23, k03, e3, nd, lo, (fun z hz => hz), (fun z hz => wk z (by simp [hz])), (fun z hz => hz), (fun z hz n => absurd hz n), (fun m hm => by simp at hm), (List.nodup_append.mp wl).1, rfl⟩ ?_ ?_ ?_
    · rintro j σ H' _ ⟨_, _, _, _, _, _, _, _, _, h, _⟩; exact SqL.of h
    · rintro j x σ H5 hj ⟨x5, ks', ws', kvs', rfl, hks', f1, f2, kk, f3, nd', lo', sub, wk', w2s, new', tk, wl', eq'⟩
      rw [List.getElem?_map] at hj
      obtain ⟨mm, hm, rfl⟩ := Option.map_eq_some_iff.mp hj
      have hmm := List.mem_of_getElem? hm
      obtain ⟨m0, m1⟩ := lw mm hmm
      have tk1 : (gmz.1 ++ gmz.2).take (j + 1) = (gmz.1 ++ gmz.2).take j ++ [mm] := by rw [List.take_succ, hm]; rfl
      have kb := keys_bound nd' lo'
      have wkl := nodup_le ws' ks' wl' wk'
      repeat kaf_suf
      refine v_ninK f1 ?_
      rw [keysM hks']
      refine r_kB (r_iteN (fun hn => ?_) (fun hn => ?_))
      · have wl2 : ws'.length ≤ 90000 := by omega
        repeat kaf_suf
        have lk : kvs'.length = ks'.length := by have := congrArg List.length hks'; rw [List.length_map, List.length_map] at this; exact this
        refine v_setK f1 (few1 (by omega)) ?_
        have f1' : (upd H5 fd (.dK (putK kvs' (.inl mm) (.bl true)))) fd = some (.dK (putK kvs' (.inl mm) (.bl true))) := upd_same
        have f2' : (upd H5 fd (.dK (putK kvs' (.inl mm) (.bl true)))) wt = some (.lst (ws'.map V.int)) := get_set nfw.symm f2
        have f3' : (upd H5 fd (.dK (putK kvs' (.inl mm) (.bl true)))) r3 = some (.lst ((gmz.1 ++ gmz.2).map V.int)) := get_set nr3' f3
        have nn : valV kvs' (.inl mm) = none := by
          have := keysM hks' mm
          rw [decide_eq_false hn] at this
          cases e : valV kvs' (.inl mm) with
          | none => rfl
          | some v => rw [e] at this; cases this
        have kk' : Keep Nil H (upd H5 fd (.dK (putK kvs' (.inl mm) (.bl true)))) := kk.setN hfd0
        generalize hX : upd H5 fd (.dK (putK kvs' (.inl mm) (.bl true))) = H6 at f1' f2' f3' kk' ⊢
        repeat kaf_suf
        refine ⟨_, ks' ++ [mm], ws' ++ [mm], putK kvs' (.inl mm) (.bl true), rfl, by rw [putK_new nn, List.map_append, List.map_append, hks']; rfl, get_set nfw f1', by rw [List.map_append]; exact upd_same, kk'.setN hwt0, get_set nr3 f3', ?_, ?_, (fun z hz => List.mem_append_left _ (sub z hz)), ?_, (fun z hz => List.mem_append_left _ (w2s z hz)), ?_, ?_, ?_, by rw [List.length_append, List.length_append]; simp only [List.length_singleton]; omega⟩
        · rw [List.nodup_append]
          refine ⟨nd', by simp, fun x hx y hy => ?_⟩
          cases List.mem_singleton.mp hy
          exact fun e => hn (e ▸ hx)
        · intro z hz
          rcases List.mem_append.mp hz with h | h
          · exact lo' z h
          · cases List.mem_singleton.mp h; omega
        · intro z hz
          rcases List.mem_append.mp hz with h | h
          · exact List.mem_append_left _ (wk' z h)
          · exact List.mem_append_right _ h
        · intro z hz hn'
          rcases List.mem_append.mp hz with h | h
          · exact List.mem_append_left _ (new' z h hn')
          · exact List.mem_append_right _ h
        · intro m hm'
          rw [tk1] at hm'
          rcases List.mem_append.mp hm' with h | h
          · exact List.mem_append_left _ (tk m h)
          · exact List.mem_append_right _ h
        · rw [List.nodup_append]
          refine ⟨wl', by simp, fun x hx y hy => ?_⟩
          cases List.mem_singleton.mp hy
          exact fun e => hn (e ▸ wk' x hx)
      · repeat kaf_suf
        refine ⟨_, ks', ws', kvs', rfl, hks', f1, f2, kk, f3, nd', lo', sub, wk', w2s, new', fun m hm' => ?_, wl', eq'⟩
        rw [tk1] at hm'
        rcases List.mem_append.mp hm' with h | h
        · exact tk m h
        · cases List.mem_singleton.mp h; exact hn
    · rintro σ H5 ⟨x5, ks', ws', kvs', rfl, hks', f1, f2, kk, f3, nd', lo', sub, wk', w2s, new', tk, wl', eq'⟩
      rw [List.length_map, List.take_length] at tk
      repeat kaf_suf
      refine ⟨_, _, ks', ws', kvs', rfl, hks', f1, f2, kk, nd', lo', sub _ gm, wk', fun y hy hn s m hm => ?_, wl', ?_⟩
      · by_cases e : y = (zn : Int)
        · subst e
          rw [Int.toNat_natCast, emz] at hm
          refine tk m ?_
          cases s
          · exact List.mem_append_right _ hm
          · exact List.mem_append_left _ hm
        · by_cases hy' : y ∈ ks
          · refine sub m (cl y hy' (fun z => ?_) s m hm)
            rcases List.mem_append.mp z with h | h
            · exact hn (w2s y h)
            · exact e (List.mem_singleton.mp h)
          · exact absurd (new' y hy hy') hn
      · have kb := keys_bound nd' lo'
        rw [List.length_append]
        simp only [List.length_singleton]
        have := nodup_le ks ks' nd sub
        omega
def sy_reached (c : Cn) : Sp := fun vs H Q E => vs.length = 2 ∧ ∃ (b : Addr) (M : Addr → Prop) (gs : List Gm) (ds : List Int) (v : V), vs = [.ref b, v] ∧ BookAt c H b M gs ds ∧ BadV H gs.length v ∧ E (.ref c.cNoGame) none H
theorem q_reached {c : Cn} {mg : Str → Option Value} (T : Txt c mg) {vs : List V} {H : Hp} {Q : VK} {E : XK} (h : sy_reached c vs H Q E) : t_reached c E { nx := fun _ H' => Q .non H', rt := Q } (start N_reached vs) H := by
  obtain ⟨_, b, M, gs, ds, v, rfl, B, bd, k⟩ := h
  obtain ⟨dx, mv, nm, dp, hb⟩ := B.ins_
  unfold t_reached
  repeat kaf_suf
  exact ⟨rfl, .inr ⟨rfl, b, M, gs, ds, v, rfl, B, bd, k⟩⟩
def sx_reached (c : Cn) : Sp := fun vs H Q E => vs.length = 2 ∧ (sp_reached c vs H Q E ∨ sy_reached c vs H Q E)
theorem calx_reached {c : Cn} {mg : Str → Option Value} {base : Heap} (T : Txt c mg) : Cal c.P c.w c.K mg base (L2.CX c.P c.w) 3 "reached" (sx_reached c) := by
  obtain ⟨f, fd, F, g, b⟩ := T.F_reached
  exact ⟨f, fd, ["book", "g"], F.okX (k := 2) (N := N_reached) sc_reached (fun vs H Q E h => h.1) (fun cdv A outer s H vs Q E hr h => ⟨t_reached c E, by
  exact (pss_cons (ps_expr (e_meth (metx_Book_depth T) hr (by decide) (passes_call (takes_of rfl rfl rfl rfl) fun _ _ _ _ z => z) (pv 0) (pa_cons (pv 1) pa_nil)))
  (pss_cons (ps_set (i := 2) sc_reached.nd rfl (Or.inl rfl) (pe_disp (pps_cons (pv 1) pe_bl pps_nil) rfl rfl (by simp) (by decide)))
  (pss_cons (ps_set (i := 3) sc_reached.nd rfl (Or.inl rfl) (pe_lst (pa_cons (pv 1) pa_nil)))
  (pss_cons (ps_while (passes_of rfl) (pt_cmpR (o_ne (hu64 hr)) (pv 3) (pe_lst pa_nil) (nomark _))
  (pss_cons (ps_set (i := 4) sc_reached.nd rfl (Or.inl rfl) (pe_bm0 PySem.F.plainAttrs_list PySem.F.slot_list_pop PySem.F.type_list_pop mt_pop (pv 3)))
  (pss_one (ps_for (passes_of rfl) rfl (pi_any (pe_op o_add (e_meth (metx_Book_lefts T) hr (by decide) (passes_call (takes_of rfl rfl rfl rfl) fun _ _ _ _ z => z) (pv 0) (pa_cons (pv 4) pa_nil)) (e_meth (metx_Book_rights T) hr (by decide) (passes_call (takes_of rfl rfl rfl rfl) fun _ _ _ _ z => z) (pv 0) (pa_cons (pv 4) pa_nil)))) (pg_name (i := 5) sc_reached.nd rfl (Or.inl rfl))
  (pss_one (ps_if (pt_cmpR (o_notin (hu65 hr)) (pv 5) (pv 2) (by rfl)) (pss_cons (ps_asg pe_bl (pg_sub (pv 2) (pv 5) (s_set (hu64 hr))))
  (pss_one (ps_expr (pe_bm PySem.F.plainAttrs_list PySem.F.slot_list_append PySem.F.type_list_append mt_append (pv 3) (pa_cons (pv 5) pa_nil))))) pss_nil))))))
  (pss_one (ps_ret (pe_callB (k_sorted rfl) (by rfl) T.n_sorted (by decide +kernel) (pa_cons (pv 2) pa_nil)))))))), h.2.elim (p_reached T) (q_reached T)⟩), g, F.kp, b⟩
theorem cal_reached {c : Cn} {mg : Str → Option Value} {base : Heap} (T : Txt c mg) : Cal c.P c.w c.K mg base (L2.CX c.P c.w) 3 "reached" (sp_reached c) := by
  obtain ⟨f, fd, ps, F, g, kp, b⟩ := (calx_reached T).ex
  exact ⟨⟨f, fd, ps, F.imp fun vs H Q E h => ⟨h.1, .inl h⟩, g, kp, b⟩⟩

theorem rowSet {H : Hp} {d t : Addr} {kvs : List KX} {o : HO} {gm : Gm} (r : RowAt Nil H t gm) (e : H d = some (.dK kvs)) : RowAt Nil (upd H d o) t gm := by
  obtain ⟨a, b, h1, h2, h3, w⟩ := r
  exact ⟨a, b, get_set (fun z => by rw [z, e] at h1; cases h1) h1, get_set (fun z => by rw [z, e] at h2; cases h2) h2, get_set (fun z => by rw [z, e] at h3; cases h3) h3, w⟩
theorem take_lt : ∀ {l : List Int} {i : Nat} {x z : Int}, l.Pairwise (· < ·) → l[i]? = some x → z ∈ l → z < x → z ∈ l.take i
  | [], _, _, _, _, h, _, _ => by simp at h
  | a :: r, 0, x, z, u, h, hz, lt => by
    simp at h; subst h
    rcases List.mem_cons.mp hz with e | hz
    · omega
    · have := (List.pairwise_cons.mp u).1 z hz; omega
  | a :: r, i + 1, x, z, u, h, hz, lt => by
    rw [List.take_succ_cons]
    rcases List.mem_cons.mp hz with e | hz
    · exact e ▸ List.mem_cons_self
    · exact List.mem_cons_of_mem _ (take_lt (List.pairwise_cons.mp u).2 (by simpa using h) hz lt)
theorem nodup_lt {l : List Int} (u : l.Pairwise (· < ·)) : l.Nodup := u.imp fun h e => by omega
abbrev N_moves_by : List Str := ["book", "games", "moves", "here"]
theorem sc_moves_by : FnScope N_moves_by ["book", "games"] (defScope s_moves_by) := ⟨rfl, rfl, rfl, by decide +kernel, rfl, by decide +kernel, by decide +kernel⟩
def t_moves_by (c : Cn) : TS :=
  (tSeq (tAsg (uDNew c.P c.w) (gName 2))
  (tSeq (tFor (iAny c.K (tVar 1)) (gName 3)
  (tAsg (tTup (tCons (tMeth c.cBook "lefts" (sp_Book_lefts c) [] E0 (tVar 0) (tCons (tVar 3) tNil)) (tCons (tMeth c.cBook "rights" (sp_Book_rights c) [] E0 (tVar 0) (tCons (tVar 3) tNil)) tNil))) (gSub (tVar 2) (tVar 3) (bSet c.P c.w))))
  (tRet (tVar 2))))
def sp_moves_by (c : Cn) : Sp := fun vs H Q E => vs.length = 2 ∧ ∃ (b l : Addr) (M : Addr → Prop) (gs : List Gm) (ds ns : List Int), vs = [.ref b, .ref l] ∧ BookAt c H b M gs ds ∧ H l = some (.lst (ns.map V.int)) ∧ (∀ z ∈ ns, 0 ≤ z ∧ z < gs.length) ∧ ns.length ≤ 90000 ∧
  ∀ (H' : Hp) (p : Addr), Keep Nil H H' → H p = none → MvAt H' p gs (fun g => (g : Int) ∈ ns) → Q (.ref p) H'
theorem p_moves_by {c : Cn} {mg : Str → Option Value} (T : Txt c mg) {vs : List V} {H : Hp} {Q : VK} {E : XK} (h : sp_moves_by c vs H Q E) : t_moves_by c { nx := fun _ H' => Q .non H', rt := Q } (start N_moves_by vs) H := by
  obtain ⟨_, b, l, M, gs, ds, ns, rfl, B, hl, R, few, k⟩ := h
  unfold t_moves_by
  repeat kaf_suf
  refine .inl ⟨true, fun md hmd => ?_⟩
  rw [if_pos rfl]
  repeat kaf_suf
  refine for_list (xs := ns.map V.int) (fun i σ H' => ∃ (x3 : Option V) (kvs : List KX), σ = [some (.ref b), some (.ref l), some (.ref md), x3] ∧ Keep Nil H H' ∧ H' md = some (.dK kvs) ∧ kvs.length ≤ i ∧ ∀ g : Nat, (g : Int) ∈ ns.take i → ∃ gm t, gs[g]? = some gm ∧ valV kvs (.inl (g : Int)) = some (.ref t) ∧ RowAt Nil H' t gm) ⟨_, [], rfl, Keep.alloc hmd, upd_same, Nat.zero_le _, fun g h => by simp at h⟩ ?_ ?_ ?_
  · rintro i σ H' _ ⟨_, _, _, kk, _⟩; exact SqL.of (kk.get (fun z => z) hl)
  · rintro i x σ H1 hi ⟨x3, kvs, rfl, kk, e1, kl, hk⟩
    rw [List.getElem?_map] at hi
    obtain ⟨m, hm, rfl⟩ := Option.map_eq_some_iff.mp hi
    have il := (List.getElem?_eq_some_iff.mp hm).1
    obtain ⟨m0, m1⟩ := R m (List.mem_of_getElem? hm)
    obtain ⟨g, rfl⟩ := Int.eq_ofNat_of_zero_le m0
    obtain ⟨gm, hg⟩ : ∃ x, gs[g]? = some x := ⟨_, List.getElem?_eq_getElem (by omega)⟩
    have B1 := B.same kk
    obtain ⟨bx, bm, bn, bd, hb⟩ := B1.ins_
    repeat kaf_suf
    refine ⟨rfl, b, M, gs, ds, g, gm, rfl, B1, hg, fun r1 hr1 => ?_⟩
    repeat kaf_suf
    refine ⟨rfl, b, M, gs, ds, g, gm, rfl, B1.same (Keep.alloc hr1), hg, fun r2 hr2 => ?_⟩
    repeat kaf_suf
    intro t ht
    repeat kaf_suf
    have k3 : Keep Nil H1 (upd (upd (upd H1 r1 (.lst (gm.1.map V.int))) r2 (.lst (gm.2.map V.int))) t (.tup [.ref r1, .ref r2])) := ((Keep.alloc hr1).new hr2).new ht
    have rw3 : RowAt Nil (upd (upd (upd H1 r1 (.lst (gm.1.map V.int))) r2 (.lst (gm.2.map V.int))) t (.tup [.ref r1, .ref r2])) t gm := ⟨r1, r2, upd_same, by kaf_pre, by kaf_pre, fun z => z, fun z => z, fun z => z⟩
    have e3 := k3.get (fun z => z) e1
    refine v_setK e3 (few1 (by omega)) ?_
    repeat kaf_suf
    refine ⟨_, _, rfl, (kk.trans k3).setN hmd, upd_same, by have := putK_len1 (kvs := kvs) (k := Sum.inl (g : Int)) (v := V.ref t); omega, fun g' hg' => ?_⟩
    rw [valV_put]
    by_cases e : g' = g
    · subst e
      exact ⟨gm, t, hg, by rw [if_pos rfl], rowSet rw3 e3⟩
    · have ne : ¬ ((Sum.inl (g' : Int) : Key) = Sum.inl (g : Int)) := fun z => by injection z with z; omega
      rw [if_neg ne]
      rw [List.take_succ, hm] at hg'
      rcases List.mem_append.mp hg' with h | h
      · obtain ⟨gm', t', q1, q2, q3⟩ := hk g' h
        exact ⟨gm', t', q1, q2, rowSet (q3.keep k3) e3⟩
      · have := List.mem_singleton.mp h
        omega
  · rintro σ H1 ⟨x3, kvs, rfl, kk, e1, kl, hk⟩
    rw [List.length_map, List.take_length] at hk
    repeat kaf_suf
    exact k _ _ kk hmd ⟨kvs, e1, hk⟩
theorem cal_moves_by {c : Cn} {mg : Str → Option Value} {base : Heap} (T : Txt c mg) : Cal c.P c.w c.K mg base CX0 3 "moves_by" (sp_moves_by c) := by
  obtain ⟨f, fd, F, g, b⟩ := T.F_moves_by
  exact ⟨f, fd, ["book", "games"], F.ok (k := 2) (N := N_moves_by) sc_moves_by (fun vs H Q E h => h.1) (fun cdv A outer s H vs Q E hr h => ⟨t_moves_by c, by
  exact (pss_cons (ps_set (i := 2) sc_moves_by.nd rfl (Or.inl rfl) pe_dnew)
  (pss_cons (ps_for PassesOwn.never rfl (pi_any (pv 1)) (pg_name (i := 3) sc_moves_by.nd rfl (Or.inl rfl))
  (pss_one (ps_asg (pe_tup (pa_cons (e_meth (met_Book_lefts T) hr (by decide) passL (pv 0) (pa_cons (pv 3) pa_nil)) (pa_cons (e_meth (met_Book_rights T) hr (by decide) passL (pv 0) (pa_cons (pv 3) pa_nil)) pa_nil))) (pg_sub (pv 2) (pv 3) (s_set (hu64 hr))))))
  (pss_one (ps_ret (pv 2))))), p_moves_by T h⟩), g, F.kp, b⟩
abbrev N_pairs_by : List Str := ["book", "g", "h", "ones", "others", "moves", "known", "x", "y"]
theorem sc_pairs_by : FnScope N_pairs_by ["book", "g", "h"] (defScope s_pairs_by) := ⟨rfl, rfl, rfl, by decide +kernel, rfl, by decide +kernel, by decide +kernel⟩
def t_pairs_by (c : Cn) (E : XK) : TS :=
  (tSeq (tAsg (tCall (sx_reached c) [] E (tCons (tVar 0) (tCons (tVar 1) tNil))) (gName 3))
  (tSeq (tAsg (tCall (sx_reached c) [] E (tCons (tVar 0) (tCons (tVar 2) tNil))) (gName 4))
  (tSeq (tAsg (tCall (sp_moves_by c) [] E0 (tCons (tVar 0) (tCons (tOp (bAdd c.K) (tVar 3) (tVar 4)) tNil))) (gName 5))
  (tSeq (tAsg (uDNew c.P c.w) (gName 6))
  (tSeq (tFor (iAny c.K (tVar 3)) (gName 7)
  (tFor (iAny c.K (tVar 4)) (gName 8)
  (tAsg (tCall (sp_pair_holds c) [] E0 (tCons (tVar 5) (tCons (tVar 6) (tCons (tVar 7) (tCons (tVar 8) tNil))))) (gSub (tVar 6) (tTup (tCons (tVar 7) (tCons (tVar 8) tNil))) (bSet c.P c.w)))))
  (tRet (tTup (tCons (tVar 5) (tCons (tVar 6) tNil)))))))))
def KnOk (gs : List Gm) (kvs : List (List L2.Key × V)) (P : Int → Int → Prop) : Prop := ∀ x y : Nat, P x y → valV kvs [.inl (x : Int), .inl (y : Int)] = some (.bl (ge gs x y))
theorem KnOk.put {gs : List Gm} {kvs : List (List L2.Key × V)} {P P' : Int → Int → Prop} (h : KnOk gs kvs P) {a b : Nat} (n : ∀ x y : Nat, P' x y → P x y ∨ (x = a ∧ y = b)) : KnOk gs (putK kvs [.inl (a : Int), .inl (b : Int)] (.bl (ge gs a b))) P' := fun x y hp => by
  rw [valV_put]
  split
  · rename_i e
    injection e with e1 e
    injection e with e2 _
    injection e1 with e1
    injection e2 with e2
    obtain rfl : x = a := by omega
    obtain rfl : y = b := by omega
    rfl
  · rename_i e
    rcases n x y hp with h' | ⟨rfl, rfl⟩
    · exact h x y h'
    · exact absurd rfl e
def sp_pairs_by (c : Cn) : Sp := fun vs H Q E => vs.length = 3 ∧ ∃ (b : Addr) (M : Addr → Prop) (gs : List Gm) (ds : List Int) (g h : Nat), vs = [.ref b, .int g, .int h] ∧ BookAt c H b M gs ds ∧ g < gs.length ∧ h < gs.length ∧ gs.length ≤ 40000 ∧ (g + 1) * (h + 1) ≤ 90000 ∧
  ∀ (H' : Hp) (p mv kn : Addr) (ones others : List Int) (kvs : List (List L2.Key × V)), Keep Nil H H' → H p = none → H' p = some (.tup [.ref mv, .ref kn]) → MvAt H' mv gs (fun z => (z : Int) ∈ ones ++ others) → H' kn = some (.dT kvs) → KnOk gs kvs (fun x y => x ∈ ones ∧ y ∈ others) → Rch gs g ones → Rch gs h others → Q (.ref p) H'
theorem p_pairs_by {c : Cn} {mg : Str → Option Value} (T : Txt c mg) {vs : List V} {H : Hp} {Q : VK} {E : XK} (h : sp_pairs_by c vs H Q E) : t_pairs_by c E { nx := fun _ H' => Q .non H', rt := Q } (start N_pairs_by vs) H := by
  obtain ⟨_, b, M, gs, ds, g, h, rfl, B, hg, hh, few, few2, k⟩ := h
  have go := B.ok
  unfold t_pairs_by
  repeat kaf_suf
  refine ⟨rfl, .inl ⟨rfl, b, M, gs, ds, g, rfl, B, hg, few, fun H1 p1 r1 k1 hp1 e1 R1 => ?_⟩⟩
  repeat kaf_suf
  refine ⟨rfl, .inl ⟨rfl, b, M, gs, ds, h, rfl, B.same k1, hh, few, fun H2 p2 r2 k2 hp2 e2 R2 => ?_⟩⟩
  have l1 := keys_bound (nodup_lt R1.up) R1.low
  have l2 := keys_bound (nodup_lt R2.up) R2.low
  have e1' := k2.get (fun z => z) e1
  have k02 := k1.trans k2
  clear k1 k2 e1 hp1 hp2
  repeat kaf_suf
  intro pc hpc
  repeat kaf_suf
  have kc : Keep Nil H2 (upd H2 pc (.lst (r1.map V.int ++ r2.map V.int))) := Keep.alloc hpc
  refine ⟨rfl, b, pc, M, gs, ds, r1 ++ r2, rfl, B.same (k02.trans kc), by rw [List.map_append]; exact upd_same, fun z hz => ?_, by rw [List.length_append]; omega, fun H3 mv k3 hmv Mv => ?_⟩
  · rcases List.mem_append.mp hz with q | q
    · have := R1.low z q; omega
    · have := R2.low z q; omega
  have k03 := k02.trans (kc.trans k3)
  have e13 := k3.get (fun z => z) (kc.get (fun z => z) e1')
  have e23 := k3.get (fun z => z) (kc.get (fun z => z) e2)
  clear k02 kc k3 e1' e2 hpc hmv
  repeat kaf_suf
  refine .inr fun kn hkn => ?_
  have kn0 : H kn = none := keep_none k03 hkn
  have k4 : Keep Nil H3 (upd H3 kn (.dT [])) := Keep.alloc hkn
  have e14 := k4.get (fun z => z) e13
  have e24 := k4.get (fun z => z) e23
  have Mv4 := Mv.same k4
  have k04 := k03.trans k4
  have ek4 : (upd H3 kn (.dT [])) kn = some (.dT []) := upd_same
  generalize upd H3 kn (.dT []) = H4 at e14 e24 Mv4 k04 ek4 ⊢
  clear k4 k03 e13 e23 Mv hkn
  have n1 : p1 ≠ kn := fun z => by rw [z, ek4] at e14; cases e14
  have n2 : p2 ≠ kn := fun z => by rw [z, ek4] at e24; cases e24
  have cl : ∀ g : Nat, (g : Int) ∈ r1 ++ r2 → ∀ s, ∀ m ∈ mvs gs g s, ((m.toNat : Nat) : Int) ∈ r1 ++ r2 := fun g hg s m hm => by
    have := mvs_low go hm
    rw [show ((m.toNat : Nat) : Int) = m by omega]
    rcases List.mem_append.mp hg with q | q
    · exact List.mem_append_left _ (R1.cl _ q s m (by rw [Int.toNat_natCast]; exact hm))
    · exact List.mem_append_right _ (R2.cl _ q s m (by rw [Int.toNat_natCast]; exact hm))
  have c1 : ∀ g : Nat, (g : Int) ∈ r1 → ∀ s, ∀ m : Nat, (m : Int) ∈ mvs gs g s → (m : Int) ∈ r1 := fun g hg s m hm => R1.cl _ hg s m (by rw [Int.toNat_natCast]; exact hm)
  have c2 : ∀ g : Nat, (g : Int) ∈ r2 → ∀ s, ∀ m : Nat, (m : Int) ∈ mvs gs g s → (m : Int) ∈ r2 := fun g hg s m hm => R2.cl _ hg s m (by rw [Int.toNat_natCast]; exact hm)
  repeat kaf_suf
  refine for_list (xs := r1.map V.int) (fun i σ H' => ∃ (x7 x8 : Option V) (kvs : List (List L2.Key × V)), σ = [some (.ref b), some (.int g), some (.int h), some (.ref p1), some (.ref p2), some (.ref mv), some (.ref kn), x7, x8] ∧ Keep Nil H H' ∧ H' p1 = some (.lst (r1.map V.int)) ∧ H' p2 = some (.lst (r2.map V.int)) ∧ MvAt H' mv gs (fun z => (z : Int) ∈ r1 ++ r2) ∧ H' kn = some (.dT kvs) ∧ kvs.length ≤ i * r2.length ∧ KnOk gs kvs fun x y => x ∈ r1.take i ∧ y ∈ r2) ⟨_, _, [], rfl, k04, e14, e24, Mv4, ek4, by simp, fun x y hp => by simp at hp⟩ ?_ ?_ ?_
  · rintro i σ H' _ ⟨_, _, _, _, _, h, _⟩; exact SqL.of h
  · rintro i xx σ H5 hi ⟨x7, x8, kvs, rfl, k5, f1, f2, Mv5, fk, kl, ok⟩
    rw [List.getElem?_map] at hi
    obtain ⟨xv, hx, rfl⟩ := Option.map_eq_some_iff.mp hi
    have xm := List.mem_of_getElem? hx
    have il := (List.getElem?_eq_some_iff.mp hx).1
    obtain ⟨xn, rfl⟩ := Int.eq_ofNat_of_zero_le (R1.low xv xm).1
    repeat kaf_suf
    refine for_list (xs := r2.map V.int) (fun j σ H' => ∃ (x8 : Option V) (kvs : List (List L2.Key × V)), σ = [some (.ref b), some (.int g), some (.int h), some (.ref p1), some (.ref p2), some (.ref mv), some (.ref kn), some (.int xn), x8] ∧ Keep Nil H H' ∧ H' p1 = some (.lst (r1.map V.int)) ∧ H' p2 = some (.lst (r2.map V.int)) ∧ MvAt H' mv gs (fun z => (z : Int) ∈ r1 ++ r2) ∧ H' kn = some (.dT kvs) ∧ kvs.length ≤ i * r2.length + j ∧ KnOk gs kvs fun x y => (x ∈ r1.take i ∧ y ∈ r2) ∨ (x = xn ∧ y ∈ r2.take j)) ⟨_, kvs, rfl, k5, f1, f2, Mv5, fk, kl, fun x y hp => ok x y (hp.elim (fun z => z) fun z => by simp at z)⟩ ?_ ?_ ?_
    · rintro j σ H' _ ⟨_, _, _, _, _, h, _⟩; exact SqL.of h
    · rintro j yy σ H6 hj ⟨x8, kvs6, rfl, k6, g1, g2, Mv6, gk, kl6, ok6⟩
      rw [List.getElem?_map] at hj
      obtain ⟨yv, hy, rfl⟩ := Option.map_eq_some_iff.mp hj
      have ym := List.mem_of_getElem? hy
      have jl := (List.getElem?_eq_some_iff.mp hy).1
      obtain ⟨yn, rfl⟩ := Int.eq_ofNat_of_zero_le (R2.low yv ym).1
      clear k5 f1 f2 Mv5 fk kl ok
      have Ax : ((xn : Int)) ∈ r1 ++ r2 := List.mem_append_left _ xm
      have Ay : ((yn : Int)) ∈ r1 ++ r2 := List.mem_append_right _ ym
      have bl : i * r2.length + j + 1 ≤ 90000 := by
        have q1 : (i + 1) * r2.length ≤ r1.length * r2.length := Nat.mul_le_mul_right _ il
        have q2 : r1.length * r2.length ≤ (g + 1) * (h + 1) := Nat.mul_le_mul l1 l2
        rw [Nat.succ_mul] at q1
        omega
      repeat kaf_suf
      refine ⟨rfl, mv, kn, gs, _, ge gs, kvs6, xn, yn, rfl, Mv6, cl, Ax, Ay, go, gk, fun r hr => ⟨fun m hm => ok6 m yn (.inl ⟨?_, ym⟩), fun m hm => ok6 r m (.inl ⟨?_, ?_⟩)⟩, fun q hq => ⟨fun m hm => ok6 m q (.inl ⟨?_, ?_⟩), fun m hm => ok6 xn m (.inr ⟨rfl, ?_⟩)⟩, fun H7 k7 => ?_⟩
      · have a1 := mvs_low go hr
        have a2 := mvs_low go hm
        exact take_lt R1.up hx (c1 r (c1 xn xm _ r hr) _ m hm) (by omega)
      · have a1 := mvs_low go hr
        exact take_lt R1.up hx (c1 xn xm _ r hr) (by omega)
      · exact c2 yn ym _ m hm
      · have a1 := mvs_low go hm
        exact take_lt R1.up hx (c1 xn xm _ m hm) (by omega)
      · exact c2 yn ym _ q hq
      · have a1 := mvs_low go hq
        have a2 := mvs_low go hm
        exact take_lt R2.up hy (c2 q (c2 yn ym _ q hq) _ m hm) (by omega)
      rw [← ge_eq go]
      have k67 := k6.trans k7
      have g17 := k7.get (fun z => z) g1
      have g27 := k7.get (fun z => z) g2
      have gk7 := k7.get (fun z => z) gk
      have Mv7 := Mv6.same k7
      repeat kaf_suf
      intro q hq
      repeat kaf_suf
      have kq : Keep Nil H7 (upd H7 q (.tup [.int xn, .int yn])) := Keep.alloc hq
      refine v_setKn (kq.get (fun z => z) gk7) upd_same (few1 (by omega)) ?_
      have gkq := kq.get (fun z => z) gk7
      repeat kaf_suf
      refine ⟨_, _, rfl, (k67.trans kq).setN kn0, get_set n1 (kq.get (fun z => z) g17), get_set n2 (kq.get (fun z => z) g27), (Mv7.same kq).keep (N := fun x => x = kn) (Keep.refl.set rfl) fun x e => ?_, upd_same, ?_, ok6.put fun x y hp => ?_⟩
      · subst e
        exact ⟨(fun l z => by rw [gkq] at z; cases z), (fun l z => by rw [gkq] at z; cases z), (fun l z => by rw [gkq] at z; cases z)⟩
      · have := putK_len1 (kvs := kvs6) (k := [Sum.inl (xn : Int), Sum.inl (yn : Int)]) (v := V.bl (ge gs xn yn)); omega
      · rcases hp with hp | ⟨e, hp⟩
        · exact .inl (.inl hp)
        · rw [List.take_succ, hy] at hp
          rcases List.mem_append.mp hp with w | w
          · exact .inl (.inr ⟨e, w⟩)
          · have := List.mem_singleton.mp w
            exact .inr ⟨by omega, by omega⟩
    · rintro σ H6 ⟨x8, kvs, rfl, k6, f1, f2, Mv6, fk, kl, ok⟩
      rw [List.length_map] at kl ok
      rw [List.take_length] at ok
      repeat kaf_suf
      refine ⟨_, _, kvs, rfl, k6, f1, f2, Mv6, fk, by rw [Nat.succ_mul]; exact kl, fun x y hp => ok x y ?_⟩
      rw [List.take_succ, hx] at hp
      rcases List.mem_append.mp hp.1 with q | q
      · exact .inl ⟨q, hp.2⟩
      · exact .inr ⟨List.mem_singleton.mp q, hp.2⟩
  · rintro σ H5 ⟨x7, x8, kvs, rfl, k5, f1, f2, Mv5, fk, kl, ok⟩
    rw [List.length_map, List.take_length] at ok
    repeat kaf_suf
    intro p hp
    have kp : Keep Nil H5 (upd H5 p (.tup [.ref mv, .ref kn])) := Keep.alloc hp
    exact k _ p mv kn r1 r2 kvs (k5.trans kp) (keep_none k5 hp) upd_same (Mv5.same kp) (kp.get (fun z => z) fk) ok R1 R2
/-- one of two is none of the numbers -/
def Bad2 (H : Hp) (n : Nat) (v w : V) : Prop := BadV H n v ∨ (∃ g : Nat, v = .int g ∧ g < n) ∧ BadV H n w
theorem Bad2.keep {H H' : Hp} {n : Nat} {v w : V} (b : Bad2 H n v w) (k : Keep Nil H H') : Bad2 H' n v w := b.elim (fun b => .inl (b.keep k)) fun ⟨g, b⟩ => .inr ⟨g, b.keep k⟩
def sy_pairs_by (c : Cn) : Sp := fun vs H Q E => vs.length = 3 ∧ ∃ (b : Addr) (M : Addr → Prop) (gs : List Gm) (ds : List Int) (v w : V), vs = [.ref b, v, w] ∧ BookAt c H b M gs ds ∧ Bad2 H gs.length v w ∧ gs.length ≤ 40000 ∧ ∀ H', Keep Nil H H' → E (.ref c.cNoGame) none H'
theorem q_pairs_by {c : Cn} {mg : Str → Option Value} (T : Txt c mg) {vs : List V} {H : Hp} {Q : VK} {E : XK} (h : sy_pairs_by c vs H Q E) : t_pairs_by c E { nx := fun _ H' => Q .non H', rt := Q } (start N_pairs_by vs) H := by
  obtain ⟨_, b, M, gs, ds, v, w, rfl, B, bd, few, k⟩ := h
  unfold t_pairs_by
  rcases bd with bd | ⟨⟨g, rfl, hg⟩, bd⟩
  · repeat kaf_suf
    exact ⟨rfl, .inr ⟨rfl, b, M, gs, ds, v, rfl, B, bd, k _ Keep.refl⟩⟩
  · repeat kaf_suf
    refine ⟨rfl, .inl ⟨rfl, b, M, gs, ds, g, rfl, B, hg, few, fun H1 p1 r1 k1 hp1 e1 R1 => ?_⟩⟩
    repeat kaf_suf
    exact ⟨rfl, .inr ⟨rfl, b, M, gs, ds, w, rfl, B.same k1, bd.keep k1, k _ k1⟩⟩
def sx_pairs_by (c : Cn) : Sp := fun vs H Q E => vs.length = 3 ∧ (sp_pairs_by c vs H Q E ∨ sy_pairs_by c vs H Q E)
theorem calx_pairs_by {c : Cn} {mg : Str → Option Value} {base : Heap} (T : Txt c mg) : Cal c.P c.w c.K mg base (L2.CX c.P c.w) 4 "pairs_by" (sx_pairs_by c) := by
  obtain ⟨f, fd, F, g, b⟩ := T.F_pairs_by
  exact ⟨f, fd, ["book", "g", "h"], F.okX (k := 3) (N := N_pairs_by) sc_pairs_by (fun vs H Q E h => h.1) (fun cdv A outer s H vs Q E hr h => ⟨t_pairs_by c E, by
  exact (pss_cons (ps_set (i := 3) sc_pairs_by.nd rfl (Or.inl rfl) (e_call (calx_reached T) hr (by decide) (passes_call (takes_of rfl rfl rfl rfl) fun _ _ _ _ z => z) rfl (pa_cons (pv 0) (pa_cons (pv 1) pa_nil))))
  (pss_cons (ps_set (i := 4) sc_pairs_by.nd rfl (Or.inl rfl) (e_call (calx_reached T) hr (by decide) (passes_call (takes_of rfl rfl rfl rfl) fun _ _ _ _ z => z) rfl (pa_cons (pv 0) (pa_cons (pv 2) pa_nil))))
  (pss_cons (ps_set (i := 5) sc_pairs_by.nd rfl (Or.inl rfl) (e_call (cal_moves_by T) hr (by decide) pass0 rfl (pa_cons (pv 0) (pa_cons (pe_op o_add (pv 3) (pv 4)) pa_nil))))
  (pss_cons (ps_set (i := 6) sc_pairs_by.nd rfl (Or.inl rfl) pe_dnew)
  (pss_cons (ps_for (passes_of rfl) rfl (pi_any (pv 3)) (pg_name (i := 7) sc_pairs_by.nd rfl (Or.inl rfl))
  (pss_one (ps_for (passes_of rfl) rfl (pi_any (pv 4)) (pg_name (i := 8) sc_pairs_by.nd rfl (Or.inl rfl))
  (pss_one (ps_asg (e_call (cal_pair_holds T) hr (by decide) pass0 rfl (pa_cons (pv 5) (pa_cons (pv 6) (pa_cons (pv 7) (pa_cons (pv 8) pa_nil))))) (pg_sub (pv 6) (pe_tup (pa_cons (pv 7) (pa_cons (pv 8) pa_nil))) (s_set (hu64 hr))))))))
  (pss_one (ps_ret (pe_tup (pa_cons (pv 5) (pa_cons (pv 6) pa_nil)))))))))), h.2.elim (p_pairs_by T) (q_pairs_by T)⟩), g, F.kp, b⟩
theorem cal_pairs_by {c : Cn} {mg : Str → Option Value} {base : Heap} (T : Txt c mg) : Cal c.P c.w c.K mg base (L2.CX c.P c.w) 4 "pairs_by" (sp_pairs_by c) := by
  obtain ⟨f, fd, ps, F, g, kp, b⟩ := (calx_pairs_by T).ex
  exact ⟨⟨f, fd, ps, F.imp fun vs H Q E h => ⟨h.1, .inl h⟩, g, kp, b⟩⟩
abbrev N_no_less : List Str := ["book", "g", "h", "moves", "known"]
theorem sc_no_less : FnScope N_no_less ["book", "g", "h"] (defScope s_no_less) := ⟨rfl, rfl, rfl, by decide +kernel, rfl, by decide +kernel, by decide +kernel⟩
def t_no_less (c : Cn) (E : XK) : TS :=
  (tSeq (tAsg (tCall (sx_pairs_by c) [] E (tCons (tVar 0) (tCons (tVar 1) (tCons (tVar 2) tNil)))) (gSeq c.K 2 (gCons (gName 3) (gCons (gName 4) gNil))))
  (tRet (tOp (bIx c.P c.w c.K) (tVar 4) (tTup (tCons (tVar 1) (tCons (tVar 2) tNil))))))
def sp_no_less (c : Cn) : Sp := fun vs H Q E => vs.length = 3 ∧ ∃ (b : Addr) (M : Addr → Prop) (gs : List Gm) (ds : List Int) (g h : Nat), vs = [.ref b, .int g, .int h] ∧ BookAt c H b M gs ds ∧ g < gs.length ∧ h < gs.length ∧ gs.length ≤ 40000 ∧ (g + 1) * (h + 1) ≤ 90000 ∧
  ∀ (H' : Hp), Keep Nil H H' → Q (.bl (ge gs g h)) H'
theorem p_no_less {c : Cn} {mg : Str → Option Value} (T : Txt c mg) {vs : List V} {H : Hp} {Q : VK} {E : XK} (h : sp_no_less c vs H Q E) : t_no_less c E { nx := fun _ H' => Q .non H', rt := Q } (start N_no_less vs) H := by
  obtain ⟨_, b, M, gs, ds, g, h, rfl, B, hg, hh, few, few2, k⟩ := h
  unfold t_no_less
  repeat kaf_suf
  refine ⟨rfl, .inl ⟨rfl, b, M, gs, ds, g, h, rfl, B, hg, hh, few, few2, fun H1 p mv kn r1 r2 kvs k1 hp ep Mv ek ok R1 R2 => ?_⟩⟩
  refine r_seqT ep rfl (r_gcons ?_)
  repeat kaf_suf
  refine r_gcons ?_
  repeat kaf_suf
  refine r_gnil ?_
  repeat kaf_suf
  intro q hq
  repeat kaf_suf
  exact v_ixKn (get_new hq ek) upd_same (ok g h ⟨R1.mem, R2.mem⟩) (k _ (k1.new hq))
def sy_no_less (c : Cn) : Sp := fun vs H Q E => vs.length = 3 ∧ ∃ (b : Addr) (M : Addr → Prop) (gs : List Gm) (ds : List Int) (v w : V), vs = [.ref b, v, w] ∧ BookAt c H b M gs ds ∧ Bad2 H gs.length v w ∧ gs.length ≤ 40000 ∧ ∀ H', Keep Nil H H' → E (.ref c.cNoGame) none H'
theorem q_no_less {c : Cn} {mg : Str → Option Value} (T : Txt c mg) {vs : List V} {H : Hp} {Q : VK} {E : XK} (h : sy_no_less c vs H Q E) : t_no_less c E { nx := fun _ H' => Q .non H', rt := Q } (start N_no_less vs) H := by
  obtain ⟨_, b, M, gs, ds, v, w, rfl, B, bd, few, k⟩ := h
  unfold t_no_less
  repeat kaf_suf
  exact ⟨rfl, .inr ⟨rfl, b, M, gs, ds, v, w, rfl, B, bd, few, k⟩⟩
def sx_no_less (c : Cn) : Sp := fun vs H Q E => vs.length = 3 ∧ (sp_no_less c vs H Q E ∨ sy_no_less c vs H Q E)
theorem calx_no_less {c : Cn} {mg : Str → Option Value} {base : Heap} (T : Txt c mg) : Cal c.P c.w c.K mg base (L2.CX c.P c.w) 5 "no_less" (sx_no_less c) := by
  obtain ⟨f, fd, F, g, b⟩ := T.F_no_less
  exact ⟨f, fd, ["book", "g", "h"], F.okX (k := 4) (N := N_no_less) sc_no_less (fun vs H Q E h => h.1) (fun cdv A outer s H vs Q E hr h => ⟨t_no_less c E, by
  exact (pss_cons (ps_asg (e_call (calx_pairs_by T) hr (by decide) (passes_call (takes_of rfl rfl rfl rfl) fun _ _ _ _ z => z) rfl (pa_cons (pv 0) (pa_cons (pv 1) (pa_cons (pv 2) pa_nil)))) (g_seq rfl (pgs_cons (pg_name (i := 3) sc_no_less.nd rfl (Or.inl rfl)) (pgs_cons (pg_name (i := 4) sc_no_less.nd rfl (Or.inl rfl)) pgs_nil))))
  (pss_one (ps_ret (pe_ix (x_ix (hu64 hr)) (pv 4) (pe_tup (pa_cons (pv 1) (pa_cons (pv 2) pa_nil))) (fun _ _ => rfl))))), h.2.elim (p_no_less T) (q_no_less T)⟩), g, F.kp, b⟩
theorem cal_no_less {c : Cn} {mg : Str → Option Value} {base : Heap} (T : Txt c mg) : Cal c.P c.w c.K mg base (L2.CX c.P c.w) 5 "no_less" (sp_no_less c) := by
  obtain ⟨f, fd, ps, F, g, kp, b⟩ := (calx_no_less T).ex
  exact ⟨⟨f, fd, ps, F.imp fun vs H Q E h => ⟨h.1, .inl h⟩, g, kp, b⟩⟩

abbrev N_compared : List Str := ["book", "g", "h", "above", "beneath"]
theorem sc_compared : FnScope N_compared ["book", "g", "h"] (defScope s_compared) := ⟨rfl, rfl, rfl, by decide +kernel, rfl, by decide +kernel, by decide +kernel⟩
def t_compared (c : Cn) (E : XK) : TS :=
  (tSeq (tAsg (tCall (sx_no_less c) [] E (tCons (tVar 0) (tCons (tVar 1) (tCons (tVar 2) tNil)))) (gName 3))
  (tSeq (tAsg (tCall (sx_no_less c) [] E (tCons (tVar 0) (tCons (tVar 2) (tCons (tVar 1) tNil)))) (gName 4))
  (tSeq (tIfS (tAnd (tTru c.K (tVar 3)) (tTru c.K (tVar 4)))
  (tRet (tC (.str "alike")))
  tNext)
  (tSeq (tIfS (tTru c.K (tVar 3))
  (tRet (tC (.str "more")))
  tNext)
  (tSeq (tIfS (tTru c.K (tVar 4))
  (tRet (tC (.str "less")))
  tNext)
  (tRet (tC (.str "apart"))))))))
def cw (a b : Bool) : Str := if a then (if b then "alike" else "more") else (if b then "less" else "apart")
def sp_compared (c : Cn) : Sp := fun vs H Q E => vs.length = 3 ∧ ∃ (b : Addr) (M : Addr → Prop) (gs : List Gm) (ds : List Int) (g h : Nat), vs = [.ref b, .int g, .int h] ∧ BookAt c H b M gs ds ∧ g < gs.length ∧ h < gs.length ∧ gs.length ≤ 40000 ∧ (g + 1) * (h + 1) ≤ 90000 ∧
  ∀ (H' : Hp), Keep Nil H H' → Q (.str (cw (ge gs g h) (ge gs h g))) H'
theorem p_compared {c : Cn} {mg : Str → Option Value} (T : Txt c mg) {vs : List V} {H : Hp} {Q : VK} {E : XK} (h : sp_compared c vs H Q E) : t_compared c E { nx := fun _ H' => Q .non H', rt := Q } (start N_compared vs) H := by
  obtain ⟨_, b, M, gs, ds, g, h, rfl, B, hg, hh, few, few2, k⟩ := h
  unfold t_compared
  repeat kaf_suf
  refine ⟨rfl, .inl ⟨rfl, b, M, gs, ds, g, h, rfl, B, hg, hh, few, few2, fun H1 k1 => ?_⟩⟩
  repeat kaf_suf
  refine ⟨rfl, .inl ⟨rfl, b, M, gs, ds, h, g, rfl, B.same k1, hh, hg, few, by rw [Nat.mul_comm]; exact few2, fun H2 k2 => ?_⟩⟩
  have k := k H2 (k1.trans k2)
  cases hx : ge gs g h <;> cases hy : ge gs h g <;> (rw [hx, hy] at k; (repeat kaf_suf); exact k)
def sy_compared (c : Cn) : Sp := fun vs H Q E => vs.length = 3 ∧ ∃ (b : Addr) (M : Addr → Prop) (gs : List Gm) (ds : List Int) (v w : V), vs = [.ref b, v, w] ∧ BookAt c H b M gs ds ∧ Bad2 H gs.length v w ∧ gs.length ≤ 40000 ∧ ∀ H', Keep Nil H H' → E (.ref c.cNoGame) none H'
theorem q_compared {c : Cn} {mg : Str → Option Value} (T : Txt c mg) {vs : List V} {H : Hp} {Q : VK} {E : XK} (h : sy_compared c vs H Q E) : t_compared c E { nx := fun _ H' => Q .non H', rt := Q } (start N_compared vs) H := by
  obtain ⟨_, b, M, gs, ds, v, w, rfl, B, bd, few, k⟩ := h
  unfold t_compared
  repeat kaf_suf
  exact ⟨rfl, .inr ⟨rfl, b, M, gs, ds, v, w, rfl, B, bd, few, k⟩⟩
def sx_compared (c : Cn) : Sp := fun vs H Q E => vs.length = 3 ∧ (sp_compared c vs H Q E ∨ sy_compared c vs H Q E)
theorem calx_compared {c : Cn} {mg : Str → Option Value} {base : Heap} (T : Txt c mg) : Cal c.P c.w c.K mg base (L2.CX c.P c.w) 6 "compared" (sx_compared c) := by
  obtain ⟨f, fd, F, g, b⟩ := T.F_compared
  exact ⟨f, fd, ["book", "g", "h"], F.okX (k := 5) (N := N_compared) sc_compared (fun vs H Q E h => h.1) (fun cdv A outer s H vs Q E hr h => ⟨t_compared c E, by
  exact (pss_cons (ps_set (i := 3) sc_compared.nd rfl (Or.inl rfl) (e_call (calx_no_less T) hr (by decide) (passes_call (takes_of rfl rfl rfl rfl) fun _ _ _ _ z => z) rfl (pa_cons (pv 0) (pa_cons (pv 1) (pa_cons (pv 2) pa_nil)))))
  (pss_cons (ps_set (i := 4) sc_compared.nd rfl (Or.inl rfl) (e_call (calx_no_less T) hr (by decide) (passes_call (takes_of rfl rfl rfl rfl) fun _ _ _ _ z => z) rfl (pa_cons (pv 0) (pa_cons (pv 2) (pa_cons (pv 1) pa_nil)))))
  (pss_cons (ps_if (PW.pt (pw_and (p_tru (pv 3)) (pw_and1 (p_tru (pv 4))))) (pss_one (ps_ret pe_str)) pss_nil)
  (pss_cons (ps_if (p_tru (pv 3)) (pss_one (ps_ret pe_str)) pss_nil)
  (pss_cons (ps_if (p_tru (pv 4)) (pss_one (ps_ret pe_str)) pss_nil)
  (pss_one (ps_ret pe_str))))))), h.2.elim (p_compared T) (q_compared T)⟩), g, F.kp, b⟩
theorem cal_compared {c : Cn} {mg : Str → Option Value} {base : Heap} (T : Txt c mg) : Cal c.P c.w c.K mg base (L2.CX c.P c.w) 6 "compared" (sp_compared c) := by
  obtain ⟨f, fd, ps, F, g, kp, b⟩ := (calx_compared T).ex
  exact ⟨⟨f, fd, ps, F.imp fun vs H Q E h => ⟨h.1, .inl h⟩, g, kp, b⟩⟩

/-! what is not come to -/
abbrev N_pairs_right : List Str := ["moves", "r", "x", "y", "l", "q"]
theorem sc_pairs_right : FnScope N_pairs_right ["moves", "r", "x", "y"] (defScope s_pairs_right) := ⟨rfl, rfl, rfl, by decide +kernel, rfl, by decide +kernel, by decide +kernel⟩
def t_pairs_right (c : Cn) : TS :=
  (tRet (tOp (bAdd c.K) (tLc (iAny c.K (tOp (bIx c.P c.w c.K) (tOp (bIx c.P c.w c.K) (tVar 0) (tVar 1)) (tC (.int 0)))) (gName 4) tYes (tTup (tCons (tVar 4) (tCons (tVar 3) tNil))) [4]) (tLc (iAny c.K (tOp (bIx c.P c.w c.K) (tOp (bIx c.P c.w c.K) (tVar 0) (tVar 3)) (tC (.int 1)))) (gName 5) tYes (tTup (tCons (tVar 1) (tCons (tVar 5) tNil))) [5])))
def sp_pairs_right (c : Cn) : Sp := fun vs H Q E => vs.length = 4 ∧ False
theorem p_pairs_right {c : Cn} {mg : Str → Option Value} (T : Txt c mg) {vs : List V} {H : Hp} {Q : VK} {E : XK} (h : sp_pairs_right c vs H Q E) : t_pairs_right c { nx := fun _ H' => Q .non H', rt := Q } (start N_pairs_right vs) H := h.2.elim
theorem cal_pairs_right {c : Cn} {mg : Str → Option Value} {base : Heap} (T : Txt c mg) : Cal c.P c.w c.K mg base CX0 1 "pairs_right" (sp_pairs_right c) := by
  obtain ⟨f, fd, F, g, b⟩ := T.F_pairs_right
  exact ⟨f, fd, ["moves", "r", "x", "y"], F.ok (k := 0) (N := N_pairs_right) sc_pairs_right (fun vs H Q E h => h.1) (fun cdv A outer s H vs Q E hr h => ⟨t_pairs_right c, by
  exact (pss_one (ps_ret (pe_op o_add (pe_lc (own := [("l", 4)]) rfl sc_pairs_right.nd (pi_any (pe_ix (x_ix (hu64 hr)) (pe_ix (x_ix (hu64 hr)) (pv 0) (pv 1) (fun _ _ => rfl)) pe_int (fun _ _ => rfl))) (blkOk_by (own := [("l", 4)]) (N := N_pairs_right) (sc := defScope s_pairs_right) (by decide +kernel)) (fun _ _ _ _ _ => (pg_name (i := 4) sc_pairs_right.nd rfl (Or.inl rfl))) (fun _ _ _ _ _ => pts_nil) (fun _ _ _ _ _ => (pe_tup (pa_cons (pv 4) (pa_cons (pv 3) pa_nil))))) (pe_lc (own := [("q", 5)]) rfl sc_pairs_right.nd (pi_any (pe_ix (x_ix (hu64 hr)) (pe_ix (x_ix (hu64 hr)) (pv 0) (pv 3) (fun _ _ => rfl)) pe_int (fun _ _ => rfl))) (blkOk_by (own := [("q", 5)]) (N := N_pairs_right) (sc := defScope s_pairs_right) (by decide +kernel)) (fun _ _ _ _ _ => (pg_name (i := 5) sc_pairs_right.nd rfl (Or.inl rfl))) (fun _ _ _ _ _ => pts_nil) (fun _ _ _ _ _ => (pe_tup (pa_cons (pv 1) (pa_cons (pv 5) pa_nil)))))))), p_pairs_right T h⟩), g, F.kp, b⟩
abbrev N_pairs_left : List Str := ["moves", "p", "x", "y", "l", "q"]
theorem sc_pairs_left : FnScope N_pairs_left ["moves", "p", "x", "y"] (defScope s_pairs_left) := ⟨rfl, rfl, rfl, by decide +kernel, rfl, by decide +kernel, by decide +kernel⟩
def t_pairs_left (c : Cn) : TS :=
  (tRet (tOp (bAdd c.K) (tLc (iAny c.K (tOp (bIx c.P c.w c.K) (tOp (bIx c.P c.w c.K) (tVar 0) (tVar 2)) (tC (.int 0)))) (gName 4) tYes (tTup (tCons (tVar 4) (tCons (tVar 1) tNil))) [4]) (tLc (iAny c.K (tOp (bIx c.P c.w c.K) (tOp (bIx c.P c.w c.K) (tVar 0) (tVar 1)) (tC (.int 1)))) (gName 5) tYes (tTup (tCons (tVar 2) (tCons (tVar 5) tNil))) [5])))
def sp_pairs_left (c : Cn) : Sp := fun vs H Q E => vs.length = 4 ∧ False
theorem p_pairs_left {c : Cn} {mg : Str → Option Value} (T : Txt c mg) {vs : List V} {H : Hp} {Q : VK} {E : XK} (h : sp_pairs_left c vs H Q E) : t_pairs_left c { nx := fun _ H' => Q .non H', rt := Q } (start N_pairs_left vs) H := h.2.elim
theorem cal_pairs_left {c : Cn} {mg : Str → Option Value} {base : Heap} (T : Txt c mg) : Cal c.P c.w c.K mg base CX0 1 "pairs_left" (sp_pairs_left c) := by
  obtain ⟨f, fd, F, g, b⟩ := T.F_pairs_left
  exact ⟨f, fd, ["moves", "p", "x", "y"], F.ok (k := 0) (N := N_pairs_left) sc_pairs_left (fun vs H Q E h => h.1) (fun cdv A outer s H vs Q E hr h => ⟨t_pairs_left c, by
  exact (pss_one (ps_ret (pe_op o_add (pe_lc (own := [("l", 4)]) rfl sc_pairs_left.nd (pi_any (pe_ix (x_ix (hu64 hr)) (pe_ix (x_ix (hu64 hr)) (pv 0) (pv 2) (fun _ _ => rfl)) pe_int (fun _ _ => rfl))) (blkOk_by (own := [("l", 4)]) (N := N_pairs_left) (sc := defScope s_pairs_left) (by decide +kernel)) (fun _ _ _ _ _ => (pg_name (i := 4) sc_pairs_left.nd rfl (Or.inl rfl))) (fun _ _ _ _ _ => pts_nil) (fun _ _ _ _ _ => (pe_tup (pa_cons (pv 4) (pa_cons (pv 1) pa_nil))))) (pe_lc (own := [("q", 5)]) rfl sc_pairs_left.nd (pi_any (pe_ix (x_ix (hu64 hr)) (pe_ix (x_ix (hu64 hr)) (pv 0) (pv 1) (fun _ _ => rfl)) pe_int (fun _ _ => rfl))) (blkOk_by (own := [("q", 5)]) (N := N_pairs_left) (sc := defScope s_pairs_left) (by decide +kernel)) (fun _ _ _ _ _ => (pg_name (i := 5) sc_pairs_left.nd rfl (Or.inl rfl))) (fun _ _ _ _ _ => pts_nil) (fun _ _ _ _ _ => (pe_tup (pa_cons (pv 2) (pa_cons (pv 5) pa_nil)))))))), p_pairs_left T h⟩), g, F.kp, b⟩
abbrev N_holding : List Str := ["moves", "known", "x", "y", "found", "r", "p"]
theorem sc_holding : FnScope N_holding ["moves", "known", "x", "y"] (defScope s_holding) := ⟨rfl, rfl, rfl, by decide +kernel, rfl, by decide +kernel, by decide +kernel⟩
def t_holding (c : Cn) : TS :=
  (tSeq (tAsg (tLc (iAny c.K (tOp (bIx c.P c.w c.K) (tOp (bIx c.P c.w c.K) (tVar 0) (tVar 2)) (tC (.int 1)))) (gName 5) tYes (tCall (sp_behind_right c) [] E0 (tCons (tVar 0) (tCons (tVar 1) (tCons (tVar 5) (tCons (tVar 3) tNil))))) [5]) (gName 4))
  (tRet (tOp (bAdd c.K) (tVar 4) (tLc (iAny c.K (tOp (bIx c.P c.w c.K) (tOp (bIx c.P c.w c.K) (tVar 0) (tVar 3)) (tC (.int 0)))) (gName 6) tYes (tCall (sp_behind_left c) [] E0 (tCons (tVar 0) (tCons (tVar 1) (tCons (tVar 2) (tCons (tVar 6) tNil))))) [6]))))
def sp_holding (c : Cn) : Sp := fun vs H Q E => vs.length = 4 ∧ False
theorem p_holding {c : Cn} {mg : Str → Option Value} (T : Txt c mg) {vs : List V} {H : Hp} {Q : VK} {E : XK} (h : sp_holding c vs H Q E) : t_holding c { nx := fun _ H' => Q .non H', rt := Q } (start N_holding vs) H := h.2.elim
theorem cal_holding {c : Cn} {mg : Str → Option Value} {base : Heap} (T : Txt c mg) : Cal c.P c.w c.K mg base CX0 2 "holding" (sp_holding c) := by
  obtain ⟨f, fd, F, g, b⟩ := T.F_holding
  exact ⟨f, fd, ["moves", "known", "x", "y"], F.ok (k := 1) (N := N_holding) sc_holding (fun vs H Q E h => h.1) (fun cdv A outer s H vs Q E hr h => ⟨t_holding c, by
  exact (pss_cons (ps_setLc (i := 4) (own := [("r", 5)]) rfl sc_holding.nd rfl rfl (sw_true rfl rfl rfl (by decide +kernel)) (pi_any (pe_ix (x_ix (hu64 hr)) (pe_ix (x_ix (hu64 hr)) (pv 0) (pv 2) (fun _ _ => rfl)) pe_int (fun _ _ => rfl))) (blkOk_by (own := [("r", 5)]) (N := N_holding) (sc := defScope s_holding) (by decide +kernel)) (fun _ _ _ _ _ => (pg_name (i := 5) sc_holding.nd rfl (Or.inl rfl))) (fun _ _ _ _ _ => pts_nil) (fun _ _ _ _ _ => (e_call (cal_behind_right T) hr (by decide) pass0 rfl (pa_cons (pv 0) (pa_cons (pv 1) (pa_cons (pv 5) (pa_cons (pv 3) pa_nil)))))))
  (pss_one (ps_ret (pe_op o_add (pv 4) (pe_lc (own := [("p", 6)]) rfl sc_holding.nd (pi_any (pe_ix (x_ix (hu64 hr)) (pe_ix (x_ix (hu64 hr)) (pv 0) (pv 3) (fun _ _ => rfl)) pe_int (fun _ _ => rfl))) (blkOk_by (own := [("p", 6)]) (N := N_holding) (sc := defScope s_holding) (by decide +kernel)) (fun _ _ _ _ _ => (pg_name (i := 6) sc_holding.nd rfl (Or.inl rfl))) (fun _ _ _ _ _ => pts_nil) (fun _ _ _ _ _ => (e_call (cal_behind_left T) hr (by decide) pass0 rfl (pa_cons (pv 0) (pa_cons (pv 1) (pa_cons (pv 2) (pa_cons (pv 6) pa_nil))))))))))), p_holding T h⟩), g, F.kp, b⟩
abbrev N_barring : List Str := ["moves", "known", "x", "y", "r", "p"]
theorem sc_barring : FnScope N_barring ["moves", "known", "x", "y"] (defScope s_barring) := ⟨rfl, rfl, rfl, by decide +kernel, rfl, by decide +kernel, by decide +kernel⟩
def t_barring (c : Cn) : TS :=
  (tSeq (tFor (iAny c.K (tOp (bIx c.P c.w c.K) (tOp (bIx c.P c.w c.K) (tVar 0) (tVar 2)) (tC (.int 1)))) (gName 4)
  (tIfS (tTest (tOp cIs (tCall (sp_behind_right c) [] E0 (tCons (tVar 0) (tCons (tVar 1) (tCons (tVar 4) (tCons (tVar 3) tNil))))) (tC .non)))
  (tRet (tCall (sp_pairs_right c) [] E0 (tCons (tVar 0) (tCons (tVar 4) (tCons (tVar 2) (tCons (tVar 3) tNil))))))
  tNext))
  (tSeq (tFor (iAny c.K (tOp (bIx c.P c.w c.K) (tOp (bIx c.P c.w c.K) (tVar 0) (tVar 3)) (tC (.int 0)))) (gName 5)
  (tIfS (tTest (tOp cIs (tCall (sp_behind_left c) [] E0 (tCons (tVar 0) (tCons (tVar 1) (tCons (tVar 2) (tCons (tVar 5) tNil))))) (tC .non)))
  (tRet (tCall (sp_pairs_left c) [] E0 (tCons (tVar 0) (tCons (tVar 5) (tCons (tVar 2) (tCons (tVar 3) tNil))))))
  tNext))
  (tRet (tLst tNil))))
def sp_barring (c : Cn) : Sp := fun vs H Q E => vs.length = 4 ∧ False
theorem p_barring {c : Cn} {mg : Str → Option Value} (T : Txt c mg) {vs : List V} {H : Hp} {Q : VK} {E : XK} (h : sp_barring c vs H Q E) : t_barring c { nx := fun _ H' => Q .non H', rt := Q } (start N_barring vs) H := h.2.elim
theorem cal_barring {c : Cn} {mg : Str → Option Value} {base : Heap} (T : Txt c mg) : Cal c.P c.w c.K mg base CX0 2 "barring" (sp_barring c) := by
  obtain ⟨f, fd, F, g, b⟩ := T.F_barring
  exact ⟨f, fd, ["moves", "known", "x", "y"], F.ok (k := 1) (N := N_barring) sc_barring (fun vs H Q E h => h.1) (fun cdv A outer s H vs Q E hr h => ⟨t_barring c, by
  exact (pss_cons (ps_for PassesOwn.never rfl (pi_any (pe_ix (x_ix (hu64 hr)) (pe_ix (x_ix (hu64 hr)) (pv 0) (pv 2) (fun _ _ => rfl)) pe_int (fun _ _ => rfl))) (pg_name (i := 4) sc_barring.nd rfl (Or.inl rfl))
  (pss_one (ps_if (pt_cmpR o_is (e_call (cal_behind_right T) hr (by decide) pass0 rfl (pa_cons (pv 0) (pa_cons (pv 1) (pa_cons (pv 4) (pa_cons (pv 3) pa_nil))))) pe_non (nomark _)) (pss_one (ps_ret (e_call (cal_pairs_right T) hr (by decide) pass0 rfl (pa_cons (pv 0) (pa_cons (pv 4) (pa_cons (pv 2) (pa_cons (pv 3) pa_nil))))))) pss_nil)))
  (pss_cons (ps_for PassesOwn.never rfl (pi_any (pe_ix (x_ix (hu64 hr)) (pe_ix (x_ix (hu64 hr)) (pv 0) (pv 3) (fun _ _ => rfl)) pe_int (fun _ _ => rfl))) (pg_name (i := 5) sc_barring.nd rfl (Or.inl rfl))
  (pss_one (ps_if (pt_cmpR o_is (e_call (cal_behind_left T) hr (by decide) pass0 rfl (pa_cons (pv 0) (pa_cons (pv 1) (pa_cons (pv 2) (pa_cons (pv 5) pa_nil))))) pe_non (nomark _)) (pss_one (ps_ret (e_call (cal_pairs_left T) hr (by decide) pass0 rfl (pa_cons (pv 0) (pa_cons (pv 5) (pa_cons (pv 2) (pa_cons (pv 3) pa_nil))))))) pss_nil)))
  (pss_one (ps_ret (pe_lst pa_nil))))), p_barring T h⟩), g, F.kp, b⟩
abbrev N_all_in : List Str := ["pairs", "listed", "pair"]
theorem sc_all_in : FnScope N_all_in ["pairs", "listed"] (defScope s_all_in) := ⟨rfl, rfl, rfl, by decide +kernel, rfl, by decide +kernel, by decide +kernel⟩
def t_all_in (c : Cn) : TS :=
  (tSeq (tFor (iAny c.K (tVar 0)) (gName 2)
  (tIfS (tTest (tOp (cNotIn c.P c.w c.K) (tVar 2) (tVar 1)))
  (tRet (tC (.bl false)))
  tNext))
  (tRet (tC (.bl true))))
def sp_all_in (c : Cn) : Sp := fun vs H Q E => vs.length = 2 ∧ False
theorem p_all_in {c : Cn} {mg : Str → Option Value} (T : Txt c mg) {vs : List V} {H : Hp} {Q : VK} {E : XK} (h : sp_all_in c vs H Q E) : t_all_in c { nx := fun _ H' => Q .non H', rt := Q } (start N_all_in vs) H := h.2.elim
theorem cal_all_in {c : Cn} {mg : Str → Option Value} {base : Heap} (T : Txt c mg) : Cal c.P c.w c.K mg base CX0 1 "all_in" (sp_all_in c) := by
  obtain ⟨f, fd, F, g, b⟩ := T.F_all_in
  exact ⟨f, fd, ["pairs", "listed"], F.ok (k := 0) (N := N_all_in) sc_all_in (fun vs H Q E h => h.1) (fun cdv A outer s H vs Q E hr h => ⟨t_all_in c, by
  exact (pss_cons (ps_for PassesOwn.never rfl (pi_any (pv 0)) (pg_name (i := 2) sc_all_in.nd rfl (Or.inl rfl))
  (pss_one (ps_if (pt_cmpR (o_notin (hu65 hr)) (pv 2) (pv 1) (by rfl)) (pss_one (ps_ret pe_bl)) pss_nil)))
  (pss_one (ps_ret pe_bl))), p_all_in T h⟩), g, F.kp, b⟩
abbrev N_pair_bars : List Str := ["moves", "listed", "x", "y", "r", "p"]
theorem sc_pair_bars : FnScope N_pair_bars ["moves", "listed", "x", "y"] (defScope s_pair_bars) := ⟨rfl, rfl, rfl, by decide +kernel, rfl, by decide +kernel, by decide +kernel⟩
def t_pair_bars (c : Cn) : TS :=
  (tSeq (tFor (iAny c.K (tOp (bIx c.P c.w c.K) (tOp (bIx c.P c.w c.K) (tVar 0) (tVar 2)) (tC (.int 1)))) (gName 4)
  (tIfS (tTru c.K (tCall (sp_all_in c) [] E0 (tCons (tCall (sp_pairs_right c) [] E0 (tCons (tVar 0) (tCons (tVar 4) (tCons (tVar 2) (tCons (tVar 3) tNil))))) (tCons (tVar 1) tNil))))
  (tRet (tC (.bl true)))
  tNext))
  (tSeq (tFor (iAny c.K (tOp (bIx c.P c.w c.K) (tOp (bIx c.P c.w c.K) (tVar 0) (tVar 3)) (tC (.int 0)))) (gName 5)
  (tIfS (tTru c.K (tCall (sp_all_in c) [] E0 (tCons (tCall (sp_pairs_left c) [] E0 (tCons (tVar 0) (tCons (tVar 5) (tCons (tVar 2) (tCons (tVar 3) tNil))))) (tCons (tVar 1) tNil))))
  (tRet (tC (.bl true)))
  tNext))
  (tRet (tC (.bl false)))))
def sp_pair_bars (c : Cn) : Sp := fun vs H Q E => vs.length = 4 ∧ False
theorem p_pair_bars {c : Cn} {mg : Str → Option Value} (T : Txt c mg) {vs : List V} {H : Hp} {Q : VK} {E : XK} (h : sp_pair_bars c vs H Q E) : t_pair_bars c { nx := fun _ H' => Q .non H', rt := Q } (start N_pair_bars vs) H := h.2.elim
theorem cal_pair_bars {c : Cn} {mg : Str → Option Value} {base : Heap} (T : Txt c mg) : Cal c.P c.w c.K mg base CX0 2 "pair_bars" (sp_pair_bars c) := by
  obtain ⟨f, fd, F, g, b⟩ := T.F_pair_bars
  exact ⟨f, fd, ["moves", "listed", "x", "y"], F.ok (k := 1) (N := N_pair_bars) sc_pair_bars (fun vs H Q E h => h.1) (fun cdv A outer s H vs Q E hr h => ⟨t_pair_bars c, by
  exact (pss_cons (ps_for PassesOwn.never rfl (pi_any (pe_ix (x_ix (hu64 hr)) (pe_ix (x_ix (hu64 hr)) (pv 0) (pv 2) (fun _ _ => rfl)) pe_int (fun _ _ => rfl))) (pg_name (i := 4) sc_pair_bars.nd rfl (Or.inl rfl))
  (pss_one (ps_if (p_tru (e_call (cal_all_in T) hr (by decide) pass0 rfl (pa_cons (e_call (cal_pairs_right T) hr (by decide) pass0 rfl (pa_cons (pv 0) (pa_cons (pv 4) (pa_cons (pv 2) (pa_cons (pv 3) pa_nil))))) (pa_cons (pv 1) pa_nil)))) (pss_one (ps_ret pe_bl)) pss_nil)))
  (pss_cons (ps_for PassesOwn.never rfl (pi_any (pe_ix (x_ix (hu64 hr)) (pe_ix (x_ix (hu64 hr)) (pv 0) (pv 3) (fun _ _ => rfl)) pe_int (fun _ _ => rfl))) (pg_name (i := 5) sc_pair_bars.nd rfl (Or.inl rfl))
  (pss_one (ps_if (p_tru (e_call (cal_all_in T) hr (by decide) pass0 rfl (pa_cons (e_call (cal_pairs_left T) hr (by decide) pass0 rfl (pa_cons (pv 0) (pa_cons (pv 5) (pa_cons (pv 2) (pa_cons (pv 3) pa_nil))))) (pa_cons (pv 1) pa_nil)))) (pss_one (ps_ret pe_bl)) pss_nil)))
  (pss_one (ps_ret pe_bl)))), p_pair_bars T h⟩), g, F.kp, b⟩
abbrev N_is_game : List Str := ["book", "number"]
theorem sc_is_game : FnScope N_is_game ["book", "number"] (defScope s_is_game) := ⟨rfl, rfl, rfl, by decide +kernel, rfl, by decide +kernel, by decide +kernel⟩
def t_is_game (c : Cn) : TS :=
  (tRet (tAndV (tCB (rIsi c.K) (tCons (tVar 1) (tCons (tC (.ty "int")) tNil))) (tAndV (tNotV (tCB (rIsi c.K) (tCons (tVar 1) (tCons (tC (.ty "bool")) tNil)))) (tChain cLe (cLt c.K) (tC (.int 0)) (tVar 1) (tMeth c.cBook "many" (sp_Book_many c) [] E0 (tVar 0) tNil)))))
def sp_is_game (c : Cn) : Sp := fun vs H Q E => vs.length = 2 ∧ False
theorem p_is_game {c : Cn} {mg : Str → Option Value} (T : Txt c mg) {vs : List V} {H : Hp} {Q : VK} {E : XK} (h : sp_is_game c vs H Q E) : t_is_game c { nx := fun _ H' => Q .non H', rt := Q } (start N_is_game vs) H := h.2.elim
theorem cal_is_game {c : Cn} {mg : Str → Option Value} {base : Heap} (T : Txt c mg) : Cal c.P c.w c.K mg base CX0 2 "is_game" (sp_is_game c) := by
  obtain ⟨f, fd, F, g, b⟩ := T.F_is_game
  exact ⟨f, fd, ["book", "number"], F.ok (k := 1) (N := N_is_game) sc_is_game (fun vs H Q E h => h.1) (fun cdv A outer s H vs Q E hr h => ⟨t_is_game c, by
  exact (pss_one (ps_ret (pe_and (pe_callB k_isi (by rfl) T.n_isinstance (by decide +kernel) (pa_cons (pv 1) (pa_cons (pe_bltn rfl T.n_int (by decide +kernel) rfl) pa_nil))) (pe_and (pe_not (pe_callB k_isi (by rfl) T.n_isinstance (by decide +kernel) (pa_cons (pv 1) (pa_cons (pe_bltn rfl T.n_bool (by decide +kernel) rfl) pa_nil)))) (pe_one (pe_chain o_le (o_lt (hu64 hr)) pe_int (pv 1) (e_meth0 (met_Book_many T) hr (by decide) pass0 (pv 0)))))))), p_is_game T h⟩), g, F.kp, b⟩
abbrev N_moves_around : List Str := ["book", "listed", "games", "x", "y", "here", "move"]
theorem sc_moves_around : FnScope N_moves_around ["book", "listed"] (defScope s_moves_around) := ⟨rfl, rfl, rfl, by decide +kernel, rfl, by decide +kernel, by decide +kernel⟩
def t_moves_around (c : Cn) : TS :=
  (tSeq (tAsg (uDNew c.P c.w) (gName 2))
  (tSeq (tLock (tFor (iKeys (tVar 1)) (gSeq c.K 2 (gCons (gName 3) (gCons (gName 4) gNil)))
  (tFor (iAny c.K (tLst (tCons (tVar 3) (tCons (tVar 4) tNil)))) (gName 5)
  (tFor (iAny c.K (tOp (bAdd c.K) (tOp (bAdd c.K) (tLst (tCons (tVar 5) tNil)) (tMeth c.cBook "lefts" (sp_Book_lefts c) [] E0 (tVar 0) (tCons (tVar 5) tNil))) (tMeth c.cBook "rights" (sp_Book_rights c) [] E0 (tVar 0) (tCons (tVar 5) tNil)))) (gName 6)
  (tAsg (tC (.bl true)) (gSub (tVar 2) (tVar 6) (bSet c.P c.w)))))))
  (tRet (tCall (sp_moves_by c) [] E0 (tCons (tVar 0) (tCons (tCB (kSorted c.K c.w) (tCons (tVar 2) tNil)) tNil))))))
def sp_moves_around (c : Cn) : Sp := fun vs H Q E => vs.length = 2 ∧ False
theorem p_moves_around {c : Cn} {mg : Str → Option Value} (T : Txt c mg) {vs : List V} {H : Hp} {Q : VK} {E : XK} (h : sp_moves_around c vs H Q E) : t_moves_around c { nx := fun _ H' => Q .non H', rt := Q } (start N_moves_around vs) H := h.2.elim
theorem cal_moves_around {c : Cn} {mg : Str → Option Value} {base : Heap} (T : Txt c mg) : Cal c.P c.w c.K mg base CX0 4 "moves_around" (sp_moves_around c) := by
  obtain ⟨f, fd, F, g, b⟩ := T.F_moves_around
  exact ⟨f, fd, ["book", "listed"], F.ok (k := 3) (N := N_moves_around) sc_moves_around (fun vs H Q E h => h.1) (fun cdv A outer s H vs Q E hr h => ⟨t_moves_around c, by
  exact (pss_cons (ps_set (i := 2) sc_moves_around.nd rfl (Or.inl rfl) pe_dnew)
  (pss_cons (ps_lock (ps_for PassesOwn.never rfl (pi_keys (pv 1)) (g_seq rfl (pgs_cons (pg_name (i := 3) sc_moves_around.nd rfl (Or.inl rfl)) (pgs_cons (pg_name (i := 4) sc_moves_around.nd rfl (Or.inl rfl)) pgs_nil)))
  (pss_one (ps_for PassesOwn.never rfl (pi_any (pe_lst (pa_cons (pv 3) (pa_cons (pv 4) pa_nil)))) (pg_name (i := 5) sc_moves_around.nd rfl (Or.inl rfl))
  (pss_one (ps_for PassesOwn.never rfl (pi_any (pe_op o_add (pe_op o_add (pe_lst (pa_cons (pv 5) pa_nil)) (e_meth (met_Book_lefts T) hr (by decide) passL (pv 0) (pa_cons (pv 5) pa_nil))) (e_meth (met_Book_rights T) hr (by decide) passL (pv 0) (pa_cons (pv 5) pa_nil)))) (pg_name (i := 6) sc_moves_around.nd rfl (Or.inl rfl))
  (pss_one (ps_asg pe_bl (pg_sub (pv 2) (pv 6) (s_set (hu64 hr)))))))))))
  (pss_one (ps_ret (e_call (cal_moves_by T) hr (by decide) pass0 rfl (pa_cons (pv 0) (pa_cons (pe_callB (k_sorted rfl) (by rfl) T.n_sorted (by decide +kernel) (pa_cons (pv 2) pa_nil)) pa_nil))))))), p_moves_around T h⟩), g, F.kp, b⟩
abbrev N_paper : List Str := ["book", "g", "h", "moves", "known", "word", "found", "waiting", "x", "y", "wanted", "pair"]
theorem sc_paper : FnScope N_paper ["book", "g", "h"] (defScope s_paper) := ⟨rfl, rfl, rfl, by decide +kernel, rfl, by decide +kernel, by decide +kernel⟩
def t_paper (c : Cn) (E : XK) : TS :=
  (tSeq (tAsg (tCall (sx_pairs_by c) [] E (tCons (tVar 0) (tCons (tVar 1) (tCons (tVar 2) tNil)))) (gSeq c.K 2 (gCons (gName 3) (gCons (gName 4) gNil))))
  (tSeq (tAsg (tC (.str "bars")) (gName 5))
  (C8.tCut (tIfS (tTru c.K (tOp (bIx c.P c.w c.K) (tVar 4) (tTup (tCons (tVar 1) (tCons (tVar 2) tNil)))))
  (tAsg (tC (.str "holds")) (gName 5))
  tNext)
  (tSeq (tAsg (uDispT (tTup (tCons (tVar 1) (tCons (tVar 2) tNil))) (tC (.bl true))) (gName 6))
  (tSeq (tAsg (tLst (tCons (tTup (tCons (tVar 1) (tCons (tVar 2) tNil))) tNil)) (gName 7))
  (tSeq (tWhile (tTest (tOp (cNe c.K) (tVar 7) (tLst tNil)))
  (tSeq (tAsg (tBM0 c.K "list" rPop (tVar 7)) (gSeq c.K 2 (gCons (gName 8) (gCons (gName 9) gNil))))
  (tSeq (tAsg (tCall (sp_barring c) [] E0 (tCons (tVar 3) (tCons (tVar 4) (tCons (tVar 8) (tCons (tVar 9) tNil))))) (gName 10))
  (C8.tCut (tIfS (tTest (tOp (cEq c.K) (tVar 5) (tC (.str "holds"))))
  (tAsg (tCall (sp_holding c) [] E0 (tCons (tVar 3) (tCons (tVar 4) (tCons (tVar 8) (tCons (tVar 9) tNil))))) (gName 10))
  tNext)
  (tFor (iAny c.K (tVar 10)) (gName 11)
  (tIfS (tTest (tOp (cNotIn c.P c.w c.K) (tVar 11) (tVar 6)))
  (tSeq (tAsg (tC (.bl true)) (gSub (tVar 6) (tVar 11) (bSet c.P c.w)))
  (tDrop (tBM c.K "list" rAppend (tVar 7) (tCons (tVar 11) tNil))))
  tNext))))))
  (tRet (tTup (tCons (tVar 5) (tCons (tCB uSortDictP (tCons (tVar 6) tNil)) tNil))))))))))
def sp_paper (c : Cn) : Sp := fun vs H Q E => vs.length = 3 ∧ False
theorem p_paper {c : Cn} {mg : Str → Option Value} (T : Txt c mg) {vs : List V} {H : Hp} {Q : VK} {E : XK} (h : sp_paper c vs H Q E) : t_paper c E { nx := fun _ H' => Q .non H', rt := Q } (start N_paper vs) H := h.2.elim
def sy_paper (c : Cn) : Sp := fun vs H Q E => vs.length = 3 ∧ ∃ (b : Addr) (M : Addr → Prop) (gs : List Gm) (ds : List Int) (v w : V), vs = [.ref b, v, w] ∧ BookAt c H b M gs ds ∧ Bad2 H gs.length v w ∧ gs.length ≤ 40000 ∧ ∀ H', Keep Nil H H' → E (.ref c.cNoGame) none H'
theorem q_paper {c : Cn} {mg : Str → Option Value} (T : Txt c mg) {vs : List V} {H : Hp} {Q : VK} {E : XK} (h : sy_paper c vs H Q E) : t_paper c E { nx := fun _ H' => Q .non H', rt := Q } (start N_paper vs) H := by
  obtain ⟨_, b, M, gs, ds, v, w, rfl, B, bd, few, k⟩ := h
  unfold t_paper
  repeat kaf_suf
  exact ⟨rfl, .inr ⟨rfl, b, M, gs, ds, v, w, rfl, B, bd, few, k⟩⟩
def sx_paper (c : Cn) : Sp := fun vs H Q E => vs.length = 3 ∧ (sp_paper c vs H Q E ∨ sy_paper c vs H Q E)
theorem calx_paper {c : Cn} {mg : Str → Option Value} {base : Heap} (T : Txt c mg) : Cal c.P c.w c.K mg base (L2.CX c.P c.w) 5 "paper" (sx_paper c) := by
  obtain ⟨f, fd, F, g, b⟩ := T.F_paper
  exact ⟨f, fd, ["book", "g", "h"], F.okX (k := 4) (N := N_paper) sc_paper (fun vs H Q E h => h.1) (fun cdv A outer s H vs Q E hr h => ⟨t_paper c E, by
  exact (pss_cons (ps_asg (e_call (calx_pairs_by T) hr (by decide) (passes_call (takes_of rfl rfl rfl rfl) fun _ _ _ _ z => z) rfl (pa_cons (pv 0) (pa_cons (pv 1) (pa_cons (pv 2) pa_nil)))) (g_seq rfl (pgs_cons (pg_name (i := 3) sc_paper.nd rfl (Or.inl rfl)) (pgs_cons (pg_name (i := 4) sc_paper.nd rfl (Or.inl rfl)) pgs_nil))))
  (pss_cons (ps_set (i := 5) sc_paper.nd rfl (Or.inl rfl) pe_str)
  (C8.pss_cut (ps_if (p_tru (pe_ix (x_ix (hu64 hr)) (pv 4) (pe_tup (pa_cons (pv 1) (pa_cons (pv 2) pa_nil))) (fun _ _ => rfl))) (pss_one (ps_set (i := 5) sc_paper.nd rfl (Or.inl rfl) pe_str)) pss_nil)
  (pss_cons (ps_set (i := 6) sc_paper.nd rfl (Or.inl rfl) (pe_dispT (hu64 hr) (pe_tup (pa_cons (pv 1) (pa_cons (pv 2) pa_nil))) pe_bl))
  (pss_cons (ps_set (i := 7) sc_paper.nd rfl (Or.inl rfl) (pe_lst (pa_cons (pe_tup (pa_cons (pv 1) (pa_cons (pv 2) pa_nil))) pa_nil)))
  (pss_cons (ps_while (passes_of rfl) (pt_cmpR (o_ne (hu64 hr)) (pv 7) (pe_lst pa_nil) (nomark _))
  (pss_cons (ps_asg (pe_bm0 PySem.F.plainAttrs_list PySem.F.slot_list_pop PySem.F.type_list_pop mt_pop (pv 7)) (g_seq rfl (pgs_cons (pg_name (i := 8) sc_paper.nd rfl (Or.inl rfl)) (pgs_cons (pg_name (i := 9) sc_paper.nd rfl (Or.inl rfl)) pgs_nil))))
  (pss_cons (ps_set (i := 10) sc_paper.nd rfl (Or.inl rfl) (e_call (cal_barring T) hr (by decide) pass0 rfl (pa_cons (pv 3) (pa_cons (pv 4) (pa_cons (pv 8) (pa_cons (pv 9) pa_nil))))))
  (C8.pss_cut (ps_if (pt_cmpR (o_eq (hu64 hr)) (pv 5) pe_str (nomark _)) (pss_one (ps_set (i := 10) sc_paper.nd rfl (Or.inl rfl) (e_call (cal_holding T) hr (by decide) pass0 rfl (pa_cons (pv 3) (pa_cons (pv 4) (pa_cons (pv 8) (pa_cons (pv 9) pa_nil))))))) pss_nil)
  (pss_one (ps_for (passes_of rfl) rfl (pi_any (pv 10)) (pg_name (i := 11) sc_paper.nd rfl (Or.inl rfl))
  (pss_one (ps_if (pt_cmpR (o_notin (hu65 hr)) (pv 11) (pv 6) (by rfl)) (pss_cons (ps_asg pe_bl (pg_sub (pv 6) (pv 11) (s_set (hu64 hr))))
  (pss_one (ps_expr (pe_bm PySem.F.plainAttrs_list PySem.F.slot_list_append PySem.F.type_list_append mt_append (pv 7) (pa_cons (pv 11) pa_nil))))) pss_nil))))))))
  (pss_one (ps_ret (pe_tup (pa_cons (pv 5) (pa_cons (pe_callB (cu_sortDictP rfl) (by rfl) T.n_sorted (by decide +kernel) (pa_cons (pv 6) pa_nil)) pa_nil))))))))))), h.2.elim (p_paper T) (q_paper T)⟩), g, F.kp, b⟩
theorem cal_paper {c : Cn} {mg : Str → Option Value} {base : Heap} (T : Txt c mg) : Cal c.P c.w c.K mg base (L2.CX c.P c.w) 5 "paper" (sp_paper c) := by
  obtain ⟨f, fd, ps, F, g, kp, b⟩ := (calx_paper T).ex
  exact ⟨⟨f, fd, ps, F.imp fun vs H Q E h => ⟨h.1, .inl h⟩, g, kp, b⟩⟩
abbrev N_shows : List Str := ["book", "g", "h", "answer", "word", "pairs", "listed", "x", "y", "moves"]
theorem sc_shows : FnScope N_shows ["book", "g", "h", "answer"] (defScope s_shows) := ⟨rfl, rfl, rfl, by decide +kernel, rfl, by decide +kernel, by decide +kernel⟩
def t_shows (c : Cn) (E : XK) : TS :=
  (tSeq (tDrop (tMeth c.cBook "depth" (sx_Book_depth c) [] E (tVar 0) (tCons (tVar 1) tNil)))
  (tSeq (tDrop (tMeth c.cBook "depth" (sx_Book_depth c) [] E (tVar 0) (tCons (tVar 2) tNil)))
  (tSeq (tAsg (tVar 3) (gSeq c.K 2 (gCons (gName 4) (gCons (gName 5) gNil))))
  (tSeq (tAsg (uDNew c.P c.w) (gName 6))
  (tSeq (tFor (iAny c.K (tVar 5)) (gSeq c.K 2 (gCons (gName 7) (gCons (gName 8) gNil)))
  (tSeq (tIfS (tOr (tNot (tTru c.K (tCall (sp_is_game c) [] E0 (tCons (tVar 0) (tCons (tVar 7) tNil))))) (tNot (tTru c.K (tCall (sp_is_game c) [] E0 (tCons (tVar 0) (tCons (tVar 8) tNil))))))
  (tRet (tC (.bl false)))
  tNext)
  (tAsg (tC (.bl true)) (gSub (tVar 6) (tTup (tCons (tVar 7) (tCons (tVar 8) tNil))) (bSet c.P c.w)))))
  (tSeq (tIfS (tOr (tTest (tOp (cNotIn c.P c.w c.K) (tTup (tCons (tVar 1) (tCons (tVar 2) tNil))) (tVar 6))) (tTest (tOp (cNotIn c.P c.w c.K) (tVar 4) (tTup (tCons (tC (.str "holds")) (tCons (tC (.str "bars")) tNil))))))
  (tRet (tC (.bl false)))
  tNext)
  (tSeq (tAsg (tCall (sp_moves_around c) [] E0 (tCons (tVar 0) (tCons (tVar 6) tNil))) (gName 9))
  (tSeq (tLock (tFor (iKeys (tVar 6)) (gSeq c.K 2 (gCons (gName 7) (gCons (gName 8) gNil)))
  (tSeq (tIfS (tAnd (tTest (tOp (cEq c.K) (tVar 4) (tC (.str "holds")))) (tNot (tTru c.K (tCall (sp_pair_holds c) [] E0 (tCons (tVar 9) (tCons (tVar 6) (tCons (tVar 7) (tCons (tVar 8) tNil))))))))
  (tRet (tC (.bl false)))
  tNext)
  (tIfS (tAnd (tTest (tOp (cEq c.K) (tVar 4) (tC (.str "bars")))) (tNot (tTru c.K (tCall (sp_pair_bars c) [] E0 (tCons (tVar 9) (tCons (tVar 6) (tCons (tVar 7) (tCons (tVar 8) tNil))))))))
  (tRet (tC (.bl false)))
  tNext))))
  (tRet (tC (.bl true)))))))))))
def sp_shows (c : Cn) : Sp := fun vs H Q E => vs.length = 4 ∧ False
theorem p_shows {c : Cn} {mg : Str → Option Value} (T : Txt c mg) {vs : List V} {H : Hp} {Q : VK} {E : XK} (h : sp_shows c vs H Q E) : t_shows c E { nx := fun _ H' => Q .non H', rt := Q } (start N_shows vs) H := h.2.elim
def sy_shows (c : Cn) : Sp := fun vs H Q E => vs.length = 4 ∧ ∃ (b : Addr) (M : Addr → Prop) (gs : List Gm) (ds : List Int) (v w a : V), vs = [.ref b, v, w, a] ∧ BookAt c H b M gs ds ∧ Bad2 H gs.length v w ∧ gs.length ≤ 40000 ∧ ∀ H', Keep Nil H H' → E (.ref c.cNoGame) none H'
theorem q_shows {c : Cn} {mg : Str → Option Value} (T : Txt c mg) {vs : List V} {H : Hp} {Q : VK} {E : XK} (h : sy_shows c vs H Q E) : t_shows c E { nx := fun _ H' => Q .non H', rt := Q } (start N_shows vs) H := by
  obtain ⟨_, b, M, gs, ds, v, w, a, rfl, B, bd, few, k⟩ := h
  obtain ⟨dx, mv, nm, dp, hb⟩ := B.ins_
  unfold t_shows
  rcases bd with bd | ⟨⟨g, rfl, hg⟩, bd⟩
  · repeat kaf_suf
    exact ⟨rfl, .inr ⟨rfl, b, M, gs, ds, v, rfl, B, bd, k _ Keep.refl⟩⟩
  · obtain ⟨dg, hdg⟩ : ∃ v, ds[g]? = some v := ⟨_, List.getElem?_eq_getElem (by have := B.dok.len; omega)⟩
    repeat kaf_suf
    refine ⟨rfl, .inl ⟨rfl, b, M, gs, ds, g, dg, rfl, B, hdg, ?_⟩⟩
    repeat kaf_suf
    exact ⟨rfl, .inr ⟨rfl, b, M, gs, ds, w, rfl, B, bd, k _ Keep.refl⟩⟩
def sx_shows (c : Cn) : Sp := fun vs H Q E => vs.length = 4 ∧ (sp_shows c vs H Q E ∨ sy_shows c vs H Q E)
theorem calx_shows {c : Cn} {mg : Str → Option Value} {base : Heap} (T : Txt c mg) : Cal c.P c.w c.K mg base (L2.CX c.P c.w) 5 "shows" (sx_shows c) := by
  obtain ⟨f, fd, F, g, b⟩ := T.F_shows
  exact ⟨f, fd, ["book", "g", "h", "answer"], F.okX (k := 4) (N := N_shows) sc_shows (fun vs H Q E h => h.1) (fun cdv A outer s H vs Q E hr h => ⟨t_shows c E, by
  exact (pss_cons (ps_expr (e_meth (metx_Book_depth T) hr (by decide) (passes_call (takes_of rfl rfl rfl rfl) fun _ _ _ _ z => z) (pv 0) (pa_cons (pv 1) pa_nil)))
  (pss_cons (ps_expr (e_meth (metx_Book_depth T) hr (by decide) (passes_call (takes_of rfl rfl rfl rfl) fun _ _ _ _ z => z) (pv 0) (pa_cons (pv 2) pa_nil)))
  (pss_cons (ps_asg (pv 3) (g_seq rfl (pgs_cons (pg_name (i := 4) sc_shows.nd rfl (Or.inl rfl)) (pgs_cons (pg_name (i := 5) sc_shows.nd rfl (Or.inl rfl)) pgs_nil))))
  (pss_cons (ps_set (i := 6) sc_shows.nd rfl (Or.inl rfl) pe_dnew)
  (pss_cons (ps_for (passes_of rfl) rfl (pi_any (pv 5)) (g_seq rfl (pgs_cons (pg_name (i := 7) sc_shows.nd rfl (Or.inl rfl)) (pgs_cons (pg_name (i := 8) sc_shows.nd rfl (Or.inl rfl)) pgs_nil)))
  (pss_cons (ps_if (PW.pt (pw_or (pt_not (p_tru (e_call (cal_is_game T) hr (by decide) pass0 rfl (pa_cons (pv 0) (pa_cons (pv 7) pa_nil))))) (pw_or1 (pt_not (p_tru (e_call (cal_is_game T) hr (by decide) pass0 rfl (pa_cons (pv 0) (pa_cons (pv 8) pa_nil)))))))) (pss_one (ps_ret pe_bl)) pss_nil)
  (pss_one (ps_asg pe_bl (pg_sub (pv 6) (pe_tup (pa_cons (pv 7) (pa_cons (pv 8) pa_nil))) (s_set (hu64 hr)))))))
  (pss_cons (ps_if (PW.pt (pw_or (pt_cmpR (o_notin (hu65 hr)) (pe_tup (pa_cons (pv 1) (pa_cons (pv 2) pa_nil))) (pv 6) (by rfl)) (pw_or1 (pt_cmpR (o_notin (hu65 hr)) (pv 4) (pe_tup (pa_cons pe_str (pa_cons pe_str pa_nil))) (by rfl))))) (pss_one (ps_ret pe_bl)) pss_nil)
  (pss_cons (ps_set (i := 9) sc_shows.nd rfl (Or.inl rfl) (e_call (cal_moves_around T) hr (by decide) pass0 rfl (pa_cons (pv 0) (pa_cons (pv 6) pa_nil))))
  (pss_cons (ps_lock (ps_for (passes_of rfl) rfl (pi_keys (pv 6)) (g_seq rfl (pgs_cons (pg_name (i := 7) sc_shows.nd rfl (Or.inl rfl)) (pgs_cons (pg_name (i := 8) sc_shows.nd rfl (Or.inl rfl)) pgs_nil)))
  (pss_cons (ps_if (PW.pt (pw_and (pt_cmpR (o_eq (hu64 hr)) (pv 4) pe_str (nomark _)) (pw_and1 (pt_not (p_tru (e_call (cal_pair_holds T) hr (by decide) pass0 rfl (pa_cons (pv 9) (pa_cons (pv 6) (pa_cons (pv 7) (pa_cons (pv 8) pa_nil)))))))))) (pss_one (ps_ret pe_bl)) pss_nil)
  (pss_one (ps_if (PW.pt (pw_and (pt_cmpR (o_eq (hu64 hr)) (pv 4) pe_str (nomark _)) (pw_and1 (pt_not (p_tru (e_call (cal_pair_bars T) hr (by decide) pass0 rfl (pa_cons (pv 9) (pa_cons (pv 6) (pa_cons (pv 7) (pa_cons (pv 8) pa_nil)))))))))) (pss_one (ps_ret pe_bl)) pss_nil)))))
  (pss_one (ps_ret pe_bl)))))))))), h.2.elim (p_shows T) (q_shows T)⟩), g, F.kp, b⟩
theorem cal_shows {c : Cn} {mg : Str → Option Value} {base : Heap} (T : Txt c mg) : Cal c.P c.w c.K mg base (L2.CX c.P c.w) 5 "shows" (sp_shows c) := by
  obtain ⟨f, fd, ps, F, g, kp, b⟩ := (calx_shows T).ex
  exact ⟨⟨f, fd, ps, F.imp fun vs H Q E h => ⟨h.1, .inl h⟩, g, kp, b⟩⟩

/-! the refusals -/
abbrev N_law_asked : List Str := ["book", "way", "g", "h"]
theorem sc_law_asked : FnScope N_law_asked ["book", "way", "g", "h"] (defScope s_law_asked) := ⟨rfl, rfl, rfl, by decide +kernel, rfl, by decide +kernel, by decide +kernel⟩
def t_law_asked (c : Cn) (E : XK) : TS :=
  (tSeq (tIfS (tTest (tOp (cEq c.K) (tVar 1) (tC (.int 0))))
  (tRet (tCall (sx_no_less c) [] E (tCons (tVar 0) (tCons (tVar 2) (tCons (tVar 3) tNil)))))
  tNext)
  (tSeq (tIfS (tTest (tOp (cEq c.K) (tVar 1) (tC (.int 1))))
  (tRet (tCall (sx_compared c) [] E (tCons (tVar 0) (tCons (tVar 2) (tCons (tVar 3) tNil)))))
  tNext)
  (tSeq (tIfS (tTest (tOp (cEq c.K) (tVar 1) (tC (.int 2))))
  (tRet (tCall (sx_paper c) [] E (tCons (tVar 0) (tCons (tVar 2) (tCons (tVar 3) tNil)))))
  tNext)
  (tRet (tCall (sx_shows c) [] E (tCons (tVar 0) (tCons (tVar 2) (tCons (tVar 3) (tCons (tTup (tCons (tC (.str "holds")) (tCons (tLst tNil) tNil))) tNil)))))))))
def sp_law_asked (c : Cn) : Sp := fun vs H Q E => vs.length = 4 ∧ False
theorem p_law_asked {c : Cn} {mg : Str → Option Value} (T : Txt c mg) {vs : List V} {H : Hp} {Q : VK} {E : XK} (h : sp_law_asked c vs H Q E) : t_law_asked c E { nx := fun _ H' => Q .non H', rt := Q } (start N_law_asked vs) H := h.2.elim
def sy_law_asked (c : Cn) : Sp := fun vs H Q E => vs.length = 4 ∧ ∃ (b : Addr) (M : Addr → Prop) (gs : List Gm) (ds : List Int) (v w : V) (way : Nat), vs = [.ref b, .int way, v, w] ∧ BookAt c H b M gs ds ∧ Bad2 H gs.length v w ∧ gs.length ≤ 40000 ∧ way ≤ 3 ∧ ∀ H', Keep Nil H H' → E (.ref c.cNoGame) none H'
theorem q_law_asked {c : Cn} {mg : Str → Option Value} (T : Txt c mg) {vs : List V} {H : Hp} {Q : VK} {E : XK} (h : sy_law_asked c vs H Q E) : t_law_asked c E { nx := fun _ H' => Q .non H', rt := Q } (start N_law_asked vs) H := by
  obtain ⟨_, b, M, gs, ds, v, w, way, rfl, B, bd, few, hw, k⟩ := h
  unfold t_law_asked
  have : way = 0 ∨ way = 1 ∨ way = 2 ∨ way = 3 := by omega
  rcases this with rfl | rfl | rfl | rfl
  · (repeat kaf_suf)
    exact ⟨rfl, .inr ⟨rfl, b, M, gs, ds, v, w, rfl, B, bd, few, k⟩⟩
  · (repeat kaf_suf)
    exact ⟨rfl, .inr ⟨rfl, b, M, gs, ds, v, w, rfl, B, bd, few, k⟩⟩
  · (repeat kaf_suf)
    exact ⟨rfl, .inr ⟨rfl, b, M, gs, ds, v, w, rfl, B, bd, few, k⟩⟩
  · (repeat kaf_suf)
    intro p1 hp1
    (repeat kaf_suf)
    intro p2 hp2
    have kk := (Keep.alloc (M := Nil) (o := .lst []) hp1).new (o := .tup [.str "holds", .ref p1]) hp2
    (repeat kaf_suf)
    exact ⟨rfl, .inr ⟨rfl, b, M, gs, ds, v, w, _, rfl, B.same kk, bd.keep kk, few, fun H2 k2 => k H2 (kk.trans k2)⟩⟩
def sx_law_asked (c : Cn) : Sp := fun vs H Q E => vs.length = 4 ∧ (sp_law_asked c vs H Q E ∨ sy_law_asked c vs H Q E)
theorem calx_law_asked {c : Cn} {mg : Str → Option Value} {base : Heap} (T : Txt c mg) : Cal c.P c.w c.K mg base (L2.CX c.P c.w) 7 "_law_asked" (sx_law_asked c) := by
  obtain ⟨f, fd, F, g, b⟩ := T.F_law_asked
  exact ⟨f, fd, ["book", "way", "g", "h"], F.okX (k := 6) (N := N_law_asked) sc_law_asked (fun vs H Q E h => h.1) (fun cdv A outer s H vs Q E hr h => ⟨t_law_asked c E, by
  exact (pss_cons (ps_if (pt_cmpR (o_eq (hu64 hr)) (pv 1) pe_int (nomark _)) (pss_one (ps_ret (e_call (calx_no_less T) hr (by decide) (passes_call (takes_of rfl rfl rfl rfl) fun _ _ _ _ z => z) rfl (pa_cons (pv 0) (pa_cons (pv 2) (pa_cons (pv 3) pa_nil)))))) pss_nil)
  (pss_cons (ps_if (pt_cmpR (o_eq (hu64 hr)) (pv 1) pe_int (nomark _)) (pss_one (ps_ret (e_call (calx_compared T) hr (by decide) (passes_call (takes_of rfl rfl rfl rfl) fun _ _ _ _ z => z) rfl (pa_cons (pv 0) (pa_cons (pv 2) (pa_cons (pv 3) pa_nil)))))) pss_nil)
  (pss_cons (ps_if (pt_cmpR (o_eq (hu64 hr)) (pv 1) pe_int (nomark _)) (pss_one (ps_ret (e_call (calx_paper T) hr (by decide) (passes_call (takes_of rfl rfl rfl rfl) fun _ _ _ _ z => z) rfl (pa_cons (pv 0) (pa_cons (pv 2) (pa_cons (pv 3) pa_nil)))))) pss_nil)
  (pss_one (ps_ret (e_call (calx_shows T) hr (by decide) (passes_call (takes_of rfl rfl rfl rfl) fun _ _ _ _ z => z) rfl (pa_cons (pv 0) (pa_cons (pv 2) (pa_cons (pv 3) (pa_cons (pe_tup (pa_cons pe_str (pa_cons (pe_lst pa_nil) pa_nil))) pa_nil)))))))))), h.2.elim (p_law_asked T) (q_law_asked T)⟩), g, F.kp, b⟩
theorem cal_law_asked {c : Cn} {mg : Str → Option Value} {base : Heap} (T : Txt c mg) : Cal c.P c.w c.K mg base (L2.CX c.P c.w) 7 "_law_asked" (sp_law_asked c) := by
  obtain ⟨f, fd, ps, F, g, kp, b⟩ := (calx_law_asked T).ex
  exact ⟨⟨f, fd, ps, F.imp fun vs H Q E h => ⟨h.1, .inl h⟩, g, kp, b⟩⟩
abbrev N_law_class : List Str := ["e"]
theorem sc_law_class : FnScope N_law_class ["e"] (defScope s_law_class) := ⟨rfl, rfl, rfl, by decide +kernel, rfl, by decide +kernel, by decide +kernel⟩
def t_law_class (c : Cn) : TS :=
  (tSeq (tIfS (tOr (tTru c.K (tCB (uIsV c.K) (tCons (tVar 0) (tCons (tC (.ref c.cNoRoad)) tNil)))) (tOr (tTru c.K (tCB (uIsV c.K) (tCons (tVar 0) (tCons (tC (.ref c.cNoBoard)) tNil)))) (tOr (tTru c.K (tCB (uIsV c.K) (tCons (tVar 0) (tCons (tC (.ref c.cNoNumber)) tNil)))) (tTru c.K (tCB (uIsV c.K) (tCons (tVar 0) (tCons (tC (.ref c.cNoText)) tNil)))))))
  (tRet (tC (.str "other")))
  tNext)
  (tSeq (tIfS (tOr (tTru c.K (tCB (uIsV c.K) (tCons (tVar 0) (tCons (tC (.ref c.cNoName)) tNil)))) (tOr (tTru c.K (tCB (uIsV c.K) (tCons (tVar 0) (tCons (tC (.ref c.cNoRow)) tNil)))) (tNot (tTru c.K (tCB (uIsV c.K) (tCons (tVar 0) (tCons (tC (.ty "ValueError")) tNil)))))))
  (tRet (tC (.str "other")))
  tNext)
  (tRet (tOp (bIx c.P c.w c.K) (tLst (tCons (tC (.str "other")) (tCons (tC (.str "game")) tNil))) (tCB kInt (tCons (tCB (uIsV c.K) (tCons (tVar 0) (tCons (tC (.ref c.cNoGame)) tNil))) tNil))))))
def sp_law_class (c : Cn) : Sp := fun vs H Q E => vs.length = 1 ∧ ∃ (a : Addr), vs = [.ref a] ∧ H a = some (ExV (.ref c.cNoGame) a) ∧ ∀ H', Keep Nil H H' → Q (.str "game") H'
theorem p_law_class {c : Cn} {mg : Str → Option Value} (T : Txt c mg) {vs : List V} {H : Hp} {Q : VK} {E : XK} (h : sp_law_class c vs H Q E) : t_law_class c { nx := fun _ H' => Q .non H', rt := Q } (start N_law_class vs) H := by
  obtain ⟨_, a, rfl, ha, k⟩ := h
  unfold t_law_class
  have ex := Txt.e_NoGame T
  (repeat kaf_suf)
  refine v_isV ha ex (.own _) (Txt.i_NoGame_NoRoad T) ?_
  (repeat kaf_suf)
  refine v_isV ha ex (.own _) (Txt.i_NoGame_NoBoard T) ?_
  (repeat kaf_suf)
  refine v_isV ha ex (.own _) (Txt.i_NoGame_NoNumber T) ?_
  (repeat kaf_suf)
  refine v_isV ha ex (.own _) (Txt.i_NoGame_NoText T) ?_
  (repeat kaf_suf)
  refine v_isV ha ex (.own _) (Txt.i_NoGame_NoName T) ?_
  (repeat kaf_suf)
  refine v_isV ha ex (.own _) (Txt.i_NoGame_NoRow T) ?_
  (repeat kaf_suf)
  refine v_isV ha ex (.ty _) (Txt.iv_NoGame T) ?_
  (repeat kaf_suf)
  intro p1 hp1
  have ha1 := get_new (u := .lst [V.str "other", V.str "game"]) hp1 ha
  (repeat kaf_suf)
  refine v_isV ha1 ex (.own _) (Txt.i_NoGame_NoGame T) ?_
  have hx : atI [V.str "other", V.str "game"] (if true = true then 1 else 0) = some (.str "game") := rfl
  have hx2 : atI [V.str "other", V.str "game"] 1 = some (.str "game") := rfl
  (repeat kaf_suf)
  exact k _ (Keep.alloc hp1)
theorem cal_law_class {c : Cn} {mg : Str → Option Value} {base : Heap} (T : Txt c mg) : CalM c.P c.w c.K mg base 1 "_law_class" (sp_law_class c) := by
  obtain ⟨f, fd, F, g, b⟩ := T.F_law_class
  exact ⟨f, fd, ["e"], fn_ofM (k := 0) (N := N_law_class) F sc_law_class (fun vs H Q E h => h.1) (fun cdv A outer s H vs Q E hr h => ⟨t_law_class c, by
  exact (pss_cons (ps_if (PW.pt (pw_or (p_tru (pe_callB k_isV (by rfl) T.n_isinstance (by decide +kernel) (pa_cons (pv 0) (pa_cons (pe_glob rfl T.g_NoRoad rfl) pa_nil)))) (pw_or (p_tru (pe_callB k_isV (by rfl) T.n_isinstance (by decide +kernel) (pa_cons (pv 0) (pa_cons (pe_glob rfl T.g_NoBoard rfl) pa_nil)))) (pw_or (p_tru (pe_callB k_isV (by rfl) T.n_isinstance (by decide +kernel) (pa_cons (pv 0) (pa_cons (pe_glob rfl T.g_NoNumber rfl) pa_nil)))) (pw_or1 (p_tru (pe_callB k_isV (by rfl) T.n_isinstance (by decide +kernel) (pa_cons (pv 0) (pa_cons (pe_glob rfl T.g_NoText rfl) pa_nil))))))))) (pss_one (ps_ret pe_str)) pss_nil)
  (pss_cons (ps_if (PW.pt (pw_or (p_tru (pe_callB k_isV (by rfl) T.n_isinstance (by decide +kernel) (pa_cons (pv 0) (pa_cons (pe_glob rfl T.g_NoName rfl) pa_nil)))) (pw_or (p_tru (pe_callB k_isV (by rfl) T.n_isinstance (by decide +kernel) (pa_cons (pv 0) (pa_cons (pe_glob rfl T.g_NoRow rfl) pa_nil)))) (pw_or1 (pt_not (p_tru (pe_callB k_isV (by rfl) T.n_isinstance (by decide +kernel) (pa_cons (pv 0) (pa_cons (pe_bltn rfl T.n_ValueError (by decide +kernel) rfl) pa_nil))))))))) (pss_one (ps_ret pe_str)) pss_nil)
  (pss_one (ps_ret (pe_ix (x_ix (hu64M hr)) (pe_lst (pa_cons pe_str (pa_cons pe_str pa_nil))) (pe_callTy k_int (by rfl) T.n_int (by decide +kernel) (pa_cons (pe_callB k_isV (by rfl) T.n_isinstance (by decide +kernel) (pa_cons (pv 0) (pa_cons (pe_glob rfl T.g_NoGame rfl) pa_nil))) pa_nil)) (fun _ _ => rfl)))))), p_law_class T h⟩), g, F.kp, b⟩
abbrev N_law_refused : List Str := ["book", "way", "g", "h", "kind", "e"]
theorem sc_law_refused : FnScope N_law_refused ["book", "way", "g", "h"] (defScope s_law_refused) := ⟨rfl, rfl, rfl, by decide +kernel, rfl, by decide +kernel, by decide +kernel⟩
def t_law_refused (c : Cn) : TS :=
  (tSeq (tAsg (tC (.str "none")) (gName 4))
  (tSeq (tTryW c.K (.ref c.cGameError) 5
    (tAsg (tCall (sp_law_class c) [] E0 (tCons (tVar 5) tNil)) (gName 4))
    (fun W => (tDrop (tCallW (sx_law_asked c) W (tCons (tVar 0) (tCons (tVar 1) (tCons (tVar 2) (tCons (tVar 3) tNil))))))))
  (tRet (tOp (cEq c.K) (tVar 4) (tC (.str "game"))))))
def sp_law_refused (c : Cn) : Sp := fun vs H Q E => vs.length = 4 ∧ ∃ (b : Addr) (M : Addr → Prop) (gs : List Gm) (ds : List Int) (v w : V) (way : Nat), vs = [.ref b, .int way, v, w] ∧ BookAt c H b M gs ds ∧ Bad2 H gs.length v w ∧ gs.length ≤ 40000 ∧ way ≤ 3 ∧ ∀ H', Keep Nil H H' → Q (.bl true) H'
theorem p_law_refused {c : Cn} {mg : Str → Option Value} (T : Txt c mg) {vs : List V} {H : Hp} {Q : VK} {E : XK} (h : sp_law_refused c vs H Q E) : t_law_refused c { nx := fun _ H' => Q .non H', rt := Q } (start N_law_refused vs) H := by
  obtain ⟨_, b, M, gs, ds, v, w, way, rfl, B, bd, few, hw, k⟩ := h
  unfold t_law_refused
  (repeat kaf_suf)
  refine ⟨rfl, .inr ⟨rfl, b, M, gs, ds, v, w, way, rfl, B, bd, few, hw, fun H1 k1 => w_valW (Txt.m_NoGame T) fun a ha => ?_⟩⟩
  (repeat kaf_suf)
  refine ⟨rfl, a, rfl, upd_same, fun H2 k2 => ?_⟩
  (repeat kaf_suf)
  exact k _ ((k1.new ha).trans k2)
theorem cal_law_refused {c : Cn} {mg : Str → Option Value} {base : Heap} (T : Txt c mg) : Cal c.P c.w c.K mg base CX0 8 "_law_refused" (sp_law_refused c) := by
  obtain ⟨f, fd, F, g, b⟩ := T.F_law_refused
  exact ⟨f, fd, ["book", "way", "g", "h"], F.ok (k := 7) (N := N_law_refused) sc_law_refused (fun vs H Q E h => h.1) (fun cdv A outer s H vs Q E hr h => ⟨t_law_refused c, by
  exact (pss_cons (ps_set (i := 4) sc_law_refused.nd rfl (Or.inl rfl) pe_str)
  (pss_cons (ps_tryW (i := 5) rfl rfl sc_law_refused.nd rfl rfl ⟨rfl, by decide, .inl T.g_GameError⟩ rfl
    (fun W pn xe tk po => (pss_one (ps_expr (e_callS (calx_law_asked T) hr (by decide) tk rfl (pa_cons (pv 0) (pa_cons (pv 1) (pa_cons (pv 2) (pa_cons (pv 3) pa_nil))))))))
    (fun a pn => (pss_one (ps_set (i := 4) sc_law_refused.nd rfl (Or.inl rfl) (e_callM (cal_law_class T) (L2H.roomH_mark hr _) (by decide) rfl (pa_cons (pv 5) pa_nil))))))
  (pss_one (ps_ret (pe_cmpR (o_eq (hu64 hr)) (pv 4) pe_str (nomark _)))))), p_law_refused T h⟩), g, F.kp, b⟩
abbrev N_law_bad : List Str := ["book", "cell", "some"]
theorem sc_law_bad : FnScope N_law_bad ["book", "cell"] (defScope s_law_bad) := ⟨rfl, rfl, rfl, by decide +kernel, rfl, by decide +kernel, by decide +kernel⟩
def t_law_bad (c : Cn) : TS :=
  (tSeq (tAsg (tLst (tCons (tUn (rU fun i => .int (-i)) (tC (.int 1))) (tCons (tMeth c.cBook "many" (sp_Book_many c) [] E0 (tVar 0) tNil) (tCons (tOp (bAdd c.K) (tOp (bAdd c.K) (tMeth c.cBook "many" (sp_Book_many c) [] E0 (tVar 0) tNil) (tC (.int 1))) (tOp bMod (tVar 1) (tC (.int 1000003)))) (tCons (tC (.bl true)) (tCons (tC (.bl false)) (tCons (tC .non) (tCons (tC (.str "0")) (tCons (tTup (tCons (tC (.int 0)) tNil)) (tCons (tLst (tCons (tC (.int 0)) tNil)) (tCons (uDNew c.P c.w) (tCons (tUn (rU fun i => .int (-i)) (tOp bPow (tC (.int 10)) (tC (.int 30)))) tNil)))))))))))) (gName 2))
  (tRet (tOp (bIx c.P c.w c.K) (tVar 2) (tOp bMod (tOp bDiv (tVar 1) (tC (.int 7))) (tC (.int 11))))))
def sp_law_bad (c : Cn) : Sp := fun vs H Q E => vs.length = 2 ∧ ∃ (b : Addr) (M : Addr → Prop) (gs : List Gm) (ds : List Int) (z : Int), vs = [.ref b, .int z] ∧ BookAt c H b M gs ds ∧ 0 ≤ z ∧ ∀ (H' : Hp) (v : V), Keep Nil H H' → BadV H' gs.length v → Q v H'
theorem p_law_bad {c : Cn} {mg : Str → Option Value} (T : Txt c mg) {vs : List V} {H : Hp} {Q : VK} {E : XK} (h : sp_law_bad c vs H Q E) : t_law_bad c { nx := fun _ H' => Q .non H', rt := Q } (start N_law_bad vs) H := by
  obtain ⟨_, b, M, gs, ds, z, rfl, B, z0, k⟩ := h
  obtain ⟨dx, mv, nm, dp, hb⟩ := B.ins_
  unfold t_law_bad
  (repeat kaf_suf)
  refine ⟨rfl, b, M, gs, ds, rfl, B, ?_⟩
  (repeat kaf_suf)
  refine ⟨rfl, b, M, gs, ds, rfl, B, ?_⟩
  (repeat kaf_suf)
  intro p1 hp1
  (repeat kaf_suf)
  intro p2 hp2
  (repeat kaf_suf)
  refine .inl ⟨true, fun p3 hp3 => ?_⟩
  rw [if_pos rfl]
  have k3 := ((Keep.alloc (M := Nil) (o := .tup [.int 0]) hp1).new (o := .lst [.int 0]) hp2).new (o := .dK []) hp3
  have w1 := get_new (u := .dK []) hp3 (get_new (u := .lst [.int 0]) hp2 (upd_same (H := H) (a := p1) (o := .tup [.int 0])))
  have w2 := get_new (u := .dK []) hp3 (upd_same (H := upd H p1 (.tup [.int 0])) (a := p2) (o := .lst [.int 0]))
  have w3 : (upd (upd (upd H p1 (.tup [.int 0])) p2 (.lst [.int 0])) p3 (.dK [])) p3 = some (.dK []) := upd_same
  generalize upd (upd (upd H p1 (.tup [.int 0])) p2 (.lst [.int 0])) p3 (.dK []) = H3 at k3 w1 w2 w3 ⊢
  clear hp1 hp2 hp3
  (repeat kaf_suf)
  have b30 : (100 : Int) ≤ 10 ^ (30 : Int).toNat := by decide +kernel
  generalize (10 : Int) ^ (30 : Int).toNat = big at b30 ⊢
  intro p5 hp5
  have k5 := Keep.alloc (M := Nil) (o := .lst [.int (-1), .int gs.length, .int (gs.length + 1 + z % 1000003), .bl true, .bl false, .non, .str "0", .ref p1, .ref p2, .ref p3, .int (-big)]) hp5
  have hx : ∃ v, atI [.int (-1), .int gs.length, .int (gs.length + 1 + z % 1000003), .bl true, .bl false, .non, .str "0", .ref p1, .ref p2, .ref p3, .int (-big)] (z / 7 % 11) = some v ∧ BadV H3 gs.length v := by
    have : z / 7 % 11 = 0 ∨ z / 7 % 11 = 1 ∨ z / 7 % 11 = 2 ∨ z / 7 % 11 = 3 ∨ z / 7 % 11 = 4 ∨ z / 7 % 11 = 5 ∨ z / 7 % 11 = 6 ∨ z / 7 % 11 = 7 ∨ z / 7 % 11 = 8 ∨ z / 7 % 11 = 9 ∨ z / 7 % 11 = 10 := by omega
    rcases this with e | e | e | e | e | e | e | e | e | e | e <;> rw [e]
    · exact ⟨_, rfl, .int (.inl (by decide))⟩
    · exact ⟨_, rfl, .int (.inr (by omega))⟩
    · exact ⟨_, rfl, .int (.inr (by omega))⟩
    · exact ⟨_, rfl, .bl _⟩
    · exact ⟨_, rfl, .bl _⟩
    · exact ⟨_, rfl, .non⟩
    · exact ⟨_, rfl, .str _⟩
    · exact ⟨_, rfl, .tup w1⟩
    · exact ⟨_, rfl, .lst w2⟩
    · exact ⟨_, rfl, .dic w3⟩
    · exact ⟨_, rfl, .int (.inl (by omega))⟩
  obtain ⟨v, hv, bv⟩ := hx
  (repeat kaf_suf)
  exact k _ v (k3.trans k5) (bv.keep k5)
theorem cal_law_bad {c : Cn} {mg : Str → Option Value} {base : Heap} (T : Txt c mg) : Cal c.P c.w c.K mg base CX0 2 "_law_bad" (sp_law_bad c) := by
  obtain ⟨f, fd, F, g, b⟩ := T.F_law_bad
  exact ⟨f, fd, ["book", "cell"], F.ok (k := 1) (N := N_law_bad) sc_law_bad (fun vs H Q E h => h.1) (fun cdv A outer s H vs Q E hr h => ⟨t_law_bad c, by
  exact (pss_cons (ps_set (i := 2) sc_law_bad.nd rfl (Or.inl rfl) (pe_lst (pa_cons (pe_un un_neg pe_int) (pa_cons (e_meth0 (met_Book_many T) hr (by decide) pass0 (pv 0)) (pa_cons (pe_op o_add (pe_op o_add (e_meth0 (met_Book_many T) hr (by decide) pass0 (pv 0)) pe_int) (pe_op o_mod (pv 1) pe_int)) (pa_cons pe_bl (pa_cons pe_bl (pa_cons pe_non (pa_cons pe_str (pa_cons (pe_tup (pa_cons pe_int pa_nil)) (pa_cons (pe_lst (pa_cons pe_int pa_nil)) (pa_cons pe_dnew (pa_cons (pe_un un_neg (pe_op o_pow pe_int pe_int)) pa_nil)))))))))))))
  (pss_one (ps_ret (pe_ix (x_ix (hu64 hr)) (pv 2) (pe_op o_mod (pe_op o_div (pv 1) pe_int) pe_int) (fun _ _ => rfl))))), p_law_bad T h⟩), g, F.kp, b⟩

/-! slices -/
theorem v_slA {K : PySem.W.Frag} {H : Hp} {Q : VK} {l : Addr} {xs : List V} {lo hi : Option Int} (h : H l = some (.tup xs)) (k : ∀ p H', H' p = some (.tup (cutV xs lo hi)) → Keep Nil H H' → Q (.ref p) H') : bSl K (.ref l) lo hi H Q :=
  .inr ⟨l, xs, rfl, SqT.of h, fun e => k l H (by
    have : cutV xs lo hi = xs := by unfold cutV; rw [e.1, e.2]; simp
    rw [this]; exact h) Keep.refl, fun _ p hp => k p _ upd_same (Keep.alloc hp)⟩
theorem cutV_take (xs : List V) (k : Nat) : cutV xs none (some (k : Int)) = xs.take k := by
  unfold cutV
  rw [HT.sIx_nat, HT.sIx_none]
  simp only [List.drop_zero, Nat.sub_zero]
  by_cases h : k ≤ xs.length
  · rw [Nat.min_eq_left h]
  · rw [Nat.min_eq_right (by omega), List.take_of_length_le (Nat.le_refl _), List.take_of_length_le (by omega)]
theorem cutV_drop (xs : List V) (k : Nat) : cutV xs (some (k : Int)) none = xs.drop k := by
  unfold cutV
  rw [HT.sIx_nat, HT.sIx_none]
  by_cases h : k ≤ xs.length
  · rw [Nat.min_eq_left h, List.take_of_length_le (by rw [List.length_drop]; omega)]
  · rw [Nat.min_eq_right (by omega), List.drop_of_length_le (Nat.le_refl _), List.drop_of_length_le (by omega), List.take_nil]

abbrev N_law_draws : List Str := ["script", "many", "drawn", "base", "k", "cell", "number", "one"]
theorem sc_law_draws : FnScope N_law_draws ["script", "many"] (defScope s_law_draws) := ⟨rfl, rfl, rfl, by decide +kernel, rfl, by decide +kernel, by decide +kernel⟩
def t_law_draws (c : Cn) : TS :=
  (tSeq (tAsg (tLst tNil) (gName 2))
  (tSeq (tAsg (tC (.int 7)) (gName 3))
  (tSeq (tFor (iEnum c.K (tCons (tSl (bSl c.K) (tVar 0) tNoPart (tPart (tC (.int 63)))) tNil)) (gSeq c.K 2 (gCons (gName 4) (gCons (gName 5) gNil)))
  (tSeq (tAsg (tCB kAbs (tCons (tVar 5) tNil)) (gName 6))
  (tSeq (tAsg (tOp bMod (tOp (bAdd c.K) (tOp bMul (tVar 3) (tC (.int 31))) (tVar 6)) (tC (.int 2147483629))) (gName 3))
  (tIfS (tTest (tOp cGe (tVar 6) (tOp bPow (tC (.int 10)) (tC (.int 18)))))
  (tWhile (tAnd (tTest (tOp cGt (tVar 6) (tC (.int 0)))) (tTest (tOp (cLt c.K) (tCB (kLen c.K) (tCons (tVar 2) tNil)) (tVar 1))))
  (tSeq (tDrop (tBM c.K "list" rAppend (tVar 2) (tCons (tOp bMod (tVar 6) (tC (.int 10007))) tNil)))
  (tAsg (tOp bDiv (tVar 6) (tC (.int 10007))) (gName 6))))
  (tSeq (tAsg (tOp bMod (tOp bMul (tOp (bAdd c.K) (tOp (bAdd c.K) (tOp bMod (tVar 6) (tC (.int 2147483647))) (tVar 4)) (tC (.int 1))) (tC (.int 48271))) (tC (.int 2147483647))) (gName 7))
  (tSeq (tAsg (tOp bMod (tOp bMul (tVar 7) (tVar 7)) (tC (.int 2147483629))) (gName 7))
  (tSeq (tDrop (tBM c.K "list" rAppend (tVar 2) (tCons (tOp bMod (tOp bDiv (tVar 7) (tC (.int 8))) (tC (.int 10007))) tNil)))
  (tSeq (tAsg (tOp bMod (tOp (bAdd c.K) (tOp (bAdd c.K) (tOp bMul (tVar 7) (tC (.int 40692))) (tOp bMul (tC (.int 2)) (tVar 4))) (tC (.int 1))) (tC (.int 2147483563))) (gName 7))
  (tSeq (tAsg (tOp bMod (tOp bMul (tVar 7) (tVar 7)) (tC (.int 2147483647))) (gName 7))
  (tDrop (tBM c.K "list" rAppend (tVar 2) (tCons (tOp bMod (tOp bDiv (tVar 7) (tC (.int 8))) (tC (.int 10007))) tNil))))))))))))
  (tSeq (tFor (iRng1 (tCons (tOp bSub (tVar 1) (tCB (kLen c.K) (tCons (tVar 2) tNil))) tNil)) (gName 4)
  (tSeq (tAsg (tOp bMod (tOp (bAdd c.K) (tOp (bAdd c.K) (tVar 3) (tOp bMul (tC (.int 7919)) (tVar 4))) (tC (.int 13))) (tC (.int 2147483629))) (gName 7))
  (tSeq (tAsg (tOp bMod (tOp bMul (tVar 7) (tVar 7)) (tC (.int 2147483647))) (gName 7))
  (tSeq (tAsg (tOp bMod (tOp (bAdd c.K) (tOp bMul (tVar 7) (tC (.int 69621))) (tVar 4)) (tC (.int 2147483563))) (gName 7))
  (tDrop (tBM c.K "list" rAppend (tVar 2) (tCons (tOp bMod (tOp bDiv (tOp bMod (tOp bMul (tVar 7) (tVar 7)) (tC (.int 2147483629))) (tC (.int 8))) (tC (.int 10007))) tNil)))))))
  (tRet (tVar 2))))))
def sp_law_draws (c : Cn) : Sp := fun vs H Q E => vs.length = 2 ∧ ∃ (a : Addr) (ns : List Int) (m : Int), vs = [.ref a, .int m] ∧ SqL c.K H a (ns.map V.int) ∧ ns.length ≤ 63 ∧ 0 ≤ m ∧ m ≤ 200 ∧
  ∀ (H' : Hp) (p : Addr) (ds : List Int), Keep Nil H H' → H p = none → H' p = some (.lst (ds.map V.int)) → (∀ z ∈ ds, 0 ≤ z ∧ z < 10007) → m ≤ ds.length → ds.length ≤ 500 → Q (.ref p) H'
theorem p_law_draws {c : Cn} {mg : Str → Option Value} (T : Txt c mg) {vs : List V} {H : Hp} {Q : VK} {E : XK} (h : sp_law_draws c vs H Q E) : t_law_draws c { nx := fun _ H' => Q .non H', rt := Q } (start N_law_draws vs) H := by
  obtain ⟨_, a, ns, m, rfl, hs, n63, m0, m200, k⟩ := h
  unfold t_law_draws
  repeat kaf_suf
  intro p hp
  repeat kaf_suf
  refine r_ienum ?_
  repeat kaf_suf
  have hs1 := seq_keep (Keep.alloc (M := Nil) (o := .lst []) hp) hs
  refine .inl ⟨a, ns.map V.int, rfl, hs1, fun q hq => ?_⟩
  have eq : cutV (ns.map V.int) none (some 63) = ns.map V.int := by
    rw [show (some (63 : Int)) = some ((63 : Nat) : Int) from rfl, cutV_take, List.take_of_length_le (by rw [List.length_map]; exact n63)]
  rw [eq]
  have kq : Keep Nil H (upd (upd H p (.lst [])) q (.lst (ns.map V.int))) := (Keep.alloc hp).new hq
  have ep : (upd (upd H p (.lst [])) q (.lst (ns.map V.int))) p = some (.lst []) := get_new hq upd_same
  have eq' : (upd (upd H p (.lst [])) q (.lst (ns.map V.int))) q = some (.lst (ns.map V.int)) := upd_same
  have npq : q ≠ p := ne_new hq upd_same
  generalize upd (upd H p (.lst [])) q (.lst (ns.map V.int)) = H1 at kq ep eq' ⊢
  clear hq hs1
  repeat kaf_suf
  refine ⟨q, _, rfl, SqL.of eq', ?_⟩
  refine for_it (walk_enum (xs := ns.map V.int)) (fun i σ H' => ∃ (x4 x5 x6 x7 : Option V) (ba : Int) (ds : List Int), σ = [some (.ref a), some (.int m), some (.ref p), some (.int ba), x4, x5, x6, x7] ∧ Keep Nil H H' ∧ H' p = some (.lst (ds.map V.int)) ∧ H' q = some (.lst (ns.map V.int)) ∧ (∀ z ∈ ds, 0 ≤ z ∧ z < 10007) ∧ ds.length ≤ m.toNat + 2 * i ∧ 0 ≤ ba ∧ ba < 2147483629) ⟨_, _, _, _, 7, [], rfl, kq, ep, eq', (fun _ h => by cases h), by simp, by omega, by omega⟩ ?_ ?_ ?_
  · rintro i σ H' _ ⟨_, _, _, _, _, _, _, _, _, h, _⟩; exact SqL.of h
  · rintro i x σ H2 H3 hi ⟨x4, x5, x6, x7, ba, ds, rfl, kk, e1, e2, dz, dl, b0, b1⟩ ⟨t, u, v, rfl, ht, rfl, eu, ev⟩
    cases eu
    have ev : (ns.map V.int)[i]? = some v := ev
    rw [List.getElem?_map] at ev
    obtain ⟨z, hz, rfl⟩ := Option.map_eq_some_iff.mp ev
    have i63 : i < 63 := by rw [List.length_map] at hi; omega
    have kt : Keep Nil H2 (upd H2 t (.tup [.int (i : Nat), .int z])) := Keep.alloc ht
    have et : (upd H2 t (.tup [.int (i : Nat), .int z])) t = some (.tup [.int (i : Nat), .int z]) := upd_same
    have e1' := kt.get (fun z => z) e1
    have e2' := kt.get (fun z => z) e2
    have kk' := kk.trans kt
    generalize upd H2 t (.tup [.int (i : Nat), .int z]) = H4 at et e1' e2' kk' ⊢
    clear ht kt e1 e2 kk
    refine r_seqT et rfl (r_gcons ?_)
    repeat kaf_suf
    refine r_gcons ?_
    repeat kaf_suf
    refine r_gnil ?_
    repeat kaf_suf
    have nu0 : 0 ≤ (if z < 0 then -z else z) := by split <;> omega
    generalize (if z < 0 then -z else z) = nu at nu0 ⊢
    have nb0 : 0 ≤ (ba * 31 + nu) % 2147483629 := by omega
    have nb1 : (ba * 31 + nu) % 2147483629 < 2147483629 := by omega
    generalize (ba * 31 + nu) % 2147483629 = ba' at nb0 nb1 ⊢
    refine r_ite (fun hge => ?_) (fun hge => ?_)
    · refine ⟨fun w σ H' => ∃ (nu : Int) (ds : List Int), σ = [some (.ref a), some (.int m), some (.ref p), some (.int ba'), some (.int (i : Nat)), some (.int z), some (.int nu), x7] ∧ Keep Nil H H' ∧ H' p = some (.lst (ds.map V.int)) ∧ H' q = some (.lst (ns.map V.int)) ∧ (∀ z ∈ ds, 0 ≤ z ∧ z < 10007) ∧ ds.length ≤ m.toNat + 2 * i ∧ 0 ≤ nu ∧ w = nu.toNat, ⟨_, nu, ds, rfl, kk', e1', e2', dz, dl, nu0, rfl⟩, ?_⟩
      rintro w σ H5 ⟨nu, ds, rfl, kk, e1, e2, dz, dl, nu0, rfl⟩
      clear e1' e2' kk'
      have lm : (ds.map V.int).length = ds.length := List.length_map _
      repeat kaf_suf
      refine r_ite (fun h1 => ?_) (fun h1 => ?_)
      · repeat kaf_suf
        refine r_ite (fun h2 => ?_) (fun h2 => ?_)
        · refine ⟨fun σ H' => ∃ w, w < nu.toNat ∧ ∃ (nu : Int) (ds : List Int), σ = [some (.ref a), some (.int m), some (.ref p), some (.int ba'), some (.int (i : Nat)), some (.int z), some (.int nu), x7] ∧ Keep Nil H H' ∧ H' p = some (.lst (ds.map V.int)) ∧ H' q = some (.lst (ns.map V.int)) ∧ (∀ z ∈ ds, 0 ≤ z ∧ z < 10007) ∧ ds.length ≤ m.toNat + 2 * i ∧ 0 ≤ nu ∧ w = nu.toNat, fun σ' H' ⟨w, l, h⟩ => ⟨w, l, h⟩, ?_⟩
          have pne : q ≠ p := npq
          repeat kaf_suf
          refine ⟨(nu / 10007).toNat, by omega, nu / 10007, ds ++ [nu % 10007], rfl, kk.setN hp, by rw [upd_same, List.map_append]; rfl, get_set pne e2, fun y hy => ?_, by rw [List.length_append]; simp only [List.length_singleton]; omega, by omega, rfl⟩
          rcases List.mem_append.mp hy with h | h
          · exact dz y h
          · have := List.mem_singleton.mp h; omega
        · repeat kaf_suf
          exact ⟨_, _, _, _, ba', ds, rfl, kk, e1, e2, dz, by omega, nb0, nb1⟩
      · repeat kaf_suf
        exact ⟨_, _, _, _, ba', ds, rfl, kk, e1, e2, dz, by omega, nb0, nb1⟩
    · have lm : (ds.map V.int).length = ds.length := List.length_map _
      have pne : q ≠ p := npq
      have o0 : 0 ≤ (nu % 2147483647 + (i : Int) + 1) * 48271 % 2147483647 := by omega
      have o1 : (nu % 2147483647 + (i : Int) + 1) * 48271 % 2147483647 < 2147483647 := by omega
      repeat kaf_suf
      refine ⟨_, _, _, _, ba', ds ++ [_] ++ [_], rfl, (kk'.setN hp).setN hp, by rw [upd_same, List.map_append, List.map_append]; rfl, get_set pne (get_set pne e2'), fun y hy => ?_, by rw [List.length_append, List.length_append]; simp only [List.length_singleton]; omega, nb0, nb1⟩
      rcases List.mem_append.mp hy with h | h
      · rcases List.mem_append.mp h with h | h
        · exact dz y h
        · have := List.mem_singleton.mp h; omega
      · have := List.mem_singleton.mp h; omega
  · rintro σ H2 ⟨x4, x5, x6, x7, ba, ds, rfl, kk, e1, e2, dz, dl, b0, b1⟩
    have lm : (ds.map V.int).length = ds.length := List.length_map _
    rw [List.length_map] at dl
    repeat kaf_suf
    refine for_range (lo := 0) (n := (m - ((ds.map V.int).length : Int)).toNat) (fun j σ H' => ∃ (x4 x7 : Option V) (ds' : List Int), σ = [some (.ref a), some (.int m), some (.ref p), some (.int ba), x4, x5, x6, x7] ∧ Keep Nil H H' ∧ H' p = some (.lst (ds'.map V.int)) ∧ (∀ z ∈ ds', 0 ≤ z ∧ z < 10007) ∧ ds'.length = ds.length + j) ⟨_, _, ds, rfl, kk, e1, dz, rfl⟩ ?_ ?_
    · rintro j σ H3 hj ⟨y4, y7, ds', rfl, kk', e1', dz', dl'⟩
      have j2 : j ≤ 200 := by omega
      repeat kaf_suf
      refine ⟨_, _, ds' ++ [_], rfl, kk'.setN hp, by rw [upd_same, List.map_append]; rfl, fun w hw => ?_, by rw [List.length_append, dl']; rfl⟩
      rcases List.mem_append.mp hw with h | h
      · exact dz' w h
      · have := List.mem_singleton.mp h
        omega
    · rintro σ H3 ⟨y4, y7, ds', rfl, kk', e1', dz', dl'⟩
      repeat kaf_suf
      exact k _ p ds' kk' hp e1' dz' (by omega) (by omega)
theorem cal_law_draws {c : Cn} {mg : Str → Option Value} {base : Heap} (T : Txt c mg) : Cal c.P c.w c.K mg base CX0 1 "_law_draws" (sp_law_draws c) := by
  obtain ⟨f, fd, F, g, b⟩ := T.F_law_draws
  exact ⟨f, fd, ["script", "many"], F.ok (k := 0) (N := N_law_draws) sc_law_draws (fun vs H Q E h => h.1) (fun cdv A outer s H vs Q E hr h => ⟨t_law_draws c, by
  exact (pss_cons (ps_set (i := 2) sc_law_draws.nd rfl (Or.inl rfl) (pe_lst pa_nil))
  (pss_cons (ps_set (i := 3) sc_law_draws.nd rfl (Or.inl rfl) pe_int)
  (pss_cons (ps_for PassesOwn.never rfl (pi_enum rfl T.n_enumerate (pa_cons (pe_slice s_sl (pv 0) po_none (po_some pe_int)) pa_nil)) (g_seq rfl (pgs_cons (pg_name (i := 4) sc_law_draws.nd rfl (Or.inl rfl)) (pgs_cons (pg_name (i := 5) sc_law_draws.nd rfl (Or.inl rfl)) pgs_nil)))
  (pss_cons (ps_set (i := 6) sc_law_draws.nd rfl (Or.inl rfl) (pe_callB k_abs (by rfl) T.n_abs (by decide +kernel) (pa_cons (pv 5) pa_nil)))
  (pss_cons (ps_set (i := 3) sc_law_draws.nd rfl (Or.inl rfl) (pe_op o_mod (pe_op o_add (pe_op o_mul (pv 3) pe_int) (pv 6)) pe_int))
  (pss_one (ps_if (pt_cmpR o_ge (pv 6) (pe_op o_pow pe_int pe_int) (nomark _)) (pss_one (ps_while PassesOwn.never (PW.pt (pw_and (pt_cmpR o_gt (pv 6) pe_int (nomark _)) (pw_and1 (pt_cmpR (o_lt (hu64 hr)) (pe_callB k_len (by rfl) T.n_len (by decide +kernel) (pa_cons (pv 2) pa_nil)) (pv 1) (nomark _)))))
  (pss_cons (ps_expr (pe_bm PySem.F.plainAttrs_list PySem.F.slot_list_append PySem.F.type_list_append mt_append (pv 2) (pa_cons (pe_op o_mod (pv 6) pe_int) pa_nil)))
  (pss_one (ps_set (i := 6) sc_law_draws.nd rfl (Or.inl rfl) (pe_op o_div (pv 6) pe_int)))))) (pss_cons (ps_set (i := 7) sc_law_draws.nd rfl (Or.inl rfl) (pe_op o_mod (pe_op o_mul (pe_op o_add (pe_op o_add (pe_op o_mod (pv 6) pe_int) (pv 4)) pe_int) pe_int) pe_int))
  (pss_cons (ps_set (i := 7) sc_law_draws.nd rfl (Or.inl rfl) (pe_op o_mod (pe_op o_mul (pv 7) (pv 7)) pe_int))
  (pss_cons (ps_expr (pe_bm PySem.F.plainAttrs_list PySem.F.slot_list_append PySem.F.type_list_append mt_append (pv 2) (pa_cons (pe_op o_mod (pe_op o_div (pv 7) pe_int) pe_int) pa_nil)))
  (pss_cons (ps_set (i := 7) sc_law_draws.nd rfl (Or.inl rfl) (pe_op o_mod (pe_op o_add (pe_op o_add (pe_op o_mul (pv 7) pe_int) (pe_op o_mul pe_int (pv 4))) pe_int) pe_int))
  (pss_cons (ps_set (i := 7) sc_law_draws.nd rfl (Or.inl rfl) (pe_op o_mod (pe_op o_mul (pv 7) (pv 7)) pe_int))
  (pss_one (ps_expr (pe_bm PySem.F.plainAttrs_list PySem.F.slot_list_append PySem.F.type_list_append mt_append (pv 2) (pa_cons (pe_op o_mod (pe_op o_div (pv 7) pe_int) pe_int) pa_nil))))))))))))))
  (pss_cons (ps_for PassesOwn.never rfl (pi_range1 rfl T.n_range (pa_cons (pe_op o_sub (pv 1) (pe_callB k_len (by rfl) T.n_len (by decide +kernel) (pa_cons (pv 2) pa_nil))) pa_nil)) (pg_name (i := 4) sc_law_draws.nd rfl (Or.inl rfl))
  (pss_cons (ps_set (i := 7) sc_law_draws.nd rfl (Or.inl rfl) (pe_op o_mod (pe_op o_add (pe_op o_add (pv 3) (pe_op o_mul pe_int (pv 4))) pe_int) pe_int))
  (pss_cons (ps_set (i := 7) sc_law_draws.nd rfl (Or.inl rfl) (pe_op o_mod (pe_op o_mul (pv 7) (pv 7)) pe_int))
  (pss_cons (ps_set (i := 7) sc_law_draws.nd rfl (Or.inl rfl) (pe_op o_mod (pe_op o_add (pe_op o_mul (pv 7) pe_int) (pv 4)) pe_int))
  (pss_one (ps_expr (pe_bm PySem.F.plainAttrs_list PySem.F.slot_list_append PySem.F.type_list_append mt_append (pv 2) (pa_cons (pe_op o_mod (pe_op o_div (pe_op o_mod (pe_op o_mul (pv 7) (pv 7)) pe_int) pe_int) pe_int) pa_nil))))))))
  (pss_one (ps_ret (pv 2))))))), p_law_draws T h⟩), g, F.kp, b⟩

/-- what is picked, and what is left of the number -/
def pkS (os : List Int) (x : Int) : Nat → Int × List Int
  | 0 => (x / 6, [])
  | i + 1 => ((pkS os x i).1 / (os.length : Int), (pkS os x i).2 ++ [os.getD ((os.length : Int) - 1 - (pkS os x i).1 % (os.length : Int)).toNat 0])
def pkM (x : Int) : Nat := [0, 1, 1, 2, 2, 3].getD (x % 6).toNat 0
def pkd (x : Int) (os : List Int) : List Int := (pkS os x (pkM x)).2
abbrev N_law_picked : List Str := ["x", "order", "some", "many", "k"]
theorem sc_law_picked : FnScope N_law_picked ["x", "order"] (defScope s_law_picked) := ⟨rfl, rfl, rfl, by decide +kernel, rfl, by decide +kernel, by decide +kernel⟩
def t_law_picked (c : Cn) : TS :=
  (tSeq (tAsg (tLst tNil) (gName 2))
  (tSeq (tAsg (tOp (bIx c.P c.w c.K) (tLst (tCons (tC (.int 0)) (tCons (tC (.int 1)) (tCons (tC (.int 1)) (tCons (tC (.int 2)) (tCons (tC (.int 2)) (tCons (tC (.int 3)) tNil))))))) (tOp bMod (tVar 0) (tC (.int 6)))) (gName 3))
  (tSeq (tAsg (tOp bDiv (tVar 0) (tC (.int 6))) (gName 0))
  (tSeq (tFor (iRng1 (tCons (tVar 3) tNil)) (gName 4)
  (tSeq (tDrop (tBM c.K "list" rAppend (tVar 2) (tCons (tOp (bIx c.P c.w c.K) (tVar 1) (tOp bSub (tOp bSub (tCB (kLen c.K) (tCons (tVar 1) tNil)) (tC (.int 1))) (tOp bMod (tVar 0) (tCB (kLen c.K) (tCons (tVar 1) tNil))))) tNil)))
  (tAsg (tOp bDiv (tVar 0) (tCB (kLen c.K) (tCons (tVar 1) tNil))) (gName 0))))
  (tRet (tVar 2))))))
def sp_law_picked (c : Cn) : Sp := fun vs H Q E => vs.length = 2 ∧ ∃ (o : Addr) (os : List Int) (x : Int), vs = [.int x, .ref o] ∧ H o = some (.lst (os.map V.int)) ∧ 0 ≤ x ∧ 0 < os.length ∧ os.length ≤ 1000 ∧
  ∀ (H' : Hp) (p : Addr), Keep Nil H H' → H p = none → H' p = some (.lst ((pkd x os).map V.int)) → (∀ z ∈ pkd x os, z ∈ os) → (pkd x os).length ≤ 3 → Q (.ref p) H'
theorem p_law_picked {c : Cn} {mg : Str → Option Value} (T : Txt c mg) {vs : List V} {H : Hp} {Q : VK} {E : XK} (h : sp_law_picked c vs H Q E) : t_law_picked c { nx := fun _ H' => Q .non H', rt := Q } (start N_law_picked vs) H := by
  obtain ⟨_, o, os, x, rfl, ho, x0, o0, o1, k⟩ := h
  unfold t_law_picked
  repeat kaf_suf
  intro p hp
  repeat kaf_suf
  intro q hq
  repeat kaf_suf
  obtain ⟨w, hw, w0, w3, wM⟩ : ∃ w : Int, atI [V.int 0, V.int 1, V.int 1, V.int 2, V.int 2, V.int 3] (x % 6) = some (V.int w) ∧ 0 ≤ w ∧ w ≤ 3 ∧ w = (pkM x : Int) := by
    have h0 : 0 ≤ x % 6 := by omega
    have h1 : x % 6 < 6 := by omega
    unfold pkM
    generalize x % 6 = r at h0 h1
    have : r = 0 ∨ r = 1 ∨ r = 2 ∨ r = 3 ∨ r = 4 ∨ r = 5 := by omega
    rcases this with rfl | rfl | rfl | rfl | rfl | rfl
    · exact ⟨0, rfl, by omega, by omega, rfl⟩
    · exact ⟨1, rfl, by omega, by omega, rfl⟩
    · exact ⟨1, rfl, by omega, by omega, rfl⟩
    · exact ⟨2, rfl, by omega, by omega, rfl⟩
    · exact ⟨2, rfl, by omega, by omega, rfl⟩
    · exact ⟨3, rfl, by omega, by omega, rfl⟩
  repeat kaf_suf
  refine for_range (lo := 0) (n := w.toNat) (fun i σ H' => ∃ (x4 : Option V) (y : Int) (ls : List Int), σ = [some (.int y), some (.ref o), some (.ref p), some (.int w), x4] ∧ 0 ≤ y ∧ Keep Nil H H' ∧ H' p = some (.lst (ls.map V.int)) ∧ (∀ z ∈ ls, z ∈ os) ∧ ls.length ≤ i ∧ pkS os x i = (y, ls)) ⟨_, _, [], rfl, by omega, (Keep.alloc hp).new hq, get_new hq upd_same, (fun _ h => by cases h), Nat.zero_le _, rfl⟩ ?_ ?_
  · rintro i σ H1 hi ⟨x4, y, ls, rfl, y0, kk, e1, lo, ll, eS⟩
    have ho1 := kk.get (fun z => z) ho
    have lm : (os.map V.int).length = os.length := List.length_map _
    have r0 : 0 ≤ y % (os.length : Int) := Int.emod_nonneg _ (by omega)
    have r1 : y % (os.length : Int) < os.length := Int.emod_lt_of_pos _ (by omega)
    repeat kaf_suf
    rw [lm]
    obtain ⟨v, hv⟩ : ∃ v, os[((os.length : Int) - 1 - y % (os.length : Int)).toNat]? = some v := ⟨_, List.getElem?_eq_getElem (by omega)⟩
    have hx : atI (os.map V.int) ((os.length : Int) - 1 - y % (os.length : Int)) = some (V.int v) := atI_get (n := ((os.length : Int) - 1 - y % (os.length : Int)).toNat) (by rw [List.getElem?_map, hv]; rfl) (by omega)
    repeat kaf_suf
    refine ⟨_, _, ls ++ [v], rfl, Int.ediv_nonneg y0 (by omega), kk.setN hp, by rw [upd_same, List.map_append]; rfl, fun z hz => ?_, by rw [List.length_append]; simp only [List.length_singleton]; omega, by rw [pkS, eS]; simp only; rw [List.getD_eq_getElem?_getD, hv, lm]; rfl⟩
    rcases List.mem_append.mp hz with h | h
    · exact lo z h
    · cases List.mem_singleton.mp h; exact List.mem_of_getElem? hv
  · rintro σ H1 ⟨x4, y, ls, rfl, y0, kk, e1, lo, ll, eS⟩
    repeat kaf_suf
    have eP : pkd x os = ls := by
      unfold pkd
      rw [show pkM x = w.toNat by omega, eS]
    rw [← eP] at e1 lo ll
    exact k _ p kk hp e1 lo (by omega)
theorem cal_law_picked {c : Cn} {mg : Str → Option Value} {base : Heap} (T : Txt c mg) : Cal c.P c.w c.K mg base CX0 1 "_law_picked" (sp_law_picked c) := by
  obtain ⟨f, fd, F, g, b⟩ := T.F_law_picked
  exact ⟨f, fd, ["x", "order"], F.ok (k := 0) (N := N_law_picked) sc_law_picked (fun vs H Q E h => h.1) (fun cdv A outer s H vs Q E hr h => ⟨t_law_picked c, by
  exact (pss_cons (ps_set (i := 2) sc_law_picked.nd rfl (Or.inl rfl) (pe_lst pa_nil))
  (pss_cons (ps_set (i := 3) sc_law_picked.nd rfl (Or.inl rfl) (pe_ix (x_ix (hu64 hr)) (pe_lst (pa_cons pe_int (pa_cons pe_int (pa_cons pe_int (pa_cons pe_int (pa_cons pe_int (pa_cons pe_int pa_nil))))))) (pe_op o_mod (pv 0) pe_int) (fun _ _ => rfl)))
  (pss_cons (ps_set (i := 0) sc_law_picked.nd rfl (Or.inl rfl) (pe_op o_div (pv 0) pe_int))
  (pss_cons (ps_for PassesOwn.never rfl (pi_range1 rfl T.n_range (pa_cons (pv 3) pa_nil)) (pg_name (i := 4) sc_law_picked.nd rfl (Or.inl rfl))
  (pss_cons (ps_expr (pe_bm PySem.F.plainAttrs_list PySem.F.slot_list_append PySem.F.type_list_append mt_append (pv 2) (pa_cons (pe_ix (x_ix (hu64 hr)) (pv 1) (pe_op o_sub (pe_op o_sub (pe_callB k_len (by rfl) T.n_len (by decide +kernel) (pa_cons (pv 1) pa_nil)) pe_int) (pe_op o_mod (pv 0) (pe_callB k_len (by rfl) T.n_len (by decide +kernel) (pa_cons (pv 1) pa_nil)))) (fun _ _ => rfl)) pa_nil)))
  (pss_one (ps_set (i := 0) sc_law_picked.nd rfl (Or.inl rfl) (pe_op o_div (pv 0) (pe_callB k_len (by rfl) T.n_len (by decide +kernel) (pa_cons (pv 1) pa_nil)))))))
  (pss_one (ps_ret (pv 2))))))), p_law_picked T h⟩), g, F.kp, b⟩

theorem inV_int {z : Int} (os : List Int) : inV (.int z) (os.map V.int) = decide (z ∈ os) := by
  unfold inV
  rw [List.any_map]
  by_cases h : z ∈ os
  · rw [decide_eq_true h]
    exact List.any_eq_true.mpr ⟨z, h, by simp [Function.comp, eqV]⟩
  · rw [decide_eq_false h]
    exact List.any_eq_false.mpr fun y hy => by
      simp only [Function.comp, eqV, beq_iff_eq]
      exact fun e => h (e ▸ hy)
theorem flat_ints : ∀ os : List Int, (os.map V.int).all flatV = true
  | [] => rfl
  | x :: r => by rw [List.map_cons, List.all_cons, flat_ints r]; rfl
theorem v_ninL {P : Program} {w : World} {K : PySem.W.Frag} {H : Hp} {Q : VK} {l : Addr} {os : List Int} {z : Int} (h : H l = some (.lst (os.map V.int))) (q : Q (.bl (!decide (z ∈ os))) H) : cNotIn P w K (.int z) (.ref l) H Q :=
  .inl ⟨l, os.map V.int, rfl, .inl (SqL.of h), rfl, flat_ints os, by rw [if_pos rfl, inV_int]; exact q⟩
def nums (n : Nat) : List Int := (List.range n).map Int.ofNat
theorem nums_mem {n : Nat} {z : Int} : z ∈ nums n ↔ 0 ≤ z ∧ z < n := by
  unfold nums
  rw [List.mem_map]
  constructor
  · rintro ⟨i, hi, rfl⟩
    have := List.mem_range.mp hi
    exact ⟨Int.natCast_nonneg _, by show (i : Int) < n; omega⟩
  · rintro ⟨h1, h2⟩
    exact ⟨z.toNat, List.mem_range.mpr (by omega), by show ((z.toNat : Nat) : Int) = z; omega⟩
theorem nums_len {n : Nat} : (nums n).length = n := by unfold nums; rw [List.length_map, List.length_range]
theorem nums_succ {n : Nat} : nums (n + 1) = nums n ++ [(n : Int)] := by unfold nums; rw [List.range_succ, List.map_append]; rfl
theorem nums_get {n i : Nat} (h : i < n) : (nums n)[i]? = some (i : Int) := by
  unfold nums
  rw [List.getElem?_map, List.getElem?_range h]; rfl
/-- what was not there -/
def Old (H : Hp) : Addr → Prop := fun x => H x ≠ none
/-- the games put, one by one -/
def dat (ds : List Int) (i : Int) : Int := ds.getD i.toNat 0
def gsF (ds : List Int) (sp : Int) : Nat → List Gm
  | 0 => [([], [])]
  | i + 1 => addG (gsF ds sp i) (canon (pkd (dat ds (sp + 3 * (i : Int) + 0)) (nums (gsF ds sp i).length)),
      canon (if dat ds (sp + 3 * (i : Int) + 2) % 5 = 0 then pkd (dat ds (sp + 3 * (i : Int) + 0)) (nums (gsF ds sp i).length) else pkd (dat ds (sp + 3 * (i : Int) + 1)) (nums (gsF ds sp i).length)))
abbrev N_law_games : List Str := ["book", "d", "spot", "many", "moves", "order", "k", "lefts", "rights", "g"]
theorem sc_law_games : FnScope N_law_games ["book", "d", "spot", "many"] (defScope s_law_games) := ⟨rfl, rfl, rfl, by decide +kernel, rfl, by decide +kernel, by decide +kernel⟩
def t_law_games (c : Cn) : TS :=
  (tSeq (tAsg (tDisp (((tC (.int 0)), (tTup (tCons (tLst tNil) (tCons (tLst tNil) tNil)))) :: [])) (gName 4))
  (tSeq (tAsg (tLst (tCons (tC (.int 0)) tNil)) (gName 5))
  (tSeq (tFor (iRng1 (tCons (tVar 3) tNil)) (gName 6)
  (tSeq (tAsg (tCall (sp_law_picked c) [] E0 (tCons (tOp (bIx c.P c.w c.K) (tVar 1) (tOp (bAdd c.K) (tVar 2) (tOp bMul (tC (.int 3)) (tVar 6)))) (tCons (tVar 5) tNil))) (gName 7))
  (tSeq (tAsg (tCall (sp_law_picked c) [] E0 (tCons (tOp (bIx c.P c.w c.K) (tVar 1) (tOp (bAdd c.K) (tOp (bAdd c.K) (tVar 2) (tOp bMul (tC (.int 3)) (tVar 6))) (tC (.int 1)))) (tCons (tVar 5) tNil))) (gName 8))
  (C8.tCut (tIfS (tTest (tOp (cEq c.K) (tOp bMod (tOp (bIx c.P c.w c.K) (tVar 1) (tOp (bAdd c.K) (tOp (bAdd c.K) (tVar 2) (tOp bMul (tC (.int 3)) (tVar 6))) (tC (.int 2)))) (tC (.int 5))) (tC (.int 0))))
  (tAsg (tCB (kList c.K) (tCons (tVar 7) tNil)) (gName 8))
  tNext)
  (tSeq (tAsg (tMeth c.cBook "game" (sp_Book_game c) [] E0 (tVar 0) (tCons (tVar 7) (tCons (tVar 8) tNil))) (gName 9))
  (tSeq (tAsg (tTup (tCons (tCB (kSorted c.K c.w) (tCons (tCB (uSetI c.K c.w) (tCons (tVar 7) tNil)) tNil)) (tCons (tCB (kSorted c.K c.w) (tCons (tCB (uSetI c.K c.w) (tCons (tVar 8) tNil)) tNil)) tNil))) (gSub (tVar 4) (tVar 9) (bSet c.P c.w)))
  (tIfS (tTest (tOp (cNotIn c.P c.w c.K) (tVar 9) (tVar 5)))
  (tDrop (tBM c.K "list" rAppend (tVar 5) (tCons (tVar 9) tNil)))
  tNext)))))))
  (tRet (tTup (tCons (tVar 5) (tCons (tVar 4) tNil)))))))
def sp_law_games (c : Cn) : Sp := fun vs H Q E => vs.length = 4 ∧ ∃ (b d : Addr) (M : Addr → Prop) (ds : List Int) (sp m : Int), vs = [.ref b, .ref d, .int sp, .int m] ∧ BookAt c H b M [([], [])] [0] ∧ H d = some (.lst (ds.map V.int)) ∧ ¬ M d ∧ (∀ z ∈ ds, 0 ≤ z) ∧ 0 ≤ sp ∧ 0 ≤ m ∧ m ≤ 40 ∧ sp + 3 * m ≤ ds.length ∧ sp ≤ 1000 ∧
  ∀ (H' : Hp) (p od mv : Addr) (gs : List Gm) (e : List Int), Keep M H H' → H p = none → H' p = some (.tup [.ref od, .ref mv]) → gs = gsF ds sp m.toNat → BookAt c H' b M gs e → gs.length ≤ m.toNat + 1 → H od = none → H' od = some (.lst ((nums gs.length).map V.int)) → H mv = none → MvW (Old H) H' mv gs (· < gs.length) → Q (.ref p) H'
theorem p_law_games {c : Cn} {mg : Str → Option Value} (T : Txt c mg) {vs : List V} {H : Hp} {Q : VK} {E : XK} (h : sp_law_games c vs H Q E) : t_law_games c { nx := fun _ H' => Q .non H', rt := Q } (start N_law_games vs) H := by
  obtain ⟨_, b, d, M, ds, sp, m, rfl, B, hd, nd, ds0, sp0, m0, m40, spm, sp1, k⟩ := h
  unfold t_law_games
  repeat kaf_suf
  refine fun md hmd => ?_
  simp only [tPairs]
  repeat kaf_suf
  intro a1 ha1
  repeat kaf_suf
  intro a2 ha2
  repeat kaf_suf
  intro t ht
  repeat kaf_suf
  refine ⟨by kaf_pre, [(.inl 0, .ref t)], rfl, by simp, ?_⟩
  repeat kaf_suf
  intro od hod
  repeat kaf_suf
  have e0d : (upd (upd (upd (upd (upd (upd H md (.dK [])) a1 (.lst [])) a2 (.lst [])) t (.tup [.ref a1, .ref a2])) md (.dK (mergeK [] [(.inl 0, .ref t)]))) od (.lst [.int 0])) md = some (.dK [(.inl 0, .ref t)]) := get_new hod upd_same
  have e0o : (upd (upd (upd (upd (upd (upd H md (.dK [])) a1 (.lst [])) a2 (.lst [])) t (.tup [.ref a1, .ref a2])) md (.dK (mergeK [] [(.inl 0, .ref t)]))) od (.lst [.int 0])) od = some (.lst [.int 0]) := upd_same
  have n1m : a1 ≠ md := ne_new ha1 upd_same
  have n2m : a2 ≠ md := ne_new ha2 (get_new ha1 upd_same)
  have ntm : t ≠ md := ne_new ht (get_new ha2 (get_new ha1 upd_same))
  have e01 : (upd (upd (upd (upd (upd (upd H md (.dK [])) a1 (.lst [])) a2 (.lst [])) t (.tup [.ref a1, .ref a2])) md (.dK (mergeK [] [(.inl 0, .ref t)]))) od (.lst [.int 0])) a1 = some (.lst []) := get_new hod (get_set n1m (get_new ht (get_new ha2 upd_same)))
  have e02 : (upd (upd (upd (upd (upd (upd H md (.dK [])) a1 (.lst [])) a2 (.lst [])) t (.tup [.ref a1, .ref a2])) md (.dK (mergeK [] [(.inl 0, .ref t)]))) od (.lst [.int 0])) a2 = some (.lst []) := get_new hod (get_set n2m (get_new ht upd_same))
  have e0t : (upd (upd (upd (upd (upd (upd H md (.dK [])) a1 (.lst [])) a2 (.lst [])) t (.tup [.ref a1, .ref a2])) md (.dK (mergeK [] [(.inl 0, .ref t)]))) od (.lst [.int 0])) t = some (.tup [.ref a1, .ref a2]) := get_new hod (get_set ntm upd_same)
  have o1 : a1 ≠ od := ne_old hod (get_set n1m (get_new ht (get_new ha2 upd_same)))
  have o2 : a2 ≠ od := ne_old hod (get_set n2m (get_new ht upd_same))
  have ot : t ≠ od := ne_old hod (get_set ntm upd_same)
  have dmo : md ≠ od := ne_old hod upd_same
  have ha10 : H a1 = none := none_of_upd ha1
  have ha20 : H a2 = none := none_of_upd (none_of_upd ha2)
  have ht0 : H t = none := none_of_upd (none_of_upd (none_of_upd ht))
  have hod0 : H od = none := none_of_upd (none_of_upd (none_of_upd (none_of_upd (none_of_upd hod))))
  have k0 : Keep Nil H (upd (upd (upd (upd (upd (upd H md (.dK [])) a1 (.lst [])) a2 (.lst [])) t (.tup [.ref a1, .ref a2])) md (.dK (mergeK [] [(.inl 0, .ref t)]))) od (.lst [.int 0])) := (((((Keep.alloc hmd).new ha1).new ha2).new ht).setN hmd).new hod
  generalize upd (upd (upd (upd (upd (upd H md (.dK [])) a1 (.lst [])) a2 (.lst [])) t (.tup [.ref a1, .ref a2])) md (.dK (mergeK [] [(.inl 0, .ref t)]))) od (.lst [.int 0]) = H0 at e0d e0o e01 e02 e0t k0 ⊢
  clear hod ha1 ha2 ht
  have Mod : ¬ M od := B.new hod0
  have Mmd : ¬ M md := B.new hmd
  have MO : ∀ x, M x → Old H x := fun x h z => B.new z h
  have oh : ∀ {x}, H x = none → ¬ Old H x := fun h z => z h
  have r0 : RowAt (fun x => Old H x ∨ x = od ∨ x = md) H0 t ([], []) := ⟨a1, a2, e0t, e01, e02, fun z => z.elim (oh ht0) fun z => z.elim ot ntm, fun z => z.elim (oh ha10) fun z => z.elim o1 n1m, fun z => z.elim (oh ha20) fun z => z.elim o2 n2m⟩
  refine for_range (lo := 0) (n := m.toNat) (fun i σ H' => ∃ (x6 x7 x8 x9 : Option V) (gs : List Gm) (e : List Int) (kvs : List KX), σ = [some (.ref b), some (.ref d), some (.int sp), some (.int m), some (.ref md), some (.ref od), x6, x7, x8, x9] ∧ Keep M H H' ∧ gs = gsF ds sp i ∧ BookAt c H' b M gs e ∧ gs.length ≤ i + 1 ∧ H' od = some (.lst ((nums gs.length).map V.int)) ∧ H' md = some (.dK kvs) ∧ kvs.length ≤ i + 1 ∧
    ∀ g, g < gs.length → ∃ gm t, gs[g]? = some gm ∧ valV kvs (.inl (g : Int)) = some (.ref t) ∧ RowAt (fun x => Old H x ∨ x = od ∨ x = md) H' t gm) ⟨_, _, _, _, [([], [])], [0], _, rfl, k0.weak, rfl, B.same k0, by simp, e0o, e0d, by simp, fun g hg => ?_⟩ ?_ ?_
  · simp only [List.length_singleton] at hg
    obtain rfl : g = 0 := by omega
    exact ⟨([], []), t, rfl, rfl, r0⟩
  · rintro i σ H1 hi ⟨x6, x7, x8, x9, gs, e, kvs, rfl, k1, eF, B1, gl, eo, em, kl, hk⟩
    clear e0d e0o e01 e02 e0t k0 r0
    have pos := B1.pos
    have gt : ∀ j : Int, 0 ≤ j → j ≤ 2 → ∃ z, atI (ds.map V.int) (sp + 3 * (0 + (i : Int)) + j) = some (.int z) ∧ 0 ≤ z ∧ z = dat ds (sp + 3 * (i : Int) + j) := fun j j0 j2 => by
      obtain ⟨z, hz⟩ : ∃ z, ds[(sp + 3 * (i : Int) + j).toNat]? = some z := ⟨_, List.getElem?_eq_getElem (by omega)⟩
      exact ⟨z, atI_get (n := (sp + 3 * (i : Int) + j).toNat) (by rw [List.getElem?_map, hz]; rfl) (by omega), ds0 z (List.mem_of_getElem? hz), by unfold dat; rw [List.getD_eq_getElem?_getD, hz]; rfl⟩
    obtain ⟨z0, hz0, z00, zD0⟩ := gt 0 (by omega) (by omega)
    obtain ⟨z1, hz1, z10, zD1⟩ := gt 1 (by omega) (by omega)
    obtain ⟨z2, hz2, z20, zD2⟩ := gt 2 (by omega) (by omega)
    rw [Int.add_zero] at hz0
    have ed := k1 _ _ nd hd
    repeat kaf_suf
    refine ⟨rfl, od, nums gs.length, z0, rfl, eo, z00, by rw [nums_len]; exact pos, by rw [nums_len]; omega, fun H2 p1 k2 hp1 ep1 lm ll => ?_⟩
    generalize hls : pkd z0 (nums gs.length) = ls at ep1 lm ll
    have np1 : ¬ M p1 := B1.new hp1
    have ed2 := k2.get (fun z => z) ed
    have eo2 := k2.get (fun z => z) eo
    have B2 := B1.same k2
    repeat kaf_suf
    refine ⟨rfl, od, nums gs.length, z1, rfl, eo2, z10, by rw [nums_len]; exact pos, by rw [nums_len]; omega, fun H3 p2 k3 hp2 ep2 rm rl => ?_⟩
    generalize hrs : pkd z1 (nums gs.length) = rs at ep2 rm rl
    have np2 : ¬ M p2 := B2.new hp2
    have ed3 := k3.get (fun z => z) ed2
    have ep13 := k3.get (fun z => z) ep1
    have k13 := k2.trans k3
    clear k2 k3 ed ed2 eo2 ep1 B2 hp1 hp2
    repeat kaf_suf
    refine ⟨fun σ' H' => ∃ (r : Addr) (rs : List Int), σ' = [some (.ref b), some (.ref d), some (.int sp), some (.int m), some (.ref md), some (.ref od), some (.int (0 + i)), some (.ref p1), some (.ref r), x9] ∧ Keep Nil H1 H' ∧ H' p1 = some (.lst (ls.map V.int)) ∧ H' r = some (.lst (rs.map V.int)) ∧ ¬ M r ∧ (∀ z ∈ rs, z ∈ nums gs.length) ∧ rs.length ≤ 3 ∧ rs = if z2 % 5 = 0 then pkd z0 (nums gs.length) else pkd z1 (nums gs.length), ?_, ?_⟩
    · repeat kaf_suf
      refine r_ite (fun h => ?_) (fun h => ?_)
      · repeat kaf_suf
        intro q hq
        have kq : Keep Nil H3 (upd H3 q (.lst (ls.map V.int))) := Keep.alloc hq
        repeat kaf_suf
        exact ⟨q, ls, rfl, k13.trans kq, kq.get (fun z => z) ep13, upd_same, (B1.same k13).new hq, lm, ll, by rw [if_pos h, hls]⟩
      · repeat kaf_suf
        exact ⟨p2, rs, rfl, k13, ep13, ep2, np2, rm, rl, by rw [if_neg h, hrs]⟩
    rintro σ H4 ⟨r, rs', rfl, k4, e1, e2, nr, rm', rl', hrs'⟩
    clear k13 ed3 ep13 ep2
    have B4 := B1.same k4
    have eo4 := k4.get (fun z => z) eo
    have em4 := k4.get (fun z => z) em
    obtain ⟨bx, bm, bn, bd, hb⟩ := B4.ins_
    repeat kaf_suf
    refine ⟨rfl, b, p1, r, M, gs, e, ls, rs', rfl, B4, e1, e2, np1, nr, by omega, by omega, by omega, fun z hz => ?_, fun H5 e5 k5 B5 => ?_⟩
    · rcases List.mem_append.mp hz with h | h
      · exact nums_mem.mp (lm z h)
      · exact nums_mem.mp (rm' z h)
    have e15 := k5 _ _ np1 e1
    have e25 := k5 _ _ nr e2
    have eo5 := k5 _ _ Mod eo4
    have em5 := k5 _ _ Mmd em4
    have kW : Keep (fun x => Old H x ∨ x = od ∨ x = md) H1 H5 := k4.weak.trans (k5.mono fun x h => .inl (MO x h))
    have kM5 : Keep M H H5 := k1.trans (k4.weak.trans k5)
    clear k5 e1 e2 eo4 em4 hb B4
    repeat kaf_suf
    intro s1 c1 hs1 hc1
    repeat kaf_suf
    intro u1 q1 uu1 um1 ul1 hq1
    repeat kaf_suf
    intro s2 c2 hs2 hc2
    repeat kaf_suf
    intro u2 q2 uu2 um2 ul2 hq2
    repeat kaf_suf
    intro t' ht'
    repeat kaf_suf
    obtain rfl : u1 = canon ls := canon_eq uu1 (by simpa using um1)
    obtain rfl : u2 = canon rs' := canon_eq uu2 (by simpa using um2)
    have k56 : Keep Nil H5 (upd (upd (upd (upd (upd H5 s1 (SetO c.w s1 (fun j => decide (j ∈ ls)) c1)) q1 (.lst ((canon ls).map V.int))) s2 (SetO c.w s2 (fun j => decide (j ∈ rs')) c2)) q2 (.lst ((canon rs').map V.int))) t' (.tup [.ref q1, .ref q2])) := ((((Keep.alloc hs1).new hq1).new hs2).new hq2).new ht'
    have nx : ∀ x, H5 x = none → ¬ M x ∧ ¬ Old H x := fun x h => ⟨B5.new h, fun z => z (keep_noneM kM5 (B5.new h) h)⟩
    have r7 : RowAt (fun x => Old H x ∨ x = od ∨ x = md) (upd (upd (upd (upd (upd H5 s1 (SetO c.w s1 (fun j => decide (j ∈ ls)) c1)) q1 (.lst ((canon ls).map V.int))) s2 (SetO c.w s2 (fun j => decide (j ∈ rs')) c2)) q2 (.lst ((canon rs').map V.int))) t' (.tup [.ref q1, .ref q2])) t' (canon ls, canon rs') := by
      have g1 := nx q1 (none_of_upd hq1)
      have g2 := nx q2 (none_of_upd (none_of_upd (none_of_upd hq2)))
      have g3 := nx t' (none_of_upd (none_of_upd (none_of_upd (none_of_upd ht'))))
      have wx : ∀ x, H5 x = none → x ≠ od ∧ x ≠ md := fun x h => ⟨(fun z => by rw [z, eo5] at h; cases h), (fun z => by rw [z, em5] at h; cases h)⟩
      have v1 := wx q1 (none_of_upd hq1)
      have v2 := wx q2 (none_of_upd (none_of_upd (none_of_upd hq2)))
      have v3 := wx t' (none_of_upd (none_of_upd (none_of_upd (none_of_upd ht'))))
      exact ⟨q1, q2, upd_same, get_new ht' (get_new hq2 (get_new hs2 upd_same)), get_new ht' upd_same, fun z => z.elim g3.2 fun z => z.elim v3.1 v3.2, fun z => z.elim g1.2 fun z => z.elim v1.1 v1.2, fun z => z.elim g2.2 fun z => z.elim v2.1 v2.2⟩
    have eo6 := k56.get (fun z => z) eo5
    have em6 := k56.get (fun z => z) em5
    have B6 := B5.same k56
    have kW6 := kW.trans k56.weak
    have kM6 := kM5.trans k56.weak
    generalize upd (upd (upd (upd (upd H5 s1 (SetO c.w s1 (fun j => decide (j ∈ ls)) c1)) q1 (.lst ((canon ls).map V.int))) s2 (SetO c.w s2 (fun j => decide (j ∈ rs')) c2)) q2 (.lst ((canon rs').map V.int))) t' (.tup [.ref q1, .ref q2]) = H6 at k56 r7 eo6 em6 B6 kW6 kM6 ⊢
    clear hs1 hq1 hs2 hq2 ht' uu1 um1 ul1 uu2 um2 ul2 kW kM5 k56 nx eo5 em5 e15 e25 B5
    refine v_setK em6 (few1 (by omega)) ?_
    have B7 := B6.keepY (N := fun x => x = md) (H' := upd H6 md (.dK (putK kvs (.inl ((ixG (addG gs (canon ls, canon rs')) (canon ls, canon rs') : Nat) : Int)) (.ref t')))) (Keep.refl.set rfl) (fun x e => by subst e; exact ⟨(fun l z => by rw [em6] at z; cases z), (fun _ _ l z => by rw [em6] at z; cases z)⟩) fun x h e => Mmd (e ▸ h)
    have em7 : (upd H6 md (.dK (putK kvs (.inl ((ixG (addG gs (canon ls, canon rs')) (canon ls, canon rs') : Nat) : Int)) (.ref t')))) md = some (.dK (putK kvs (.inl ((ixG (addG gs (canon ls, canon rs')) (canon ls, canon rs') : Nat) : Int)) (.ref t'))) := upd_same
    have eo7 := get_set (u := .dK (putK kvs (.inl ((ixG (addG gs (canon ls, canon rs')) (canon ls, canon rs') : Nat) : Int)) (.ref t'))) dmo.symm eo6
    have kW7 := kW6.set (M := fun x => Old H x ∨ x = od ∨ x = md) (o := .dK (putK kvs (.inl ((ixG (addG gs (canon ls, canon rs')) (canon ls, canon rs') : Nat) : Int)) (.ref t'))) (.inr (.inr rfl))
    have kM7 := kM6.setN (o := .dK (putK kvs (.inl ((ixG (addG gs (canon ls, canon rs')) (canon ls, canon rs') : Nat) : Int)) (.ref t'))) hmd
    have r77 : RowAt (fun x => Old H x ∨ x = od ∨ x = md) (upd H6 md (.dK (putK kvs (.inl ((ixG (addG gs (canon ls, canon rs')) (canon ls, canon rs') : Nat) : Int)) (.ref t')))) t' (canon ls, canon rs') := r7.keep (Keep.refl.set (.inr (.inr rfl)))
    generalize upd H6 md (.dK (putK kvs (.inl ((ixG (addG gs (canon ls, canon rs')) (canon ls, canon rs') : Nat) : Int)) (.ref t'))) = H7 at B7 em7 eo7 kW7 kM7 r77 ⊢
    clear r7 eo6 em6 B6 kW6 kM6
    have eF' : addG gs (canon ls, canon rs') = gsF ds sp (i + 1) := by
      rw [gsF, ← eF, ← zD0, ← zD1, ← zD2, hrs', ← hls]
    have gk := ixG_get (addG_mem gs (canon ls, canon rs'))
    have kl' := putK_len1 (kvs := kvs) (k := Sum.inl ((ixG (addG gs (canon ls, canon rs')) (canon ls, canon rs') : Nat) : Int)) (v := V.ref t')
    have rest : ∀ g, g < (addG gs (canon ls, canon rs')).length → (g < gs.length ∨ g = ixG (addG gs (canon ls, canon rs')) (canon ls, canon rs')) → ∃ gm t, (addG gs (canon ls, canon rs'))[g]? = some gm ∧ valV (putK kvs (.inl ((ixG (addG gs (canon ls, canon rs')) (canon ls, canon rs') : Nat) : Int)) (.ref t')) (.inl (g : Int)) = some (.ref t) ∧ RowAt (fun x => Old H x ∨ x = od ∨ x = md) H7 t gm := fun g hg hc => by
      rw [valV_put]
      split
      · rename_i e
        injection e with e
        obtain rfl : g = ixG (addG gs (canon ls, canon rs')) (canon ls, canon rs') := by omega
        exact ⟨_, t', gk, rfl, r77⟩
      · rename_i e
        rcases hc with hc | rfl
        · obtain ⟨gm, t, w1, w2, w3⟩ := hk g hc
          exact ⟨gm, t, addG_get w1, w2, w3.keep kW7⟩
        · exact absurd rfl e
    generalize hgi : ixG (addG gs (canon ls, canon rs')) (canon ls, canon rs') = gi at gk em7 kl' rest ⊢
    have gil := (List.getElem?_eq_some_iff.mp gk).1
    repeat kaf_suf
    refine v_ninL eo7 ?_
    by_cases hmem : (canon ls, canon rs') ∈ gs
    · have ea : addG gs (canon ls, canon rs') = gs := by unfold addG; rw [if_pos hmem]
      rw [ea] at gil B7 rest
      rw [decide_eq_true (nums_mem.mpr ⟨Int.natCast_nonneg gi, by omega⟩)]
      repeat kaf_suf
      exact ⟨_, _, _, _, gs, _, _, rfl, kM7, by rw [← eF', ea], B7, by omega, eo7, em7, by omega, fun g hg => rest g hg (.inl hg)⟩
    · have ea : addG gs (canon ls, canon rs') = gs ++ [(canon ls, canon rs')] := by unfold addG; rw [if_neg hmem]
      have gin : gi = gs.length := by
        rw [ea] at gk gil
        rw [List.length_append, List.length_singleton] at gil
        by_cases lt : gi < gs.length
        · rw [List.getElem?_append_left lt] at gk
          exact absurd (List.mem_of_getElem? gk) hmem
        · omega
      have nl : (gs ++ [(canon ls, canon rs')]).length = gs.length + 1 := by rw [List.length_append]; rfl
      rw [decide_eq_false (fun z => by have := nums_mem.mp z; omega)]
      have lm : (nums gs.length).length = gs.length := nums_len
      repeat kaf_suf
      refine ⟨_, _, _, _, addG gs (canon ls, canon rs'), _, _, rfl, kM7.setN hod0, eF', B7.keepY (N := fun x => x = od) (Keep.refl.set rfl) (fun x e => by subst e; exact ⟨(fun l z => by rw [eo7] at z; cases z), (fun _ _ l z => by rw [eo7] at z; cases z)⟩) fun x h e => Mod (e ▸ h), by rw [ea, nl]; omega, ?_, get_set dmo em7, by omega, fun g hg => ?_⟩
      · rw [ea, nl, nums_succ, List.map_append, upd_same, gin]; rfl
      · obtain ⟨gm, t, w1, w2, w3⟩ := rest g hg (by rw [ea, nl] at hg; omega)
        exact ⟨gm, t, w1, w2, w3.keep (Keep.refl.set (.inr (.inl rfl)))⟩
  · rintro σ H1 ⟨x6, x7, x8, x9, gs, e, kvs, rfl, k1, eF, B1, gl, eo, em, kl, hk⟩
    repeat kaf_suf
    intro p hp
    have kp : Keep Nil H1 (upd H1 p (.tup [.ref od, .ref md])) := Keep.alloc hp
    refine k _ p od md gs e (k1.trans kp.weak) (keep_noneM k1 (B1.new hp) hp) upd_same eF (B1.same kp) gl hod0 (kp.get (fun z => z) eo) hmd ⟨kvs, kp.get (fun z => z) em, fun g hg => ?_⟩
    obtain ⟨gm, t, q1, q2, q3⟩ := hk g hg
    exact ⟨gm, t, q1, q2, (q3.keep kp.weak).weak fun x h => .inl h⟩
theorem cal_law_games {c : Cn} {mg : Str → Option Value} {base : Heap} (T : Txt c mg) : Cal c.P c.w c.K mg base CX0 3 "_law_games" (sp_law_games c) := by
  obtain ⟨f, fd, F, g, b⟩ := T.F_law_games
  exact ⟨f, fd, ["book", "d", "spot", "many"], F.ok (k := 2) (N := N_law_games) sc_law_games (fun vs H Q E h => h.1) (fun cdv A outer s H vs Q E hr h => ⟨t_law_games c, by
  exact (pss_cons (ps_set (i := 4) sc_law_games.nd rfl (Or.inl rfl) (pe_disp (pps_cons pe_int (pe_tup (pa_cons (pe_lst pa_nil) (pa_cons (pe_lst pa_nil) pa_nil))) pps_nil) rfl rfl (by simp) (by decide)))
  (pss_cons (ps_set (i := 5) sc_law_games.nd rfl (Or.inl rfl) (pe_lst (pa_cons pe_int pa_nil)))
  (pss_cons (ps_for PassesOwn.never rfl (pi_range1 rfl T.n_range (pa_cons (pv 3) pa_nil)) (pg_name (i := 6) sc_law_games.nd rfl (Or.inl rfl))
  (pss_cons (ps_set (i := 7) sc_law_games.nd rfl (Or.inl rfl) (e_call (cal_law_picked T) hr (by decide) pass0 rfl (pa_cons (pe_ix (x_ix (hu64 hr)) (pv 1) (pe_op o_add (pv 2) (pe_op o_mul pe_int (pv 6))) (fun _ _ => rfl)) (pa_cons (pv 5) pa_nil))))
  (pss_cons (ps_set (i := 8) sc_law_games.nd rfl (Or.inl rfl) (e_call (cal_law_picked T) hr (by decide) pass0 rfl (pa_cons (pe_ix (x_ix (hu64 hr)) (pv 1) (pe_op o_add (pe_op o_add (pv 2) (pe_op o_mul pe_int (pv 6))) pe_int) (fun _ _ => rfl)) (pa_cons (pv 5) pa_nil))))
  (C8.pss_cut (ps_if (pt_cmpR (o_eq (hu64 hr)) (pe_op o_mod (pe_ix (x_ix (hu64 hr)) (pv 1) (pe_op o_add (pe_op o_add (pv 2) (pe_op o_mul pe_int (pv 6))) pe_int) (fun _ _ => rfl)) pe_int) pe_int (nomark _)) (pss_one (ps_set (i := 8) sc_law_games.nd rfl (Or.inl rfl) (pe_callTy (k_list rfl) (by rfl) T.n_list (by decide +kernel) (pa_cons (pv 7) pa_nil)))) pss_nil)
  (pss_cons (ps_set (i := 9) sc_law_games.nd rfl (Or.inl rfl) (e_meth (met_Book_game T) hr (by decide) passL (pv 0) (pa_cons (pv 7) (pa_cons (pv 8) pa_nil))))
  (pss_cons (ps_asg (pe_tup (pa_cons (pe_callB (k_sorted rfl) (by rfl) T.n_sorted (by decide +kernel) (pa_cons (pe_callTy (k_set rfl) (by rfl) T.n_set (by decide +kernel) (pa_cons (pv 7) pa_nil)) pa_nil)) (pa_cons (pe_callB (k_sorted rfl) (by rfl) T.n_sorted (by decide +kernel) (pa_cons (pe_callTy (k_set rfl) (by rfl) T.n_set (by decide +kernel) (pa_cons (pv 8) pa_nil)) pa_nil)) pa_nil))) (pg_sub (pv 4) (pv 9) (s_set (hu64 hr))))
  (pss_one (ps_if (pt_cmpR (o_notin (hu65 hr)) (pv 9) (pv 5) (by rfl)) (pss_one (ps_expr (pe_bm PySem.F.plainAttrs_list PySem.F.slot_list_append PySem.F.type_list_append mt_append (pv 5) (pa_cons (pv 9) pa_nil)))) pss_nil))))))))
  (pss_one (ps_ret (pe_tup (pa_cons (pv 5) (pa_cons (pv 4) pa_nil)))))))), p_law_games T h⟩), g, F.kp, b⟩

/-! what a walk remembers: a dict of keys that tell their thing, with its right value -/
structure Memo {α : Type} (key : α → NestedKey) (val : α → V) (dom : List α) (xs : List NX) : Prop where
  nd : (xs.map (·.1)).Nodup
  at_ : ∀ x ∈ xs, ∃ a ∈ dom, x.1 = key a ∧ x.2.2 = val a
theorem Memo.nil {α : Type} {key : α → NestedKey} {val : α → V} {dom : List α} : Memo key val dom [] := ⟨List.nodup_nil, fun _ h => nomatch h⟩
theorem Memo.len {α : Type} {key : α → NestedKey} {val : α → V} {dom : List α} {xs : List NX} (k : Memo key val dom xs) : xs.length ≤ dom.length := by
  have := nodup_le (xs.map (·.1)) (dom.map key) k.nd fun x hx => by
    obtain ⟨y, hy, rfl⟩ := List.mem_map.mp hx
    obtain ⟨a, ha, e, _⟩ := k.at_ y hy
    rw [e]
    exact List.mem_map.mpr ⟨a, ha, rfl⟩
  simpa using this
theorem Memo.get {α : Type} {key : α → NestedKey} {val : α → V} {dom : List α} {xs : List NX} (k : Memo key val dom xs) (inj : ∀ a b, key a = key b → a = b) {a : α} {v : V} (h : nval xs (key a) = some v) : v = val a := by
  obtain ⟨x, hx, e, rfl⟩ := nval_mem h
  obtain ⟨b, _, e', hv⟩ := k.at_ x hx
  obtain rfl := inj _ _ (e.symm.trans e')
  exact hv
theorem Memo.put {α : Type} {key : α → NestedKey} {val : α → V} {dom : List α} {xs : List NX} (k : Memo key val dom xs) {a : α} {p : Addr} (ha : a ∈ dom) : Memo key val dom (nput xs (key a) p (val a)) := by
  unfold nput
  split
  · refine ⟨?_, fun x hx => ?_⟩
    · rw [List.map_map]
      have : (xs.map ((fun x : NX => x.1) ∘ fun x => if x.1 = key a then (x.1, x.2.1, val a) else x)) = xs.map (·.1) := by
        refine List.map_congr_left fun x _ => ?_
        simp only [Function.comp]
        split <;> rfl
      rw [this]; exact k.nd
    · obtain ⟨y, hy, rfl⟩ := List.mem_map.mp hx
      split
      · rename_i e
        exact ⟨a, ha, e, rfl⟩
      · exact k.at_ y hy
  · rename_i h
    have h0 : nval xs (key a) = none := by
      cases e : nval xs (key a) with
      | none => rfl
      | some v => rw [e] at h; simp at h
    refine ⟨?_, fun x hx => ?_⟩
    · rw [List.map_append, List.nodup_append]
      refine ⟨k.nd, by simp, fun x hx y hy => ?_⟩
      obtain ⟨z, hz, rfl⟩ := List.mem_map.mp hx
      simp at hy
      subst hy
      exact nval_none h0 z hz
    · rcases List.mem_append.mp hx with hx | hx
      · exact k.at_ x hx
      · cases List.mem_singleton.mp hx
        exact ⟨a, ha, rfl, rfl⟩
theorem ndSame {P : Program} {w : World} {H H' : Hp} {a : Addr} {xs : List NX} (N : NdAt P w H a xs) (k : Keep Nil H H') : NdAt P w H' a xs :=
  ⟨k _ _ (fun z => z) N.here, fun x hx => ⟨NkV.keeps (fun q ys e => k _ _ (fun z => z) e) _ _ (N.keys x hx).1, (N.keys x hx).2⟩⟩
theorem ndPut {P : Program} {w : World} {H : Hp} {a p : Addr} {xs : List NX} {k : NestedKey} {v : V} (N : NdAt P w H a xs) (kp : NkV H k (.ref p)) (d : k.depth ≤ 8) : NdAt P w (upd H a (NdO P w a (nput xs k p v))) a (nput xs k p v) :=
  ⟨upd_same, nput_keys (fun x hx => ⟨NkV.keeps (fun b ys h => get_set (nd_neT N h) h) _ _ (N.keys x hx).1, (N.keys x hx).2⟩) (NkV.keeps (fun b ys h => get_set (nd_neT N h) h) _ _ kp) d⟩
theorem ndSet {P : Program} {w : World} {H : Hp} {a x : Addr} {xs : List NX} {l m : List V} (N : NdAt P w H a xs) (e : H x = some (.lst l)) : NdAt P w (upd H x (.lst m)) a xs :=
  ⟨get_set (nd_neL N e).symm N.here, fun y hy => ⟨NkV.keeps (fun q ys h => get_set (lt_ne e h) h) _ _ (N.keys y hy).1, (N.keys y hy).2⟩⟩
theorem ndBook {P : Program} {w : World} {c : Cn} {H H' : Hp} {b a : Addr} {M : Addr → Prop} {gs : List Gm} {ds : List Int} {xs : List NX} (B : BookAt c H b M gs ds) (N : NdAt P w H a xs) (k : Keep M H H') (n : ¬ M a) : NdAt P w H' a xs :=
  ⟨k _ _ n N.here, fun x hx => ⟨NkV.keeps (fun q ys e => k _ _ (B.tupN e) e) _ _ (N.keys x hx).1, (N.keys x hx).2⟩⟩
theorem BookAt.nd {c : Cn} {H H' : Hp} {b a : Addr} {M : Addr → Prop} {gs : List Gm} {ds : List Int} {xs : List NX} (B : BookAt c H b M gs ds) (N : NdAt c.P c.w H a xs) (k : Keep (fun x => x = a) H H') (n : ¬ M a) : BookAt c H' b M gs ds :=
  B.keepX (N := fun x => x = a) k (fun z e => by subst e; exact ⟨_, N.here⟩) fun z hz e => n (e ▸ hz)
theorem mvNd {P : Program} {w : World} {W : Addr → Prop} {H H' : Hp} {mv a : Addr} {gs : List Gm} {A : Nat → Prop} {xs : List NX} (m : MvW W H mv gs A) (N : NdAt P w H a xs) (k : Keep (fun x => x = a) H H') : MvW W H' mv gs A :=
  m.keep k fun x e => by
    subst e
    have h := N.here
    unfold NdO at h
    exact ⟨(fun l z => by rw [h] at z; cases z), (fun l z => by rw [h] at z; cases z), (fun l z => by rw [h] at z; cases z)⟩
theorem BookAt.setN {c : Cn} {H : Hp} {b a : Addr} {M : Addr → Prop} {gs : List Gm} {ds : List Int} {l m : List V} (B : BookAt c H b M gs ds) (e : H a = some (.lst l)) (n : ¬ M a) : BookAt c (upd H a (.lst m)) b M gs ds :=
  B.keep (N := fun x => x = a) (Keep.refl.set rfl) (fun z q => ⟨_, q ▸ e⟩) fun z hz q => n (q ▸ hz)

/-! the whole play of two games: the plain law -/
def wy (gs : List Gm) (x y : Nat) (s : Bool) : List (Int × Int) := (mvs gs x s).map (fun m => (m, (y : Int))) ++ (mvs gs y (!s)).map fun m => ((x : Int), m)
theorem wy_low {gs : List Gm} (o : GOk gs) {x y : Nat} {s : Bool} {w : Int × Int} (h : w ∈ wy gs x y s) : 0 ≤ w.1 ∧ 0 ≤ w.2 ∧ w.1.toNat + w.2.toNat < x + y ∧ w.1.toNat ≤ x ∧ w.2.toNat ≤ y := by
  rcases List.mem_append.mp h with h | h
  · obtain ⟨m, hm, rfl⟩ := List.mem_map.mp h
    have := mvs_low o hm
    simp only [Int.toNat_natCast]; omega
  · obtain ⟨m, hm, rfl⟩ := List.mem_map.mp h
    have := mvs_low o hm
    simp only [Int.toNat_natCast]; omega
def lz (gs : List Gm) : Nat → Nat → Nat → Bool → Bool
  | 0, _, _, _ => false
  | n + 1, x, y, s => (wy gs x y s).all fun w => !lz gs n w.1.toNat w.2.toNat (!s)
def lo (gs : List Gm) (x y : Nat) (s : Bool) : Bool := lz gs (x + y + 1) x y s
theorem lz_more {gs : List Gm} (o : GOk gs) : ∀ (n k x y : Nat) (s : Bool), x + y < n → n ≤ k → lz gs k x y s = lz gs n x y s
  | 0, _, _, _, _, h, _ => by omega
  | n + 1, 0, _, _, _, _, h => by omega
  | n + 1, k + 1, x, y, s, h, hk => by
    show (wy gs x y s).all _ = (wy gs x y s).all _
    refine all_eq fun w hw => ?_
    have := wy_low o hw
    rw [lz_more o n k w.1.toNat w.2.toNat (!s) (by omega) (by omega)]
theorem lo_eq {gs : List Gm} (o : GOk gs) (x y : Nat) (s : Bool) : lo gs x y s = (wy gs x y s).all fun w => !lo gs w.1.toNat w.2.toNat (!s) := by
  show (wy gs x y s).all _ = (wy gs x y s).all _
  refine all_eq fun w hw => ?_
  have := wy_low o hw
  unfold lo
  rw [lz_more o (w.1.toNat + w.2.toNat + 1) (x + y) w.1.toNat w.2.toNat (!s) (by omega) (by omega)]
theorem ge_lo {gs : List Gm} (o : GOk gs) : ∀ (n x y : Nat), x + y < n → ge gs x y = lo gs x y false
  | 0, _, _, h => by omega
  | n + 1, x, y, h => by
    have e1 : ∀ r ∈ mvs gs x false, gR gs (ge gs) r.toNat y = !lo gs r.toNat y true := fun r hr => by
      have := mvs_low o hr
      rw [lo_eq o]
      unfold wy gR
      rw [List.all_append, List.all_map, List.all_map, Bool.not_and, List.all_eq_not_any_not, List.all_eq_not_any_not, Bool.not_not, Bool.not_not]
      have q1 : ((mvs gs r.toNat true).any fun l => ge gs l.toNat y) = (mvs gs r.toNat true).any fun x => !((fun w : Int × Int => !lo gs w.1.toNat w.2.toNat (!true)) ∘ fun m => (m, (y : Int))) x := any_eq fun l hl => by
        have := mvs_low o hl
        simp only [Function.comp, Bool.not_not, Int.toNat_natCast]
        exact ge_lo o n l.toNat y (by omega)
      have q2 : ((mvs gs y false).any fun q => ge gs r.toNat q.toNat) = (mvs gs y (!true)).any fun x => !((fun w : Int × Int => !lo gs w.1.toNat w.2.toNat (!true)) ∘ fun m => ((r.toNat : Int), m)) x := any_eq fun l hl => by
        have := mvs_low o hl
        simp only [Function.comp, Bool.not_not, Int.toNat_natCast]
        exact ge_lo o n r.toNat l.toNat (by omega)
      rw [q1, q2]
    have e2 : ∀ p ∈ mvs gs y true, gL gs (ge gs) x p.toNat = !lo gs x p.toNat true := fun p hp => by
      have := mvs_low o hp
      rw [lo_eq o]
      unfold wy gL
      rw [List.all_append, List.all_map, List.all_map, Bool.not_and, List.all_eq_not_any_not, List.all_eq_not_any_not, Bool.not_not, Bool.not_not]
      have q1 : ((mvs gs x true).any fun l => ge gs l.toNat p.toNat) = (mvs gs x true).any fun z => !((fun w : Int × Int => !lo gs w.1.toNat w.2.toNat (!true)) ∘ fun m => (m, (p.toNat : Int))) z := any_eq fun l hl => by
        have := mvs_low o hl
        simp only [Function.comp, Bool.not_not, Int.toNat_natCast]
        exact ge_lo o n l.toNat p.toNat (by omega)
      have q2 : ((mvs gs p.toNat false).any fun q => ge gs x q.toNat) = (mvs gs p.toNat (!true)).any fun z => !((fun w : Int × Int => !lo gs w.1.toNat w.2.toNat (!true)) ∘ fun m => ((x : Int), m)) z := any_eq fun l hl => by
        have := mvs_low o hl
        simp only [Function.comp, Bool.not_not, Int.toNat_natCast]
        exact ge_lo o n x l.toNat (by omega)
      rw [q1, q2]
    rw [ge_eq o, lo_eq o]
    unfold gB wy
    rw [List.all_append, List.all_map, List.all_map, all_eq e1, all_eq e2]
    have f1 : ((mvs gs x false).all fun r => !lo gs r.toNat y true) = (mvs gs x false).all ((fun w : Int × Int => !lo gs w.1.toNat w.2.toNat (!false)) ∘ fun m => (m, (y : Int))) := all_eq fun r _ => by simp [Function.comp]
    have f2 : ((mvs gs y true).all fun p => !lo gs x p.toNat true) = (mvs gs y (!false)).all ((fun w : Int × Int => !lo gs w.1.toNat w.2.toNat (!false)) ∘ fun m => ((x : Int), m)) := all_eq fun r _ => by simp [Function.comp]
    rw [f1, f2]
def k3 (a : Nat × Nat × Bool) : NestedKey := .tup [.num a.1, .num a.2.1, .num (if a.2.2 = true then 0 else 1)]
theorem k3_inj (a b : Nat × Nat × Bool) (h : k3 a = k3 b) : a = b := by
  obtain ⟨x, y, s⟩ := a
  obtain ⟨x', y', s'⟩ := b
  unfold k3 at h
  injection h with h
  injection h with h1 h
  injection h with h2 h
  injection h with h3 _
  injection h1 with h1
  injection h2 with h2
  injection h3 with h3
  obtain rfl : x = x' := by simp only at h1; omega
  obtain rfl : y = y' := by simp only at h2; omega
  have : s = s' := by cases s <;> cases s' <;> first | rfl | exact absurd h3 (by simp)
  rw [this]
theorem k3_depth (a : Nat × Nat × Bool) : (k3 a).depth ≤ 8 := by
  unfold k3
  simp only [NestedKey.depth, NestedKey.depthAll]; omega
theorem k3_nk {H : Hp} {t : Addr} {x y : Nat} {s : Bool} (h : H t = some (.tup [.int x, .int y, .int (if s = true then 0 else 1)])) : NkV H (k3 (x, y, s)) (.ref t) := by
  unfold k3
  simp only [NkV]
  refine ⟨t, _, rfl, h, ?_⟩
  simp only [NkVs, NkV]
  exact ⟨_, _, rfl, rfl, _, _, rfl, rfl, _, _, rfl, rfl, rfl⟩
def dom3 (n : Nat) : List (Nat × Nat × Bool) := (List.range n).flatMap fun x => (List.range n).flatMap fun y => [(x, y, true), (x, y, false)]
theorem dom3_mem {n x y : Nat} {s : Bool} (hx : x < n) (hy : y < n) : (x, y, s) ∈ dom3 n :=
  List.mem_flatMap.mpr ⟨x, List.mem_range.mpr hx, List.mem_flatMap.mpr ⟨y, List.mem_range.mpr hy, by cases s <;> simp⟩⟩
theorem fm_len {α β : Type} {f : α → List β} {k : Nat} : ∀ {l : List α}, (∀ x ∈ l, (f x).length = k) → (l.flatMap f).length = l.length * k
  | [], _ => by simp
  | x :: r, h => by
    rw [List.flatMap_cons, List.length_append, h x List.mem_cons_self, fm_len fun y hy => h y (List.mem_cons_of_mem _ hy), List.length_cons, Nat.succ_mul, Nat.add_comm]
theorem dom3_len {n : Nat} : (dom3 n).length = n * (n * 2) := by
  unfold dom3
  rw [fm_len (k := n * 2) fun x _ => by rw [fm_len (k := 2) fun y _ => rfl, List.length_range], List.length_range]
def PrAt (H : Hp) (t : Addr) (w : Int × Int) : Prop := H t = some (.tup [.int w.1, .int w.2])
theorem PrAt.keep {H H' : Hp} {N : Addr → Prop} {t : Addr} {w : Int × Int} (h : PrAt H t w) (k : Keep N H H') (n : ∀ x, N x → ∀ l, H x ≠ some (.tup l)) : PrAt H' t w := k _ _ (fun z => n _ z _ h) h
theorem pairedA {α β : Type} {R : α → β → Prop} {xs xs' : List α} {ys ys' : List β} (h : Paired R xs ys) (h' : Paired R xs' ys') : Paired R (xs ++ xs') (ys ++ ys') := by
  induction h with
  | nil => exact h'
  | cons r _ ih => exact .cons r ih
def LM (gs : List Gm) (xs : List NX) : Prop := Memo k3 (fun a => .bl (lo gs a.1 a.2.1 a.2.2)) (dom3 gs.length) xs
def sp_law_loses (n : Nat) (c : Cn) : Sp := fun vs H Q E => vs.length = 5 ∧ ∃ (mv kn : Addr) (W : Addr → Prop) (gs : List Gm) (x y : Nat) (s : Bool) (xs : List NX), vs = [.ref mv, .int x, .int y, .int (if s = true then 0 else 1), .ref kn] ∧ MvW W H mv gs (· < gs.length) ∧ GOk gs ∧ gs.length ≤ 20 ∧ x < gs.length ∧ y < gs.length ∧ NdAt c.P c.w H kn xs ∧ LM gs xs ∧ x + y < n ∧
  ∀ (H' : Hp) (xs' : List NX), Keep (fun x => x = kn) H H' → NdAt c.P c.w H' kn xs' → LM gs xs' → Q (.bl (lo gs x y s)) H'
theorem z_law_loses {c : Cn} {vs : List V} {H : Hp} {Q : VK} {E : XK} (h : sp_law_loses 0 c vs H Q E) : False := by
  obtain ⟨_, _, _, _, _, x, y, _, _, _, _, _, _, _, _, _, _, h, _⟩ := h
  omega
abbrev N_law_loses : List Str := ["moves", "x", "y", "side", "known", "ways", "bad", "one", "other", "move"]
theorem sc_law_loses : FnScope N_law_loses ["moves", "x", "y", "side", "known"] (defScope s_law_loses) := ⟨rfl, rfl, rfl, by decide +kernel, rfl, by decide +kernel, by decide +kernel⟩
def t_law_loses (n : Nat) (c : Cn) : TS :=
  (C8.tCut (tIfS (tTest (tOp (cNotIn c.P c.w c.K) (tTup (tCons (tVar 1) (tCons (tVar 2) (tCons (tVar 3) tNil)))) (tVar 4)))
  (tSeq (tAsg (tOp (bAdd c.K) (tLc (iAny c.K (tOp (bIx c.P c.w c.K) (tOp (bIx c.P c.w c.K) (tVar 0) (tVar 1)) (tVar 3))) (gName 9) tYes (tTup (tCons (tVar 9) (tCons (tVar 2) tNil))) [9]) (tLc (iAny c.K (tOp (bIx c.P c.w c.K) (tOp (bIx c.P c.w c.K) (tVar 0) (tVar 2)) (tOp bSub (tC (.int 1)) (tVar 3)))) (gName 9) tYes (tTup (tCons (tVar 1) (tCons (tVar 9) tNil))) [9])) (gName 5))
  (tSeq (tAsg (tC (.bl true)) (gName 6))
  (tSeq (tFor (iAny c.K (tVar 5)) (gSeq c.K 2 (gCons (gName 7) (gCons (gName 8) gNil)))
  (tIfS (tTru c.K (tCall (sp_law_loses n c) [] E0 (tCons (tVar 0) (tCons (tVar 7) (tCons (tVar 8) (tCons (tOp bSub (tC (.int 1)) (tVar 3)) (tCons (tVar 4) tNil)))))))
  (tAsg (tC (.bl false)) (gName 6))
  tNext))
  (tAsg (tVar 6) (gSub (tVar 4) (tTup (tCons (tVar 1) (tCons (tVar 2) (tCons (tVar 3) tNil)))) (bSet c.P c.w))))))
  tNext)
  (tRet (tOp (bIx c.P c.w c.K) (tVar 4) (tTup (tCons (tVar 1) (tCons (tVar 2) (tCons (tVar 3) tNil)))))))
theorem p_law_loses {n : Nat} {c : Cn} {mg : Str → Option Value} (T : Txt c mg) {vs : List V} {H : Hp} {Q : VK} {E : XK} (h : sp_law_loses (n + 1) c vs H Q E) : t_law_loses n c { nx := fun _ H' => Q .non H', rt := Q } (start N_law_loses vs) H := by
  obtain ⟨_, mv, kn, W, gs, x, y, s, xs, rfl, M, go, few, hx, hy, N, ok, xyn, k⟩ := h
  have s01 : ∀ s : Bool, (1 : Int) - (if s = true then 0 else 1) = if (!s) = true then 0 else 1 := fun s => by cases s <;> rfl
  have dl : (dom3 gs.length).length ≤ 800 := by
    rw [dom3_len]
    exact Nat.le_trans (Nat.mul_le_mul few (Nat.mul_le_mul_right 2 few)) (by omega)
  unfold t_law_loses
  repeat kaf_suf
  refine ⟨fun σ' H' => ∃ (x5 x6 x7 x8 : Option V) (xs' : List NX), σ' = [some (.ref mv), some (.int x), some (.int y), some (.int (if s = true then 0 else 1)), some (.ref kn), x5, x6, x7, x8, none] ∧ Keep (fun x => x = kn) H H' ∧ NdAt c.P c.w H' kn xs' ∧ LM gs xs' ∧ nval xs' (k3 (x, y, s)) = some (.bl (lo gs x y s)), ?_, ?_⟩
  · repeat kaf_suf
    intro p hp
    repeat kaf_suf
    have k1 : Keep Nil H (upd H p (.tup [.int x, .int y, .int (if s = true then 0 else 1)])) := Keep.alloc hp
    have N1 := ndSame N k1
    refine v_ninN N1 (k3_nk upd_same) (k3_depth _) ?_
    cases e : nval xs (k3 (x, y, s)) with
    | some v =>
      refine r_kB (r_ite_nt ?_)
      repeat kaf_suf
      refine ⟨_, _, _, _, xs, rfl, k1.weak, N1, ok, ?_⟩
      rw [e, ok.get k3_inj e]
    | none =>
      refine r_kB (r_ite_nf ?_)
      have M1 := M.same k1
      generalize upd H p (.tup [.int x, .int y, .int (if s = true then 0 else 1)]) = H1 at k1 N1 M1 ⊢
      clear hp
      obtain ⟨kv, t1, a1, b1, e1, w1, t1', l1, l2⟩ := M1.list hx
      obtain ⟨kv2, t2, a2, b2, e2, w2, t2', m1, m2⟩ := M1.list hy
      obtain ⟨q, hx3, hq⟩ : ∃ q, atI [V.ref a1, V.ref b1] (if s = true then 0 else 1) = some (V.ref q) ∧ H1 q = some (.lst ((mvs gs x s).map V.int)) := by
        cases s
        · exact ⟨b1, rfl, l2⟩
        · exact ⟨a1, rfl, l1⟩
      obtain ⟨q2, hy3, hq2⟩ : ∃ q, atI [V.ref a2, V.ref b2] (if (!s) = true then 0 else 1) = some (V.ref q) ∧ H1 q = some (.lst ((mvs gs y (!s)).map V.int)) := by
        cases s
        · exact ⟨a2, rfl, m1⟩
        · exact ⟨b2, rfl, m2⟩
      have mlen : ∀ g s, g < gs.length → (mvs gs g s).length ≤ 20 := fun g s hg => by
        have u : (mvs gs g s).Pairwise (· < ·) := by
          obtain ⟨x, ex⟩ : ∃ x, gs[g]? = some x := ⟨_, List.getElem?_eq_getElem hg⟩
          have up := go.up x (List.mem_of_getElem? ex)
          unfold mvs
          rw [ex]
          cases s
          · exact up.2
          · exact up.1
        have := up_len _ 0 g u (fun x hx => by have := mvs_low go hx; omega) (by omega)
        omega
      have ml1 := mlen x s hx
      have ml2 := mlen y (!s) hy
      repeat kaf_suf
      refine v_ixMv e1 w1 ?_
      repeat kaf_suf
      intro D hD
      refine lc_list (xs := (mvs gs x s).map V.int) (fun j H' => ∃ ts : List Addr, H' D = some (.lst (ts.map V.ref)) ∧ Paired (PrAt H') ts (((mvs gs x s).map fun m => (m, (y : Int))).take j) ∧ Keep Nil H1 H') ⟨[], upd_same, .nil, Keep.alloc hD⟩ ?_ ?_ ?_
      · rintro j H' _ ⟨_, _, _, kk⟩; exact SqL.of (kk.get (fun z => z) hq)
      · rintro j xx H2 hj ⟨ts, eD, pt, kk⟩
        rw [List.getElem?_map] at hj
        obtain ⟨m, hm, rfl⟩ := Option.map_eq_some_iff.mp hj
        have tl := Paired.length pt
        have hjl := (List.getElem?_eq_some_iff.mp hm).1
        rw [List.length_take, List.length_map] at tl
        repeat kaf_suf
        refine ⟨rfl, ?_⟩
        repeat kaf_suf
        intro r hr
        have kr : Keep Nil H2 (upd H2 r (.tup [.int m, .int y])) := Keep.alloc hr
        refine ⟨_, kr.get (fun z => z) eD, few1 (by rw [List.length_map]; omega), ts ++ [r], by rw [List.map_append]; exact upd_same, ?_, (kk.trans kr).setN hD⟩
        have eD2 := kr.get (fun z => z) eD
        have nD : ∀ z, z = D → ∀ l, (upd H2 r (.tup [.int m, .int y])) z ≠ some (.tup l) := fun z e l h => by rw [e, eD2] at h; cases h
        rw [List.take_succ, List.getElem?_map, hm]
        refine Paired.snoc (paired_keep pt fun t w h => (h.keep kr fun _ z => z.elim).keep (N := fun z => z = D) (Keep.refl.set rfl) nD) ?_
        exact PrAt.keep (N := fun z => z = D) (show PrAt _ r (m, (y : Int)) from upd_same) (Keep.refl.set rfl) nD
      rintro H2 ⟨ts, eD, pt, kk⟩
      rw [List.take_of_length_le (by rw [List.length_map, List.length_map]; exact Nat.le_refl _)] at pt
      have e2' := kk.get (fun z => z) e2
      have t2'' := kk.get (fun z => z) t2'
      have hq2' := kk.get (fun z => z) hq2
      repeat kaf_suf
      refine v_ixMv e2' w2 ?_
      repeat kaf_suf
      rw [s01]
      have tl1 := Paired.length pt
      rw [List.length_map] at tl1
      repeat kaf_suf
      intro D2 hD2
      have nDD : D ≠ D2 := ne_old hD2 eD
      have kD2 : Keep Nil H2 (upd H2 D2 (.lst [])) := Keep.alloc hD2
      refine lc_list (xs := (mvs gs y (!s)).map V.int) (fun j H' => ∃ ts : List Addr, H' D2 = some (.lst (ts.map V.ref)) ∧ Paired (PrAt H') ts (((mvs gs y (!s)).map fun m => ((x : Int), m)).take j) ∧ Keep Nil H2 H') ⟨[], upd_same, .nil, kD2⟩ ?_ ?_ ?_
      · rintro j H' _ ⟨_, _, _, k9⟩; exact SqL.of (k9.get (fun z => z) hq2')
      · rintro j xx H3 hj ⟨ts2, eD2, pt2, k9⟩
        rw [List.getElem?_map] at hj
        obtain ⟨m, hm, rfl⟩ := Option.map_eq_some_iff.mp hj
        have tl := Paired.length pt2
        have hjl := (List.getElem?_eq_some_iff.mp hm).1
        rw [List.length_take, List.length_map] at tl
        repeat kaf_suf
        refine ⟨rfl, ?_⟩
        repeat kaf_suf
        intro r hr
        have kr : Keep Nil H3 (upd H3 r (.tup [.int x, .int m])) := Keep.alloc hr
        refine ⟨_, kr.get (fun z => z) eD2, few1 (by rw [List.length_map]; omega), ts2 ++ [r], by rw [List.map_append]; exact upd_same, ?_, (k9.trans kr).setN hD2⟩
        have eD3 := kr.get (fun z => z) eD2
        have nD : ∀ z, z = D2 → ∀ l, (upd H3 r (.tup [.int x, .int m])) z ≠ some (.tup l) := fun z e l h => by rw [e, eD3] at h; cases h
        rw [List.take_succ, List.getElem?_map, hm]
        refine Paired.snoc (paired_keep pt2 fun t w h => (h.keep kr fun _ z => z.elim).keep (N := fun z => z = D2) (Keep.refl.set rfl) nD) ?_
        exact PrAt.keep (N := fun z => z = D2) (show PrAt _ r ((x : Int), m) from upd_same) (Keep.refl.set rfl) nD
      rintro H3 ⟨ts2, eD2, pt2, k9⟩
      rw [List.take_of_length_le (by rw [List.length_map, List.length_map]; exact Nat.le_refl _)] at pt2
      have tl2 := Paired.length pt2
      rw [List.length_map] at tl2
      have eD3 := k9.get (fun z => z) eD
      have pt3 := pairedA (paired_keep pt fun t w h => PrAt.keep h k9 fun _ z => z.elim) pt2
      have k13 := kk.trans k9
      clear e2' t2'' hq2' kD2 pt pt2 kk k9 eD hD2
      repeat kaf_suf
      intro D4 hD4
      have N4 := ndSame (ndSame N1 k13) (Keep.alloc (o := .lst (ts.map V.ref ++ ts2.map V.ref)) hD4)
      have M4 := (M1.same k13).same (Keep.alloc (o := .lst (ts.map V.ref ++ ts2.map V.ref)) hD4)
      have k04 := (k1.trans k13).new (o := .lst (ts.map V.ref ++ ts2.map V.ref)) hD4
      have e4 : (upd H3 D4 (.lst (ts.map V.ref ++ ts2.map V.ref))) D4 = some (.lst ((ts ++ ts2).map V.ref)) := by rw [List.map_append]; exact upd_same
      have pt4 := paired_keep pt3 fun t w h => PrAt.keep h (Keep.alloc (M := Nil) (o := .lst (ts.map V.ref ++ ts2.map V.ref)) hD4) fun _ z => z.elim
      generalize upd H3 D4 (.lst (ts.map V.ref ++ ts2.map V.ref)) = H4 at N4 M4 k04 e4 pt4 ⊢
      clear hD4 pt3 k13 k1 eD2 eD3 N1 M1 e1 w1 t1' l1 l2 m1 m2 e2 w2 t2' hq hq2
      have wl : (ts ++ ts2).length = (wy gs x y s).length := Paired.length pt4
      have D4n := nd_neL N4 e4
      repeat kaf_suf
      refine for_list (xs := (ts ++ ts2).map V.ref) (fun i σ H' => ∃ (x7 x8 : Option V) (xs' : List NX), σ = [some (.ref mv), some (.int x), some (.int y), some (.int (if s = true then 0 else 1)), some (.ref kn), some (.ref D4), some (.bl (((wy gs x y s).take i).all fun w => !lo gs w.1.toNat w.2.toNat (!s))), x7, x8, none] ∧ Keep (fun x => x = kn) H4 H' ∧ NdAt c.P c.w H' kn xs' ∧ LM gs xs') ⟨_, _, xs, rfl, Keep.refl, N4, ok⟩ ?_ ?_ ?_
      · rintro i σ H' _ ⟨_, _, _, _, k5, _⟩; exact SqL.of (k5.get D4n e4)
      · rintro i xx σ H5 hi ⟨x7, x8, xs5, rfl, k5, N5, ok5⟩
        have hi' : i < (wy gs x y s).length := by
          have := (List.getElem?_eq_some_iff.mp hi).1
          rw [List.length_map, wl] at this; exact this
        obtain ⟨w, hw⟩ : ∃ w, (wy gs x y s)[i]? = some w := ⟨_, List.getElem?_eq_getElem hi'⟩
        obtain ⟨t, htt, pw⟩ := paired_get pt4 hw
        rw [List.getElem?_map, htt] at hi
        cases hi
        obtain ⟨w1, w2, w3, w4, w5⟩ := wy_low go (List.mem_of_getElem? hw)
        have pw5 : H5 t = some (.tup [.int w.1, .int w.2]) := k5.get (nd_neT N4 pw) pw
        have tk1 : (wy gs x y s).take (i + 1) = (wy gs x y s).take i ++ [w] := by rw [List.take_succ, hw]; rfl
        obtain ⟨wa, wb⟩ := w
        obtain ⟨an, rfl⟩ := Int.eq_ofNat_of_zero_le w1
        obtain ⟨bn, rfl⟩ := Int.eq_ofNat_of_zero_le w2
        simp only [Int.toNat_natCast] at w3 w4 w5
        refine r_seqT pw5 rfl (r_gcons ?_)
        repeat kaf_suf
        refine r_gcons ?_
        repeat kaf_suf
        refine r_gnil ?_
        repeat kaf_suf
        rw [s01]
        refine ⟨rfl, mv, kn, W, gs, an, bn, !s, xs5, rfl, mvNd M4 N4 k5, go, few, by omega, by omega, N5, ok5, by omega, fun H6 xs6 k6 N6 ok6 => ?_⟩
        have k56 := k5.trans k6
        have al : (((wy gs x y s).take (i + 1)).all fun w => !lo gs w.1.toNat w.2.toNat (!s)) = ((((wy gs x y s).take i).all fun w => !lo gs w.1.toNat w.2.toNat (!s)) && !lo gs an bn (!s)) := by
          rw [tk1, List.all_append, List.all_cons, List.all_nil, Bool.and_true]
          rfl
        repeat kaf_suf
        cases hb : lo gs an bn (!s) with
        | true =>
          rw [hb, Bool.not_true, Bool.and_false] at al
          repeat kaf_suf
          exact ⟨_, _, xs6, by rw [al]; rfl, k56, N6, ok6⟩
        | false =>
          rw [hb, Bool.not_false, Bool.and_true] at al
          repeat kaf_suf
          exact ⟨_, _, xs6, by rw [al]; rfl, k56, N6, ok6⟩
      · rintro σ H5 ⟨x7, x8, xs5, rfl, k5, N5, ok5⟩
        rw [List.length_map, wl, List.take_length, ← lo_eq go]
        repeat kaf_suf
        intro p3 hp3
        repeat kaf_suf
        have kp3 : Keep Nil H5 (upd H5 p3 (.tup [.int x, .int y, .int (if s = true then 0 else 1)])) := Keep.alloc hp3
        have N6 := ndSame N5 kp3
        have xl := ok5.len
        refine v_setN' N6 (k3_nk upd_same) (k3_depth _) (few1 (by omega)) ?_
        repeat kaf_suf
        exact ⟨_, _, _, _, _, rfl, ((k04.weak.trans k5).trans kp3.weak).set rfl, ndPut N6 (k3_nk upd_same) (k3_depth (x, y, s)), ok5.put (dom3_mem hx hy), nval_nput⟩
  · rintro σ' H' ⟨x5, x6, x7, x8, xs', rfl, k', N', ok', e⟩
    repeat kaf_suf
    intro p hp
    repeat kaf_suf
    have k1 : Keep Nil H' (upd H' p (.tup [.int x, .int y, .int (if s = true then 0 else 1)])) := Keep.alloc hp
    refine v_ixN (ndSame N' k1) (k3_nk upd_same) (k3_depth _) e ?_
    exact k _ xs' (k'.trans k1.weak) (ndSame N' k1) ok'
theorem cal_law_loses {c : Cn} {mg : Str → Option Value} {base : Heap} (T : Txt c mg) : ∀ n : Nat, Cal c.P c.w c.K mg base CX0 (3 + n) "_law_loses" (sp_law_loses n c)
  | 0 => by
    obtain ⟨f, fd, F, g, b⟩ := T.F_law_loses
    exact ⟨f, fd, ["moves", "x", "y", "side", "known"], F.ok (k := 2) (N := N_law_loses) sc_law_loses (fun vs H Q E h => (z_law_loses h).elim) (fun cdv A outer s H vs Q E hr h => (z_law_loses h).elim), g, F.kp, b⟩
  | n + 1 => by
    obtain ⟨f, fd, F, g, b⟩ := T.F_law_loses
    exact ⟨f, fd, ["moves", "x", "y", "side", "known"], F.ok (k := 3 + n) (N := N_law_loses) sc_law_loses (fun vs H Q E h => h.1) (fun cdv A outer s H vs Q E hr h => ⟨t_law_loses n c, by
  exact (C8.pss_cut (ps_if (pt_cmpR (o_notin (hu65 hr)) (pe_tup (pa_cons (pv 1) (pa_cons (pv 2) (pa_cons (pv 3) pa_nil)))) (pv 4) (by rfl)) (pss_cons (ps_set (i := 5) sc_law_loses.nd rfl (Or.inl rfl) (pe_op o_add (pe_lc (own := [("move", 9)]) rfl sc_law_loses.nd (pi_any (pe_ix (x_ix (hu64 hr)) (pe_ix (x_ix (hu64 hr)) (pv 0) (pv 1) (fun _ _ => rfl)) (pv 3) (fun _ _ => rfl))) (blkOk_by (own := [("move", 9)]) (N := N_law_loses) (sc := defScope s_law_loses) (by decide +kernel)) (fun _ _ _ _ _ => (pg_name (i := 9) sc_law_loses.nd rfl (Or.inl rfl))) (fun _ _ _ _ _ => pts_nil) (fun _ _ _ _ _ => (pe_tup (pa_cons (pv 9) (pa_cons (pv 2) pa_nil))))) (pe_lc (own := [("move", 9)]) rfl sc_law_loses.nd (pi_any (pe_ix (x_ix (hu64 hr)) (pe_ix (x_ix (hu64 hr)) (pv 0) (pv 2) (fun _ _ => rfl)) (pe_op o_sub pe_int (pv 3)) (fun _ _ => rfl))) (blkOk_by (own := [("move", 9)]) (N := N_law_loses) (sc := defScope s_law_loses) (by decide +kernel)) (fun _ _ _ _ _ => (pg_name (i := 9) sc_law_loses.nd rfl (Or.inl rfl))) (fun _ _ _ _ _ => pts_nil) (fun _ _ _ _ _ => (pe_tup (pa_cons (pv 1) (pa_cons (pv 9) pa_nil)))))))
  (pss_cons (ps_set (i := 6) sc_law_loses.nd rfl (Or.inl rfl) pe_bl)
  (pss_cons (ps_for PassesOwn.never rfl (pi_any (pv 5)) (g_seq rfl (pgs_cons (pg_name (i := 7) sc_law_loses.nd rfl (Or.inl rfl)) (pgs_cons (pg_name (i := 8) sc_law_loses.nd rfl (Or.inl rfl)) pgs_nil)))
  (pss_one (ps_if (p_tru (e_call (cal_law_loses T n) hr (by omega) pass0 rfl (pa_cons (pv 0) (pa_cons (pv 7) (pa_cons (pv 8) (pa_cons (pe_op o_sub pe_int (pv 3)) (pa_cons (pv 4) pa_nil))))))) (pss_one (ps_set (i := 6) sc_law_loses.nd rfl (Or.inl rfl) pe_bl)) pss_nil)))
  (pss_one (ps_asg (pv 6) (pg_sub (pv 4) (pe_tup (pa_cons (pv 1) (pa_cons (pv 2) (pa_cons (pv 3) pa_nil)))) (s_set (hu64 hr)))))))) pss_nil)
  (pss_one (ps_ret (pe_ix (x_ix (hu64 hr)) (pv 4) (pe_tup (pa_cons (pv 1) (pa_cons (pv 2) (pa_cons (pv 3) pa_nil)))) (fun _ _ => rfl))))), p_law_loses T h⟩), g, F.kp, b⟩

/-! games turned: the plain law -/
def mapO {α : Type} (f : α → Option Int) : List α → Option (List Int)
  | [] => some []
  | x :: r => (f x).bind fun a => (mapO f r).map (a :: ·)
theorem mapO_cons {α : Type} {f : α → Option Int} {x : α} {r : List α} {l : List Int} : mapO f (x :: r) = some l ↔ ∃ a b, f x = some a ∧ mapO f r = some b ∧ l = a :: b := by
  show (f x).bind _ = _ ↔ _
  cases h : f x with
  | none => simp
  | some a => cases h' : mapO f r with
    | none => simp
    | some b => simp [eq_comm]
theorem mapO_mem {α : Type} {f : α → Option Int} : ∀ {l : List α} {a : List Int}, mapO f l = some a → ∀ z, z ∈ a ↔ ∃ x ∈ l, f x = some z
  | [], a, h, z => by cases h; simp
  | x :: r, l, h, z => by
    obtain ⟨a, b, h1, h2, rfl⟩ := mapO_cons.mp h
    rw [List.mem_cons, mapO_mem h2]
    constructor
    · rintro (rfl | ⟨y, hy, e⟩)
      · exact ⟨x, List.mem_cons_self, h1⟩
      · exact ⟨y, List.mem_cons_of_mem _ hy, e⟩
    · rintro ⟨y, hy, e⟩
      rcases List.mem_cons.mp hy with rfl | hy
      · rw [h1] at e; exact .inl (Option.some.inj e).symm
      · exact .inr ⟨y, hy, e⟩
theorem mapO_all {α : Type} {f : α → Option Int} : ∀ {l : List α} {a : List Int}, mapO f l = some a → ∀ x ∈ l, ∃ z, f x = some z
  | [], _, _, x, hx => nomatch hx
  | y :: r, l, h, x, hx => by
    obtain ⟨a, b, h1, h2, rfl⟩ := mapO_cons.mp h
    rcases List.mem_cons.mp hx with rfl | hx
    · exact ⟨a, h1⟩
    · exact mapO_all h2 x hx
theorem mapO_len {α : Type} {f : α → Option Int} : ∀ {l : List α} {a : List Int}, mapO f l = some a → a.length = l.length
  | [], a, h => by cases h; rfl
  | y :: r, l, h => by
    obtain ⟨a, b, h1, h2, rfl⟩ := mapO_cons.mp h
    simp [mapO_len h2]
theorem mapO_congr {α : Type} {f g : α → Option Int} : ∀ {l : List α}, (∀ x ∈ l, f x = g x) → mapO f l = mapO g l
  | [], _ => rfl
  | y :: r, h => by
    show (f y).bind _ = (g y).bind _
    rw [h y List.mem_cons_self, mapO_congr fun x hx => h x (List.mem_cons_of_mem _ hx)]
theorem mapO_mono {α : Type} {f g : α → Option Int} : ∀ {l : List α} {a : List Int}, (∀ x ∈ l, ∀ z, f x = some z → g x = some z) → mapO f l = some a → mapO g l = some a
  | [], _, _, h => h
  | y :: r, l, m, h => by
    obtain ⟨a, b, h1, h2, rfl⟩ := mapO_cons.mp h
    exact mapO_cons.mpr ⟨a, b, m y List.mem_cons_self _ h1, mapO_mono (fun x hx => m x (List.mem_cons_of_mem _ hx)) h2, rfl⟩
theorem mapO_snoc {α : Type} {f : α → Option Int} : ∀ {l : List α} {a : List Int} {x : α} {z : Int}, mapO f l = some a → f x = some z → mapO f (l ++ [x]) = some (a ++ [z])
  | [], a, x, z, h, e => by cases h; exact mapO_cons.mpr ⟨z, [], e, rfl, rfl⟩
  | y :: r, l, x, z, h, e => by
    obtain ⟨a, b, h1, h2, rfl⟩ := mapO_cons.mp h
    exact mapO_cons.mpr ⟨a, b ++ [z], h1, mapO_snoc h2 e, rfl⟩
theorem mapO_def {α : Type} {f : α → Option Int} : ∀ {l : List α}, (∀ x ∈ l, ∃ z, f x = some z) → ∃ a, mapO f l = some a
  | [], _ => ⟨[], rfl⟩
  | y :: r, h => by
    obtain ⟨a, e⟩ := h y List.mem_cons_self
    obtain ⟨b, e'⟩ := mapO_def fun x hx => h x (List.mem_cons_of_mem _ hx)
    exact ⟨a :: b, mapO_cons.mpr ⟨a, b, e, e', rfl⟩⟩
/-- where a game stands -/
def look (gs : List Gm) (k : Gm) : Option Int := if k ∈ gs then some (ixG gs k) else none
theorem look_get {gs : List Gm} {k : Gm} {x : Int} (h : look gs k = some x) : 0 ≤ x ∧ gs[x.toNat]? = some k := by
  unfold look at h
  split at h
  · rename_i m
    have := Option.some.inj h
    subst this
    exact ⟨by omega, by simpa using ixG_get m⟩
  · cases h
theorem look_of {gs : List Gm} (nd : gs.Nodup) {k : Gm} {i : Nat} (h : gs[i]? = some k) : look gs k = some (i : Int) := by
  have m := List.mem_of_getElem? h
  unfold look
  rw [if_pos m]
  have := (List.getElem?_inj (List.getElem?_eq_some_iff.mp (ixG_get m)).1 nd).mp ((ixG_get m).trans h.symm)
  rw [this]
theorem look_app {gs f : List Gm} {k : Gm} {x : Int} (h : look gs k = some x) : look (gs ++ f) k = some x := by
  unfold look at h ⊢
  split at h
  · rename_i m
    rw [if_pos (List.mem_append_left _ m)]
    rw [← h]
    unfold ixG
    rw [List.idxOf_append, if_pos m]
  · cases h
def tn (gs : List Gm) : Nat → Int → Option Int
  | 0, _ => none
  | n + 1, g => (gs[g.toNat]?).bind fun gm => (mapO (tn gs n) gm.2).bind fun a => (mapO (tn gs n) gm.1).bind fun b => look gs (canon a, canon b)
def tr (gs : List Gm) (g : Int) : Option Int := tn gs (g.toNat + 1) g
theorem tn_more {gs : List Gm} (o : GOk gs) : ∀ (n k : Nat) (g : Int), g.toNat < n → n ≤ k → tn gs k g = tn gs n g
  | 0, _, _, h, _ => by omega
  | n + 1, 0, _, _, h => by omega
  | n + 1, k + 1, g, h, hk => by
    show (gs[g.toNat]?).bind _ = (gs[g.toNat]?).bind _
    cases e : gs[g.toNat]? with
    | none => rfl
    | some gm =>
      have low := o.low _ gm e
      show (mapO (tn gs k) gm.2).bind _ = (mapO (tn gs n) gm.2).bind _
      rw [mapO_congr (f := tn gs k) (g := tn gs n) (l := gm.2) fun x hx => tn_more o n k x (by have := low x (List.mem_append_right _ hx); omega) (by omega),
        mapO_congr (f := tn gs k) (g := tn gs n) (l := gm.1) fun x hx => tn_more o n k x (by have := low x (List.mem_append_left _ hx); omega) (by omega)]
theorem tr_eq {gs : List Gm} (o : GOk gs) {g : Int} {gm : Gm} (e : gs[g.toNat]? = some gm) : tr gs g = (mapO (tr gs) gm.2).bind fun a => (mapO (tr gs) gm.1).bind fun b => look gs (canon a, canon b) := by
  have low := o.low _ gm e
  show (gs[g.toNat]?).bind _ = _
  rw [e]
  show (mapO (tn gs g.toNat) gm.2).bind _ = _
  rw [mapO_congr (f := tn gs g.toNat) (g := tr gs) (l := gm.2) fun x hx => tn_more o (x.toNat + 1) g.toNat x (by omega) (by have := low x (List.mem_append_right _ hx); omega),
    mapO_congr (f := tn gs g.toNat) (g := tr gs) (l := gm.1) fun x hx => tn_more o (x.toNat + 1) g.toNat x (by omega) (by have := low x (List.mem_append_left _ hx); omega)]
theorem bind3 {α β γ : Type} {p : Option α} {q : Option β} {f : α → β → Option γ} {z : γ} : (p.bind fun a => q.bind fun b => f a b) = some z ↔ ∃ a b, p = some a ∧ q = some b ∧ f a b = some z := by
  cases p <;> cases q <;> simp
theorem tn_app {gs f : List Gm} : ∀ (n : Nat) (g x : Int), tn gs n g = some x → tn (gs ++ f) n g = some x
  | 0, _, _, h => nomatch h
  | n + 1, g, x, h => by
    obtain ⟨gm, e, h⟩ := Option.bind_eq_some_iff.mp (show (gs[g.toNat]?).bind _ = some x from h)
    obtain ⟨a, b, h1, h2, h3⟩ := bind3.mp h
    show ((gs ++ f)[g.toNat]?).bind _ = some x
    rw [List.getElem?_append_left (List.getElem?_eq_some_iff.mp e).1, e]
    exact bind3.mpr ⟨a, b, mapO_mono (fun y _ z => tn_app n y z) h1, mapO_mono (fun y _ z => tn_app n y z) h2, look_app h3⟩
theorem tr_app {gs f : List Gm} {g x : Int} (h : tr gs g = some x) : tr (gs ++ f) g = some x := tn_app _ _ _ h
theorem tr_some {gs : List Gm} (o : GOk gs) {g x : Int} (h : tr gs g = some x) : ∃ gm a b, gs[g.toNat]? = some gm ∧ mapO (tr gs) gm.2 = some a ∧ mapO (tr gs) gm.1 = some b ∧ 0 ≤ x ∧ gs[x.toNat]? = some (canon a, canon b) ∧ look gs (canon a, canon b) = some x := by
  obtain ⟨gm, e, _⟩ := Option.bind_eq_some_iff.mp (show (gs[g.toNat]?).bind _ = some x from h)
  rw [tr_eq o e] at h
  obtain ⟨a, b, h1, h2, h3⟩ := bind3.mp h
  exact ⟨gm, a, b, e, h1, h2, (look_get h3).1, (look_get h3).2, h3⟩
/-- turned again it is the game -/
theorem tr_back {gs : List Gm} (o : GOk gs) : ∀ (n : Nat) (g x : Int), g.toNat < n → 0 ≤ g → tr gs g = some x → tr gs x = some g
  | 0, _, _, h, _, _ => by omega
  | n + 1, g, x, hn, g0, h => by
    obtain ⟨gm, a, b, e, h1, h2, x0, ex, _⟩ := tr_some o h
    have low := o.low _ gm e
    have up := o.up gm (List.mem_of_getElem? e)
    have bk : ∀ (l a : List Int), (∀ m ∈ l, m ∈ gm.1 ++ gm.2) → l.Pairwise (· < ·) → mapO (tr gs) l = some a → ∃ c, mapO (tr gs) (canon a) = some c ∧ canon c = l := fun l a hl ul ha => by
      obtain ⟨c, hc⟩ := mapO_def (f := tr gs) (l := canon a) fun z hz => by
        obtain ⟨y, hy, ey⟩ := (mapO_mem ha z).mp (canon_mem.mp hz)
        have := low y (hl y hy)
        exact ⟨y, tr_back o n y z (by omega) this.1 ey⟩
      refine ⟨c, hc, up_eq (canon_up c) ul fun z => ?_⟩
      rw [canon_mem, mapO_mem hc]
      constructor
      · rintro ⟨w, hw, ew⟩
        obtain ⟨y, hy, ey⟩ := (mapO_mem ha w).mp (canon_mem.mp hw)
        have := low y (hl y hy)
        have := tr_back o n y w (by omega) this.1 ey
        rw [this] at ew
        cases ew; exact hy
      · intro hz
        have lz := low z (hl z hz)
        obtain ⟨w, ew⟩ := mapO_all ha z hz
        exact ⟨w, canon_mem.mpr ((mapO_mem ha w).mpr ⟨z, hz, ew⟩), tr_back o n z w (by omega) lz.1 ew⟩
    obtain ⟨c, hc, ec⟩ := bk gm.2 a (fun m hm => List.mem_append_right _ hm) up.2 h1
    obtain ⟨c', hc', ec'⟩ := bk gm.1 b (fun m hm => List.mem_append_left _ hm) up.1 h2
    rw [tr_eq o ex]
    refine bind3.mpr ⟨c', c, hc', hc, ?_⟩
    rw [ec, ec']
    have := look_of o.nd e
    rw [Int.toNat_of_nonneg g0] at this
    exact this
theorem tr_inj {gs : List Gm} (o : GOk gs) {g h x : Int} (g0 : 0 ≤ g) (h0 : 0 ≤ h) (e : tr gs g = some x) (e' : tr gs h = some x) : g = h := by
  have a := tr_back o _ g x (Nat.lt_succ_self _) g0 e
  have b := tr_back o _ h x (Nat.lt_succ_self _) h0 e'
  exact Option.some.inj (a.symm.trans b)
theorem tr_depth {gs : List Gm} {ds : List Int} (o : GOk gs) (d : DOk gs ds) : ∀ (n : Nat) (g x : Int), g.toNat < n → 0 ≤ g → tr gs g = some x → ds[x.toNat]? = ds[g.toNat]?
  | 0, _, _, h, _, _ => by omega
  | n + 1, g, x, hn, g0, h => by
    obtain ⟨gm, a, b, e, h1, h2, x0, ex, _⟩ := tr_some o h
    have low := o.low _ gm e
    have lg := (List.getElem?_eq_some_iff.mp e).1
    have lx := (List.getElem?_eq_some_iff.mp ex).1
    have dl := d.len
    obtain ⟨dg, hdg⟩ : ∃ v, ds[g.toNat]? = some v := ⟨_, List.getElem?_eq_getElem (by omega)⟩
    obtain ⟨dx, hdx⟩ : ∃ v, ds[x.toNat]? = some v := ⟨_, List.getElem?_eq_getElem (by omega)⟩
    obtain ⟨p1, p2, p3⟩ := d.at_ _ gm dg e hdg
    obtain ⟨q1, q2, q3⟩ := d.at_ _ _ dx ex hdx
    have mm : ∀ z, z ∈ dps ds (canon a ++ canon b) ↔ z ∈ dps ds (gm.1 ++ gm.2) := fun z => by
      have ih : ∀ y ∈ gm.1 ++ gm.2, ∀ w, tr gs y = some w → ds[w.toNat]?.getD 0 = ds[y.toNat]?.getD 0 := fun y hy w ew => by
        have := low y hy
        rw [tr_depth o d n y w (by omega) this.1 ew]
      unfold dps
      rw [List.mem_map, List.mem_map]
      constructor
      · rintro ⟨w, hw, rfl⟩
        rcases List.mem_append.mp hw with hw | hw
        · obtain ⟨y, hy, ey⟩ := (mapO_mem h1 w).mp (canon_mem.mp hw)
          exact ⟨y, List.mem_append_right _ hy, (ih y (List.mem_append_right _ hy) w ey).symm⟩
        · obtain ⟨y, hy, ey⟩ := (mapO_mem h2 w).mp (canon_mem.mp hw)
          exact ⟨y, List.mem_append_left _ hy, (ih y (List.mem_append_left _ hy) w ey).symm⟩
      · rintro ⟨y, hy, rfl⟩
        rcases List.mem_append.mp hy with hy' | hy'
        · obtain ⟨w, ew⟩ := mapO_all h2 y hy'
          exact ⟨w, List.mem_append_right _ (canon_mem.mpr ((mapO_mem h2 w).mpr ⟨y, hy', ew⟩)), ih y hy w ew⟩
        · obtain ⟨w, ew⟩ := mapO_all h1 y hy'
          exact ⟨w, List.mem_append_left _ (canon_mem.mpr ((mapO_mem h1 w).mpr ⟨y, hy', ew⟩)), ih y hy w ew⟩
    have nil : canon a ++ canon b = [] ↔ gm.1 ++ gm.2 = [] := by
      have e1 := mapO_len h1
      have e2 := mapO_len h2
      constructor
      · intro z
        obtain ⟨z1, z2⟩ := List.append_eq_nil_iff.mp z
        have a0 : a = [] := List.eq_nil_iff_forall_not_mem.mpr fun y hy => by have := canon_mem.mpr hy; rw [z1] at this; cases this
        have b0 : b = [] := List.eq_nil_iff_forall_not_mem.mpr fun y hy => by have := canon_mem.mpr hy; rw [z2] at this; cases this
        rw [a0] at e1; rw [b0] at e2
        rw [List.eq_nil_of_length_eq_zero e1.symm, List.eq_nil_of_length_eq_zero e2.symm]; rfl
      · intro z
        obtain ⟨z1, z2⟩ := List.append_eq_nil_iff.mp z
        rw [z2] at e1; rw [z1] at e2
        rw [List.eq_nil_of_length_eq_zero e1, List.eq_nil_of_length_eq_zero e2]; rfl
    rw [hdg, hdx]
    refine congrArg some ?_
    by_cases z : gm.1 ++ gm.2 = []
    · rw [p1 z, q1 (nil.mpr z)]
    · obtain ⟨u, hu, eu⟩ := p3 z
      obtain ⟨v, hv, ev⟩ := q3 (fun y => z (nil.mp y))
      have := p2 v ((mm v).mp hv)
      have := q2 u ((mm u).mpr hu)
      omega

/-! what a Putting knows -/
structure TOk (gs : List Gm) (N : Nat) (kvs : List KX) : Prop where
  nd : (kvs.map (·.1)).Nodup
  at_ : ∀ x ∈ kvs, ∃ (g : Nat) (y : Int), g < N ∧ x.1 = .inl (g : Int) ∧ x.2 = .int y ∧ tr gs g = some y
theorem TOk.nil {gs : List Gm} {N : Nat} : TOk gs N [] := ⟨List.nodup_nil, fun _ h => nomatch h⟩
theorem TOk.more {gs f : List Gm} {N : Nat} {kvs : List KX} (t : TOk gs N kvs) : TOk (gs ++ f) N kvs := ⟨t.nd, fun x hx => by
  obtain ⟨g, y, h1, h2, h3, h4⟩ := t.at_ x hx
  exact ⟨g, y, h1, h2, h3, tr_app h4⟩⟩
theorem TOk.len {gs : List Gm} {N : Nat} {kvs : List KX} (t : TOk gs N kvs) : kvs.length ≤ N := by
  have := nodup_le (kvs.map (·.1)) ((List.range N).map fun (g : Nat) => (.inl (g : Int) : Key)) t.nd fun x hx => by
    obtain ⟨y, hy, rfl⟩ := List.mem_map.mp hx
    obtain ⟨g, _, h1, h2, _⟩ := t.at_ y hy
    rw [h2]
    exact List.mem_map.mpr ⟨g, List.mem_range.mpr h1, rfl⟩
  simpa using this
theorem TOk.val {gs : List Gm} {N : Nat} {kvs : List KX} (t : TOk gs N kvs) {g : Nat} {v : V} (h : valV kvs (.inl (g : Int)) = some v) : ∃ y, v = .int y ∧ tr gs g = some y := by
  obtain ⟨x, hx, e, rfl⟩ := valV_mem h
  obtain ⟨g', y, _, e', hv, ht⟩ := t.at_ x hx
  rw [e] at e'
  injection e' with e'
  rw [← e'] at ht
  exact ⟨y, hv, ht⟩
theorem TOk.put {gs : List Gm} {N : Nat} {kvs : List KX} (t : TOk gs N kvs) {g : Nat} {y : Int} (hg : g < N) (ht : tr gs g = some y) : TOk gs N (putK kvs (.inl (g : Int)) (.int y)) := by
  unfold putK
  split
  · refine ⟨?_, fun x hx => ?_⟩
    · rw [List.map_map]
      have : (kvs.map ((fun x : KX => x.1) ∘ fun kv => if kv.1 = .inl (g : Int) then (kv.1, V.int y) else kv)) = kvs.map (·.1) := by
        refine List.map_congr_left fun x _ => ?_
        simp only [Function.comp]
        split <;> rfl
      rw [this]; exact t.nd
    · obtain ⟨z, hz, rfl⟩ := List.mem_map.mp hx
      split
      · rename_i e
        exact ⟨g, y, hg, e, rfl, ht⟩
      · exact t.at_ z hz
  · rename_i h
    refine ⟨?_, fun x hx => ?_⟩
    · rw [List.map_append, List.nodup_append]
      refine ⟨t.nd, by simp, fun x hx z hz => ?_⟩
      obtain ⟨w, hw, rfl⟩ := List.mem_map.mp hx
      simp at hz
      subst hz
      intro e
      exact h (List.any_eq_true.mpr ⟨w, hw, by simpa using e⟩)
    · rcases List.mem_append.mp hx with hx | hx
      · exact t.at_ x hx
      · cases List.mem_singleton.mp hx
        exact ⟨g, y, hg, rfl, rfl, ht⟩
def putFs (b tk sk : Addr) : List (Str × V) := [("book", .ref b), ("turned", .ref tk), ("sums", .ref sk)]
theorem putFs_book {b tk sk : Addr} : (putFs b tk sk).lookup ("book" : Str) = some (.ref b) := by rfl
theorem putFs_turned {b tk sk : Addr} : (putFs b tk sk).lookup ("turned" : Str) = some (.ref tk) := by rfl
theorem putFs_sums {b tk sk : Addr} : (putFs b tk sk).lookup ("sums" : Str) = some (.ref sk) := by rfl
theorem putFs_turn {b tk sk : Addr} : (putFs b tk sk).lookup ("turn" : Str) = none := by rfl
theorem putFs_put {b tk sk : Addr} : (putFs b tk sk).lookup ("put" : Str) = none := by rfl
local macro_rules | `(tactic| kaf_suf) => `(tactic| first
  | ((with_reducible refine' r_kfld ?a (Txt.cl_Putting (by assumption)) (Txt.na_Putting_book (by assumption)) putFs_book ?_); (case a => (kaf_pre; done)))
  | ((with_reducible refine' r_kfld ?a (Txt.cl_Putting (by assumption)) (Txt.na_Putting_turned (by assumption)) putFs_turned ?_); (case a => (kaf_pre; done)))
  | ((with_reducible refine' r_kfld ?a (Txt.cl_Putting (by assumption)) (Txt.na_Putting_sums (by assumption)) putFs_sums ?_); (case a => (kaf_pre; done)))
  | ((with_reducible refine' r_kmeth ?a ?b ?_); (case a => (kaf_pre; done)); (case b => (first | exact putFs_turn | exact putFs_put))))
structure PutAt (c : Cn) (H : Hp) (pu b tk sk : Addr) (M : Addr → Prop) (gs : List Gm) (N : Nat) (kvs : List KX) : Prop where
  here : ∃ dx, H pu = some (.ins c.cPutting dx (putFs b tk sk))
  K : H tk = some (.dK kvs)
  ok : TOk gs N kvs
  nm : ¬ M tk
theorem PutAt.keep {c : Cn} {H H' : Hp} {pu b tk sk : Addr} {M W : Addr → Prop} {gs f : List Gm} {N : Nat} {kvs : List KX} (t : PutAt c H pu b tk sk M gs N kvs) (k : Keep W H H') (n : ∀ x, W x → (∃ l, H x = some (.lst l)) ∨ ∃ φ, H x = some (.ext φ)) : PutAt c H' pu b tk sk M (gs ++ f) N kvs := by
  obtain ⟨⟨dx, h⟩, h2, h4, h5⟩ := t
  refine ⟨⟨dx, k _ _ (fun z => ?_) h⟩, k _ _ (fun z => ?_) h2, h4.more, h5⟩
  · rcases n _ z with ⟨l, e⟩ | ⟨l, e⟩ <;> rw [h] at e <;> cases e
  · rcases n _ z with ⟨l, e⟩ | ⟨l, e⟩ <;> rw [h2] at e <;> cases e
theorem PutAt.same {c : Cn} {H H' : Hp} {pu b tk sk : Addr} {M : Addr → Prop} {gs : List Gm} {N : Nat} {kvs : List KX} (t : PutAt c H pu b tk sk M gs N kvs) (k : Keep Nil H H') : PutAt c H' pu b tk sk M gs N kvs := by
  have := t.keep (f := []) k fun _ z => z.elim
  rwa [List.append_nil] at this
theorem PutAt.keepL {c : Cn} {H H' : Hp} {pu b tk sk : Addr} {M W : Addr → Prop} {gs : List Gm} {N : Nat} {kvs : List KX} (t : PutAt c H pu b tk sk M gs N kvs) (k : Keep W H H') (n : ∀ x, W x → ∃ l, H x = some (.lst l)) : PutAt c H' pu b tk sk M gs N kvs := by
  have := t.keep (f := []) k fun x h => .inl (n x h)
  rwa [List.append_nil] at this
abbrev N_Putting_init : List Str := ["self", "book"]
theorem sc_Putting_init : FnScope N_Putting_init ["self", "book"] (defScope s_Putting_init) := ⟨rfl, rfl, rfl, by decide +kernel, rfl, by decide +kernel, by decide +kernel⟩
def t_Putting_init (c : Cn) : TS :=
  (tSeq (sFld c.K (tVar 0) (tVar 1) "book")
  (tSeq (sFld c.K (tVar 0) (uDNew c.P c.w) "turned")
  (sFld c.K (tVar 0) (uDNew c.P c.w) "sums")))
def sp_Putting_init (c : Cn) : Sp := fun vs H Q E => vs.length = 2 ∧ ∃ (x b dx : Addr) (M : Addr → Prop) (gs : List Gm) (ds : List Int), vs = [.ref x, .ref b] ∧ H x = some (.ins c.cPutting dx []) ∧ BookAt c H b M gs ds ∧
  ∀ (H' : Hp) (tk sk : Addr), H tk = none → H sk = none → sk ≠ tk → Keep (fun a => a = x) H H' → H' sk = some (NdO c.P c.w sk []) → (∀ N, PutAt c H' x b tk sk M gs N []) → Q .non H'
theorem p_Putting_init {c : Cn} {mg : Str → Option Value} (T : Txt c mg) {vs : List V} {H : Hp} {Q : VK} {E : XK} (h : sp_Putting_init c vs H Q E) : t_Putting_init c { nx := fun _ H' => Q .non H', rt := Q } (start N_Putting_init vs) H := by
  obtain ⟨_, x, b, dx, M, gs, ds, rfl, hx, B, k⟩ := h
  unfold t_Putting_init
  repeat kaf_suf
  refine r_ksfld (by kaf_pre) (Txt.cl_Putting T) (Txt.na_Putting_book T) (by decide) ?_
  repeat kaf_suf
  refine .inl ⟨true, fun tk htk => ?_⟩
  rw [if_pos rfl]
  have hx1 : (upd (upd H x (.ins c.cPutting dx (putF (Str.ofString "book") (.ref b) []))) tk (.dK [])) x = some (.ins c.cPutting dx (putF (Str.ofString "book") (.ref b) [])) := get_new htk upd_same
  have ntx : tk ≠ x := ne_new htk upd_same
  have htk0 : H tk = none := none_of_upd htk
  repeat kaf_suf
  refine r_ksfld hx1 (Txt.cl_Putting T) (Txt.na_Putting_turned T) (by show 1 < 1000; decide) ?_
  repeat kaf_suf
  refine .inl ⟨false, fun sk hsk => ?_⟩
  rw [if_neg Bool.false_ne_true]
  have e2 : (upd (upd (upd H x (.ins c.cPutting dx (putF (Str.ofString "book") (.ref b) []))) tk (.dK [])) x (.ins c.cPutting dx (putF (Str.ofString "turned") (.ref tk) (putF (Str.ofString "book") (.ref b) [])))) tk = some (.dK []) := get_set ntx upd_same
  repeat kaf_suf
  refine r_ksfld (get_new hsk upd_same) (Txt.cl_Putting T) (Txt.na_Putting_sums T) (by show 2 < 1000; decide) ?_
  repeat kaf_suf
  have hsk0 : H sk = none := none_of_upd (none_of_upd (none_of_upd hsk))
  have nst : sk ≠ tk := ne_new hsk e2
  have nsx : sk ≠ x := ne_new hsk upd_same
  refine k _ tk sk htk0 hsk0 nst (Keep.set (M := fun a => a = x) (Keep.new (Keep.set (Keep.new (Keep.set Keep.refl rfl) htk) rfl) hsk) rfl) (get_set nsx upd_same) fun N => ⟨⟨dx, upd_same⟩, get_set ntx (get_new hsk e2), TOk.nil, B.new htk0⟩
theorem mak_Putting {c : Cn} {mg : Str → Option Value} {base : Heap} (T : Txt c mg) : Mak c.P c.w c.K mg base CX0 1 "Putting" c.cPutting (sp_Putting_init c) := by
  obtain ⟨f, fd, F, g, b⟩ := T.F_Putting_init
  exact ⟨f, fd, ["self", "book"], g, F.ok (k := 0) (N := N_Putting_init) sc_Putting_init (fun vs H Q E h => h.1) (fun cdv A outer s H vs Q E hr h => ⟨t_Putting_init c, by
  exact (pss_cons (ps_fld (pv 0) (pv 1) rfl)
  (pss_cons (ps_fld (pv 0) pe_dnew rfl)
  (pss_one (ps_fld (pv 0) pe_dnew rfl)))), p_Putting_init T h⟩), T.g_Putting, b⟩
def sp_Putting_turn (n : Nat) (c : Cn) : Sp := fun vs H Q E => vs.length = 2 ∧ ∃ (pu b tk sk : Addr) (M : Addr → Prop) (gs : List Gm) (ds : List Int) (N : Nat) (kvs : List KX) (g : Nat), vs = [.ref pu, .int g] ∧ PutAt c H pu b tk sk M gs N kvs ∧ BookAt c H b M gs ds ∧ g < gs.length ∧ (∃ dg, ds[g]? = some dg ∧ dg < n) ∧ g < N ∧ N ≤ 2000 ∧ gs.length + N ≤ 80000 + kvs.length ∧
  ∀ (H' : Hp) (f : List Gm) (e : List Int) (kvs' : List KX) (x : Int), Keep (fun a => a = tk ∨ M a) H H' → PutAt c H' pu b tk sk M (gs ++ f) N kvs' → BookAt c H' b M (gs ++ f) (ds ++ e) → f.length + kvs.length ≤ kvs'.length → tr (gs ++ f) g = some x → ((∃ y, tr gs g = some y) → f = []) → Q (.int x) H'
theorem z_Putting_turn {c : Cn} {vs : List V} {H : Hp} {Q : VK} {E : XK} (h : sp_Putting_turn 0 c vs H Q E) : False := by
  obtain ⟨_, _, _, _, _, _, _, ds, _, _, g, _, _, B, hg, ⟨dg, h, h'⟩, _⟩ := h
  have := DOk.pos B.ok B.dok (g + 1) g (by omega) dg h
  omega
abbrev N_Putting_turn : List Str := ["self", "g", "lefts", "rights", "move"]
theorem sc_Putting_turn : FnScope N_Putting_turn ["self", "g"] (defScope s_Putting_turn) := ⟨rfl, rfl, rfl, by decide +kernel, rfl, by decide +kernel, by decide +kernel⟩
def t_Putting_turn (n : Nat) (c : Cn) : TS :=
  (C8.tCut (tIfS (tTest (tOp (cNotIn c.P c.w c.K) (tVar 1) (tFld c.K (tVar 0) "turned")))
  (tSeq (tAsg (tLc (iAny c.K (tMeth c.cBook "rights" (sp_Book_rights c) [] E0 (tFld c.K (tVar 0) "book") (tCons (tVar 1) tNil))) (gName 4) tYes (tMeth c.cPutting "turn" (sp_Putting_turn n c) [] E0 (tVar 0) (tCons (tVar 4) tNil)) [4]) (gName 2))
  (tSeq (tAsg (tLc (iAny c.K (tMeth c.cBook "lefts" (sp_Book_lefts c) [] E0 (tFld c.K (tVar 0) "book") (tCons (tVar 1) tNil))) (gName 4) tYes (tMeth c.cPutting "turn" (sp_Putting_turn n c) [] E0 (tVar 0) (tCons (tVar 4) tNil)) [4]) (gName 3))
  (tAsg (tMeth c.cBook "game" (sp_Book_game c) [] E0 (tFld c.K (tVar 0) "book") (tCons (tVar 2) (tCons (tVar 3) tNil))) (gSub (tFld c.K (tVar 0) "turned") (tVar 1) (bSet c.P c.w)))))
  tNext)
  (tRet (tOp (bIx c.P c.w c.K) (tFld c.K (tVar 0) "turned") (tVar 1))))
theorem p_Putting_turn {n : Nat} {c : Cn} {mg : Str → Option Value} (T : Txt c mg) {vs : List V} {H : Hp} {Q : VK} {E : XK} (h : sp_Putting_turn (n + 1) c vs H Q E) : t_Putting_turn n c { nx := fun _ H' => Q .non H', rt := Q } (start N_Putting_turn vs) H := by
  obtain ⟨_, pu, b, tk, sk, M, gs, ds, N, kvs, g, rfl, t, B, hg, hn, hN, fN, few, k⟩ := h
  obtain ⟨dx, ht⟩ := t.here
  obtain ⟨dg, hdg, hdn⟩ := hn
  unfold t_Putting_turn
  refine ⟨fun σ' H' => ∃ (x2 x3 : Option V) (f : List Gm) (e : List Int) (kvs' : List KX) (x : Int), σ' = [some (.ref pu), some (.int g), x2, x3, none] ∧ Keep (fun a => a = tk ∨ M a) H H' ∧ PutAt c H' pu b tk sk M (gs ++ f) N kvs' ∧ BookAt c H' b M (gs ++ f) (ds ++ e) ∧ f.length + kvs.length ≤ kvs'.length ∧ tr (gs ++ f) g = some x ∧ ((∃ y, tr gs g = some y) → f = []) ∧ valV kvs' (.inl (g : Int)) = some (.int x), ?_, ?_⟩
  · repeat kaf_suf
    refine .inr (.inr (.inr (.inl ⟨tk, _, rfl, DGet.k (k := .inl (g : Int)) t.K, ?_⟩)))
    cases e : valV kvs (.inl (g : Int)) with
    | some v =>
      refine r_kB (r_ite_ff ?_)
      obtain ⟨y, rfl, ey⟩ := t.ok.val e
      repeat kaf_suf
      exact ⟨_, _, [], [], kvs, y, rfl, Keep.refl, by rw [List.append_nil]; exact t, by rw [List.append_nil, List.append_nil]; exact B, by simp, by rw [List.append_nil]; exact ey, fun _ => rfl, e⟩
    | none =>
      refine r_kB (r_ite_tt ?_)
      repeat kaf_suf
      have hgm : gs[g]? = some gs[g] := List.getElem?_eq_getElem hg
      generalize gs[g] = gm at hgm
      have low := B.ok.low g gm hgm
      have low1 : ∀ m ∈ gm.1, 0 ≤ m ∧ m < g := fun m hm => low m (List.mem_append_left _ hm)
      have low2 : ∀ m ∈ gm.2, 0 ≤ m ∧ m < g := fun m hm => low m (List.mem_append_right _ hm)
      have up := B.ok.up gm (List.mem_of_getElem? hgm)
      have gl1 := up_len _ 0 g up.1 low1 (by omega)
      have gl2 := up_len _ 0 g up.2 low2 (by omega)
      obtain ⟨bx, bm, bn, bd, hb⟩ := B.ins_
      repeat kaf_suf
      refine ⟨rfl, b, M, gs, ds, g, gm, rfl, B, hgm, fun r hr => ?_⟩
      have kr : Keep Nil H (upd H r (.lst (gm.2.map V.int))) := Keep.alloc hr
      have erA : (upd H r (.lst (gm.2.map V.int))) r = some (.lst (gm.2.map V.int)) := upd_same
      have wrA : ¬ (r = tk ∨ M r) := fun z => z.elim (fun z => by rw [z, t.K] at hr; cases hr) (B.new hr)
      have tA := t.same kr
      have BA := B.same kr
      generalize upd H r (.lst (gm.2.map V.int)) = Hr at kr erA tA BA ⊢
      clear hr hb
      repeat kaf_suf
      intro DA hDA
      have nDAt : DA ≠ tk := fun z => by rw [z, tA.K] at hDA; cases hDA
      have nDA : ¬ M DA := BA.new hDA
      have wDA : ¬ (DA = tk ∨ M DA) := fun z => z.elim nDAt nDA
      refine lc_list (xs := gm.2.map V.int) (fun j H' => ∃ (f : List Gm) (e : List Int) (kvs' : List KX) (acc : List Int), H' DA = some (.lst (acc.map V.int)) ∧ Keep (fun a => a = tk ∨ M a) Hr H' ∧ PutAt c H' pu b tk sk M (gs ++ f) N kvs' ∧ BookAt c H' b M (gs ++ f) (ds ++ e) ∧ f.length + kvs.length ≤ kvs'.length ∧ mapO (tr (gs ++ f)) (gm.2.take j) = some acc ∧ ((∃ y, tr gs g = some y) → f = [])) ⟨[], [], kvs, [], upd_same, Keep.alloc hDA, by rw [List.append_nil]; exact tA.same (Keep.alloc hDA), by rw [List.append_nil, List.append_nil]; exact BA.same (Keep.alloc hDA), by simp, rfl, fun _ => rfl⟩ ?_ ?_ ?_
      · rintro j H' _ ⟨_, _, _, _, _, k1, _⟩; exact SqL.of (k1 _ _ wrA erA)
      · rintro j x H1 hj ⟨f, e, kvs1, acc, eD, k1, t1, B1, fl, ea, hf⟩
        rw [List.getElem?_map] at hj
        obtain ⟨m, hm, rfl⟩ := Option.map_eq_some_iff.mp hj
        have mm := List.mem_of_getElem? hm
        obtain ⟨m0, m1⟩ := low2 m mm
        obtain ⟨mn, rfl⟩ := Int.eq_ofNat_of_zero_le m0
        have hjl := (List.getElem?_eq_some_iff.mp hm).1
        obtain ⟨dm, hdm, ldm⟩ := B.dok.move B.ok hgm hdg (List.mem_append_right _ mm)
        rw [Int.toNat_natCast] at hdm
        have hdm' : (ds ++ e)[mn]? = some dm := by rw [List.getElem?_append_left (List.getElem?_eq_some_iff.mp hdm).1]; exact hdm
        obtain ⟨dx1, ht1⟩ := t1.here
        repeat kaf_suf
        refine ⟨rfl, ?_⟩
        repeat kaf_suf
        refine ⟨rfl, pu, b, tk, sk, M, gs ++ f, ds ++ e, N, kvs1, mn, rfl, t1, B1, by rw [List.length_append]; omega, ⟨dm, hdm', by omega⟩, by omega, fN, by rw [List.length_append]; omega, fun H2 f2 e2 kvs2 x2 k2 t2 B2 fl2 ex2 hf2 => ?_⟩
        have eD2 := k2 _ _ wDA eD
        have al := mapO_len ea
        rw [List.length_take] at al
        have q1 : gs ++ (f ++ f2) = gs ++ f ++ f2 := by simp
        have q2 : ds ++ (e ++ e2) = ds ++ e ++ e2 := by simp
        refine ⟨_, eD2, few1 (by rw [List.length_map]; omega), f ++ f2, e ++ e2, kvs2, acc ++ [x2], by rw [List.map_append]; exact upd_same, (k1.trans k2).setN hDA, ?_, ?_, by rw [List.length_append]; omega, ?_, ?_⟩
        · rw [q1]; exact t2.keepL (W := fun a => a = DA) (Keep.refl.set rfl) fun z e => ⟨_, e ▸ eD2⟩
        · rw [q1, q2]; exact B2.keep (N := fun a => a = DA) (Keep.refl.set rfl) (fun z e => ⟨_, e ▸ eD2⟩) fun z hz e => nDA (e ▸ hz)
        · have tk1 : (gm.2).take (j + 1) = (gm.2).take j ++ [(mn : Int)] := by rw [List.take_succ, hm]; rfl
          rw [tk1, q1]
          exact mapO_snoc (mapO_mono (fun _ _ _ h => tr_app h) ea) ex2
        · intro hy
          have f0 := hf hy
          subst f0
          have : f2 = [] := hf2 (by
            obtain ⟨y, hy⟩ := hy
            obtain ⟨gm', a', b', e1, e2, e3, _⟩ := tr_some B.ok hy
            rw [Int.toNat_natCast, hgm] at e1
            cases e1
            rw [List.append_nil]
            exact mapO_all e2 _ mm)
          rw [this]; rfl
      rintro H3 ⟨f3, e3, kvs3, aa, eD3, k3, t3, B3, fl3, ea3, hf3⟩
      rw [List.length_map, List.take_length] at ea3
      obtain ⟨dx3, ht3⟩ := t3.here
      obtain ⟨bx3, bm3, bn3, bd3, hb3⟩ := B3.ins_
      have hg3 : (gs ++ f3)[g]? = some gm := by rw [List.getElem?_append_left hg]; exact hgm
      have kH3 : Keep (fun a => a = tk ∨ M a) H H3 := kr.weak.trans k3
      have hDA0 : H DA = none := keep_none kr hDA
      clear k3 kr tA BA hDA erA
      repeat kaf_suf
      refine ⟨rfl, b, M, _, _, g, gm, rfl, B3, hg3, fun r2 hr2 => ?_⟩
      have kr : Keep Nil H3 (upd H3 r2 (.lst (gm.1.map V.int))) := Keep.alloc hr2
      have erB : (upd H3 r2 (.lst (gm.1.map V.int))) r2 = some (.lst (gm.1.map V.int)) := upd_same
      have wrB : ¬ (r2 = tk ∨ M r2) := fun z => z.elim (fun z => by rw [z, t3.K] at hr2; cases hr2) (B3.new hr2)
      have tB := t3.same kr
      have BB := B3.same kr
      have eD4 := kr.get (fun z => z) eD3
      have kH4 : Keep (fun a => a = tk ∨ M a) H (upd H3 r2 (.lst (gm.1.map V.int))) := kH3.trans kr.weak
      generalize upd H3 r2 (.lst (gm.1.map V.int)) = Hs at kr erB tB BB eD4 kH4 ⊢
      clear hr2 hb3 kH3 eD3
      repeat kaf_suf
      intro DB hDB
      have nDBt : DB ≠ tk := fun z => by rw [z, tB.K] at hDB; cases hDB
      have nDB : ¬ M DB := BB.new hDB
      have wDB : ¬ (DB = tk ∨ M DB) := fun z => z.elim nDBt nDB
      refine lc_list (xs := gm.1.map V.int) (fun j H' => ∃ (f : List Gm) (e : List Int) (kvs' : List KX) (acc : List Int), H' DB = some (.lst (acc.map V.int)) ∧ Keep (fun a => a = tk ∨ M a) Hs H' ∧ PutAt c H' pu b tk sk M (gs ++ f) N kvs' ∧ BookAt c H' b M (gs ++ f) (ds ++ e) ∧ f.length + kvs.length ≤ kvs'.length ∧ mapO (tr (gs ++ f)) (gm.1.take j) = some acc ∧ ((∃ y, tr gs g = some y) → f = []) ∧ mapO (tr (gs ++ f)) gm.2 = some aa) ⟨f3, e3, kvs3, [], upd_same, Keep.alloc hDB, tB.same (Keep.alloc hDB), BB.same (Keep.alloc hDB), fl3, rfl, hf3, ea3⟩ ?_ ?_ ?_
      · rintro j H' _ ⟨_, _, _, _, _, k1, _⟩; exact SqL.of (k1 _ _ wrB erB)
      · rintro j x H1 hj ⟨f, e, kvs1, acc, eD, k1, t1, B1, fl, ea, hf, eaa⟩
        rw [List.getElem?_map] at hj
        obtain ⟨m, hm, rfl⟩ := Option.map_eq_some_iff.mp hj
        have mm := List.mem_of_getElem? hm
        obtain ⟨m0, m1⟩ := low1 m mm
        obtain ⟨mn, rfl⟩ := Int.eq_ofNat_of_zero_le m0
        have hjl := (List.getElem?_eq_some_iff.mp hm).1
        obtain ⟨dm, hdm, ldm⟩ := B.dok.move B.ok hgm hdg (List.mem_append_left _ mm)
        rw [Int.toNat_natCast] at hdm
        have hdm' : (ds ++ e)[mn]? = some dm := by rw [List.getElem?_append_left (List.getElem?_eq_some_iff.mp hdm).1]; exact hdm
        obtain ⟨dx1, ht1⟩ := t1.here
        repeat kaf_suf
        refine ⟨rfl, ?_⟩
        repeat kaf_suf
        refine ⟨rfl, pu, b, tk, sk, M, gs ++ f, ds ++ e, N, kvs1, mn, rfl, t1, B1, by rw [List.length_append]; omega, ⟨dm, hdm', by omega⟩, by omega, fN, by rw [List.length_append]; omega, fun H2 f2 e2 kvs2 x2 k2 t2 B2 fl2 ex2 hf2 => ?_⟩
        have eD2 := k2 _ _ wDB eD
        have al := mapO_len ea
        rw [List.length_take] at al
        have q1 : gs ++ (f ++ f2) = gs ++ f ++ f2 := by simp
        have q2 : ds ++ (e ++ e2) = ds ++ e ++ e2 := by simp
        refine ⟨_, eD2, few1 (by rw [List.length_map]; omega), f ++ f2, e ++ e2, kvs2, acc ++ [x2], by rw [List.map_append]; exact upd_same, (k1.trans k2).setN hDB, ?_, ?_, by rw [List.length_append]; omega, ?_, ?_, ?_⟩
        · rw [q1]; exact t2.keepL (W := fun a => a = DB) (Keep.refl.set rfl) fun z e => ⟨_, e ▸ eD2⟩
        · rw [q1, q2]; exact B2.keep (N := fun a => a = DB) (Keep.refl.set rfl) (fun z e => ⟨_, e ▸ eD2⟩) fun z hz e => nDB (e ▸ hz)
        · have tk1 : (gm.1).take (j + 1) = (gm.1).take j ++ [(mn : Int)] := by rw [List.take_succ, hm]; rfl
          rw [tk1, q1]
          exact mapO_snoc (mapO_mono (fun _ _ _ h => tr_app h) ea) ex2
        · intro hy
          have f0 := hf hy
          subst f0
          have : f2 = [] := hf2 (by
            obtain ⟨y, hy⟩ := hy
            obtain ⟨gm', a', b', e1, e2, e3, _⟩ := tr_some B.ok hy
            rw [Int.toNat_natCast, hgm] at e1
            cases e1
            rw [List.append_nil]
            exact mapO_all e3 _ mm)
          rw [this]; rfl
        · rw [q1]; exact mapO_mono (fun _ _ _ h => tr_app h) eaa
      rintro H5 ⟨f5, e5, kvs5, bb, eD5, k5, t5, B5, fl5, ea5, hf5, eaa⟩
      rw [List.length_map, List.take_length] at ea5
      have eD6 := k5 _ _ wDA eD4
      have kH5 := kH4.trans k5
      have hDB0 : H DB = none := by
        cases e : H DB with
        | none => rfl
        | some o =>
          by_cases z : DB = tk ∨ M DB
          · exact absurd z wDB
          · rw [kH4 _ _ z e] at hDB; cases hDB
      obtain ⟨dx5, ht5⟩ := t5.here
      obtain ⟨bx5, bm5, bn5, bd5, hb5⟩ := B5.ins_
      clear k5 kH4 eD4 kr tB BB hDB erB
      have al := mapO_len eaa
      have bl := mapO_len ea5
      have tl := t5.ok.len
      have lowm : ∀ {l a : List Int}, mapO (tr (gs ++ f5)) l = some a → ∀ m ∈ a, 0 ≤ m ∧ m < (gs ++ f5).length := fun h m hm => by
        obtain ⟨y, _, ey⟩ := (mapO_mem h m).mp hm
        obtain ⟨_, _, _, _, _, _, z0, z1, _⟩ := tr_some B5.ok ey
        have := (List.getElem?_eq_some_iff.mp z1).1
        omega
      repeat kaf_suf
      refine ⟨rfl, b, DA, DB, M, gs ++ f5, ds ++ e5, aa, bb, rfl, B5, eD6, eD5, nDA, nDB, by rw [List.length_append]; omega, by omega, by omega, fun m hm => ?_, fun H6 e6 k6 B6 => ?_⟩
      · rcases List.mem_append.mp hm with h | h
        · exact lowm eaa m h
        · exact lowm ea5 m h
      obtain ⟨f6, hf6, fl6, fin6⟩ := addG_grow (gs := gs ++ f5) (k := (canon aa, canon bb))
      have mem6 := addG_mem (gs ++ f5) (canon aa, canon bb)
      rw [hf6] at B6 mem6 ⊢
      have hg6 : (gs ++ f5 ++ f6)[((g : Int)).toNat]? = some gm := by
        rw [Int.toNat_natCast, List.append_assoc, List.getElem?_append_left hg]; exact hgm
      have tr6 : tr (gs ++ f5 ++ f6) g = some (ixG (gs ++ f5 ++ f6) (canon aa, canon bb) : Int) := by
        rw [tr_eq B6.ok hg6]
        refine bind3.mpr ⟨aa, bb, mapO_mono (fun _ _ _ h => tr_app h) eaa, mapO_mono (fun _ _ _ h => tr_app h) ea5, ?_⟩
        unfold look; rw [if_pos mem6]
      have same6 : (∃ y, tr (gs ++ f5) g = some y) → f6 = [] := fun ⟨y, hy⟩ => by
        obtain ⟨gm', a', b', e1, e2, e3, _, _, e4⟩ := tr_some B5.ok hy
        rw [Int.toNat_natCast, List.getElem?_append_left hg, hgm] at e1
        cases e1
        rw [eaa] at e2; cases e2
        rw [ea5] at e3; cases e3
        unfold look at e4
        split at e4
        · rename_i h; exact fin6 h
        · cases e4
      have t6 : PutAt c H6 pu b tk sk M (gs ++ f5 ++ f6) N kvs5 := t5.keep k6 fun x h => B5.cell h
      obtain ⟨dx6, ht6⟩ := t6.here
      generalize (ixG (gs ++ f5 ++ f6) (canon aa, canon bb) : Int) = x6 at tr6 ⊢
      have q1 : gs ++ (f5 ++ f6) = gs ++ f5 ++ f6 := by simp
      have q2 : ds ++ (e5 ++ e6) = ds ++ e5 ++ e6 := by simp
      repeat kaf_suf
      refine .inr (.inl ⟨tk, _, rfl, DPut.k (k := .inl (g : Int)) t6.K (few1 (by omega)), ?_⟩)
      repeat kaf_suf
      have hpt : pu ≠ tk := fun z => by have := t6.K; rw [← z, ht6] at this; cases this
      refine ⟨_, _, f5 ++ f6, e5 ++ e6, putK kvs5 (.inl (g : Int)) (.int x6), x6, rfl, (kH5.trans (k6.mono fun _ h => .inr h)).set (.inl rfl), ?_, ?_, ?_, by rw [q1]; exact tr6, fun hy => ?_, putK_val⟩
      · rw [q1]; exact ⟨⟨dx6, get_set hpt ht6⟩, upd_same, t6.ok.put hN tr6, t6.nm⟩
      · rw [q1, q2]
        exact B6.keepY (N := fun a => a = tk) (Keep.refl.set rfl) (fun z e => by subst e; exact ⟨fun l h => (by rw [t6.K] at h; cases h), fun C d l h => (by rw [t6.K] at h; cases h)⟩) fun z hz e => t6.nm (e ▸ hz)
      · cases ev : valV kvs5 (.inl (g : Int)) with
        | none => rw [putK_new ev]; simp only [List.length_append, List.length_cons, List.length_nil]; omega
        | some v =>
          obtain ⟨y, _, hy⟩ := t5.ok.val ev
          rw [same6 ⟨y, hy⟩, List.append_nil]
          have := putK_len (kvs := kvs5) (k := .inl (g : Int)) (v := .int x6)
          omega
      · have f50 := hf5 hy
        have : ∃ y, tr (gs ++ f5) g = some y := by rw [f50, List.append_nil]; exact hy
        rw [f50, same6 this]; rfl
  · rintro σ' H' ⟨x2, x3, f, e, kvs', x, rfl, k', t', B', fl, ex, hf, ev⟩
    obtain ⟨dx', ht'⟩ := t'.here
    repeat kaf_suf
    refine .inr (.inr (.inr (.inl ⟨tk, _, rfl, ev ▸ DGet.k (k := .inl (g : Int)) t'.K, ?_⟩)))
    exact k _ f e kvs' x k' t' B' fl ex hf
theorem met_Putting_turn {c : Cn} {mg : Str → Option Value} {base : Heap} (T : Txt c mg) : ∀ n : Nat, Met c.P c.w c.K mg base CX0 (3 + n) c.cPutting "turn" (sp_Putting_turn n c)
  | 0 => by
    obtain ⟨f, fd, F, g, b⟩ := T.F_Putting_turn
    exact ⟨f, fd, ["self", "g"], T.cl_Putting, g, F.ok (k := 2) (N := N_Putting_turn) sc_Putting_turn (fun vs H Q E h => (z_Putting_turn h).elim) (fun cdv A outer s H vs Q E hr h => (z_Putting_turn h).elim), b⟩
  | n + 1 => by
    obtain ⟨f, fd, F, g, b⟩ := T.F_Putting_turn
    exact ⟨f, fd, ["self", "g"], T.cl_Putting, g, F.ok (k := 3 + n) (N := N_Putting_turn) sc_Putting_turn (fun vs H Q E h => h.1) (fun cdv A outer s H vs Q E hr h => ⟨t_Putting_turn n c, by
  exact (C8.pss_cut (ps_if (pt_cmpR (o_notin (hu65 hr)) (pv 1) (pe_fld (pv 0) rfl) (by rfl)) (pss_cons (ps_setLc (i := 2) (own := [("move", 4)]) rfl sc_Putting_turn.nd rfl rfl (sw_true rfl rfl rfl (by decide +kernel)) (pi_any (e_meth (met_Book_rights T) hr (by omega) passL (pe_fld (pv 0) rfl) (pa_cons (pv 1) pa_nil))) (blkOk_by (own := [("move", 4)]) (N := N_Putting_turn) (sc := defScope s_Putting_turn) (by decide +kernel)) (fun _ _ _ _ _ => (pg_name (i := 4) sc_Putting_turn.nd rfl (Or.inl rfl))) (fun _ _ _ _ _ => pts_nil) (fun _ _ _ _ _ => (e_meth (met_Putting_turn T n) hr (by omega) pass0 (pv 0) (pa_cons (pv 4) pa_nil))))
  (pss_cons (ps_setLc (i := 3) (own := [("move", 4)]) rfl sc_Putting_turn.nd rfl rfl (sw_true rfl rfl rfl (by decide +kernel)) (pi_any (e_meth (met_Book_lefts T) hr (by omega) passL (pe_fld (pv 0) rfl) (pa_cons (pv 1) pa_nil))) (blkOk_by (own := [("move", 4)]) (N := N_Putting_turn) (sc := defScope s_Putting_turn) (by decide +kernel)) (fun _ _ _ _ _ => (pg_name (i := 4) sc_Putting_turn.nd rfl (Or.inl rfl))) (fun _ _ _ _ _ => pts_nil) (fun _ _ _ _ _ => (e_meth (met_Putting_turn T n) hr (by omega) pass0 (pv 0) (pa_cons (pv 4) pa_nil))))
  (pss_one (ps_asg (e_meth (met_Book_game T) hr (by omega) passL (pe_fld (pv 0) rfl) (pa_cons (pv 2) (pa_cons (pv 3) pa_nil))) (pg_sub (pe_fld (pv 0) rfl) (pv 1) (s_set (hu64 hr))))))) pss_nil)
  (pss_one (ps_ret (pe_ix (x_ix (hu64 hr)) (pe_fld (pv 0) rfl) (pv 1) (fun _ _ => rfl))))), p_Putting_turn T h⟩), b⟩

/-! a game turned -/
abbrev N_turned : List Str := ["book", "g"]
theorem sc_turned : FnScope N_turned ["book", "g"] (defScope s_turned) := ⟨rfl, rfl, rfl, by decide +kernel, rfl, by decide +kernel, by decide +kernel⟩
def t_turned (c : Cn) : TS :=
  (tSeq (tDrop (tMeth c.cBook "depth" (sp_Book_depth c) [] E0 (tVar 0) (tCons (tVar 1) tNil)))
  (tRet (tMeth c.cPutting "turn" (sp_Putting_turn 70 c) [] E0 (tMake c.cPutting (sp_Putting_init c) [] E0 (tCons (tVar 0) tNil)) (tCons (tVar 1) tNil))))
def sp_turned (c : Cn) : Sp := fun vs H Q E => vs.length = 2 ∧ ∃ (b : Addr) (M : Addr → Prop) (gs : List Gm) (ds : List Int) (g : Nat), vs = [.ref b, .int g] ∧ BookAt c H b M gs ds ∧ g < gs.length ∧ (∃ dg, ds[g]? = some dg ∧ dg < 70) ∧ g < 1900 ∧ gs.length ≤ 70000 ∧
  ∀ (H' : Hp) (f : List Gm) (e : List Int) (x : Int), Keep M H H' → BookAt c H' b M (gs ++ f) (ds ++ e) → f.length ≤ g + 1 → tr (gs ++ f) g = some x → ((∃ y, tr gs g = some y) → f = []) → Q (.int x) H'
theorem p_turned {c : Cn} {mg : Str → Option Value} (T : Txt c mg) {vs : List V} {H : Hp} {Q : VK} {E : XK} (h : sp_turned c vs H Q E) : t_turned c { nx := fun _ H' => Q .non H', rt := Q } (start N_turned vs) H := by
  obtain ⟨_, b, M, gs, ds, g, rfl, B, hg, ⟨dg, hdg, hdn⟩, g19, few, k⟩ := h
  obtain ⟨bx, bm, bn, bd, hb⟩ := B.ins_
  unfold t_turned
  repeat kaf_suf
  refine ⟨rfl, b, M, gs, ds, g, dg, rfl, B, hdg, ?_⟩
  repeat kaf_suf
  intro pu dx hpu hdx ndx
  repeat kaf_suf
  have kI : Keep Nil H (upd (upd H dx (.own pu)) pu (.ins c.cPutting dx [])) := (Keep.alloc hdx).setN hpu
  refine ⟨rfl, pu, b, dx, M, gs, ds, rfl, upd_same, B.same kI, fun H1 tk sk htk hsk nst k1 es t1 => ⟨rfl, ?_⟩⟩
  have htk0 : H tk = none := keep_none kI htk
  have k01 : Keep Nil H H1 := fun a o n h => k1 a o (fun z => by rw [z, hpu] at h; cases h) (kI a o n h)
  have B1 := B.same k01
  obtain ⟨dx1, ht1⟩ := (t1 (g + 1)).here
  clear k1 kI
  repeat kaf_suf
  refine ⟨rfl, pu, b, tk, sk, M, gs, ds, g + 1, [], g, rfl, t1 (g + 1), B1, hg, ⟨dg, hdg, hdn⟩, by omega, by omega, by omega, fun H2 f e kvs' x k2 t2 B2 fl ex hf => ?_⟩
  have tl := t2.ok.len
  simp only [List.length_nil] at fl
  exact k H2 f e x (fun a o n h => k2 a o (fun z => z.elim (fun z => by rw [z, htk0] at h; cases h) n) (k01 a o (fun z => z) h)) B2 (by omega) ex hf
theorem cal_turned {c : Cn} {mg : Str → Option Value} {base : Heap} (T : Txt c mg) : Cal c.P c.w c.K mg base CX0 74 "turned" (sp_turned c) := by
  obtain ⟨f, fd, F, g, b⟩ := T.F_turned
  exact ⟨f, fd, ["book", "g"], F.ok (k := 73) (N := N_turned) sc_turned (fun vs H Q E h => h.1) (fun cdv A outer s H vs Q E hr h => ⟨t_turned c, by
  exact (pss_cons (ps_expr (e_meth (met_Book_depth T) hr (by decide) passL (pv 0) (pa_cons (pv 1) pa_nil)))
  (pss_one (ps_ret (e_meth (met_Putting_turn T 70) hr (by decide) pass0 (e_make (mak_Putting T) hr (by decide) pass0 rfl (pa_cons (pv 0) pa_nil)) (pa_cons (pv 1) pa_nil))))), p_turned T h⟩), g, F.kp, b⟩

/-! games put together: the plain law -/
theorem mapO_append {α : Type} {f : α → Option Int} : ∀ {l l' : List α} {a b : List Int}, mapO f l = some a → mapO f l' = some b → mapO f (l ++ l') = some (a ++ b)
  | [], l', a, b, h, h' => by cases h; exact h'
  | x :: r, l', a, b, h, h' => by
    obtain ⟨y, c, h1, h2, rfl⟩ := mapO_cons.mp h
    exact mapO_cons.mpr ⟨y, c ++ b, h1, mapO_append h2 h', rfl⟩
theorem mapO_map {α β : Type} {f : β → Option Int} {g : α → β} : ∀ {l : List α}, mapO f (l.map g) = mapO (fun x => f (g x)) l
  | [] => rfl
  | x :: r => by
    show (f (g x)).bind _ = (f (g x)).bind _
    rw [mapO_map (l := r)]
/-- all lists behind a move of a side -/
def mvl (gs : List Gm) (s : Bool) : List Int → List (List Int)
  | [] => []
  | g :: r => (mvs gs g.toNat s).map (· :: r) ++ (mvl gs s r).map (g :: ·)
def mea (l : List Int) : Nat := (l.map Int.toNat).sum
def Rg (gs : List Gm) (l : List Int) : Prop := ∀ z ∈ l, 0 ≤ z ∧ z < gs.length
theorem mvl_cons {gs : List Gm} {s : Bool} {g : Int} {r m : List Int} : m ∈ mvl gs s (g :: r) ↔ (∃ g' ∈ mvs gs g.toNat s, m = g' :: r) ∨ ∃ r' ∈ mvl gs s r, m = g :: r' := by
  show m ∈ (mvs gs g.toNat s).map (· :: r) ++ (mvl gs s r).map (g :: ·) ↔ _
  rw [List.mem_append, List.mem_map, List.mem_map]
  constructor
  · rintro (⟨a, h, e⟩ | ⟨a, h, e⟩)
    · exact .inl ⟨a, h, e.symm⟩
    · exact .inr ⟨a, h, e.symm⟩
  · rintro (⟨a, h, e⟩ | ⟨a, h, e⟩)
    · exact .inl ⟨a, h, e.symm⟩
    · exact .inr ⟨a, h, e.symm⟩
theorem mvl_mea {gs : List Gm} (o : GOk gs) {s : Bool} : ∀ {l m : List Int}, m ∈ mvl gs s l → mea m < mea l
  | [], m, h => nomatch h
  | g :: r, m, h => by
    rcases mvl_cons.mp h with ⟨g', hg, rfl⟩ | ⟨r', hr, rfl⟩
    · have := mvs_low o hg
      simp only [mea, List.map_cons, List.sum_cons]; omega
    · have := mvl_mea o hr
      simp only [mea, List.map_cons, List.sum_cons] at this ⊢; omega
theorem mvl_rg {gs : List Gm} (o : GOk gs) {s : Bool} : ∀ {l m : List Int}, Rg gs l → m ∈ mvl gs s l → Rg gs m
  | [], m, _, h => nomatch h
  | g :: r, m, R, h => by
    have Rr : Rg gs r := fun z hz => R z (List.mem_cons_of_mem _ hz)
    rcases mvl_cons.mp h with ⟨g', hg, rfl⟩ | ⟨r', hr, rfl⟩
    · have := mvs_low o hg
      intro z hz
      rcases List.mem_cons.mp hz with rfl | hz
      · omega
      · exact Rr z hz
    · intro z hz
      rcases List.mem_cons.mp hz with rfl | hz
      · exact R z List.mem_cons_self
      · exact mvl_rg o Rr hr z hz
theorem mvl_app {gs f : List Gm} {s : Bool} : ∀ {l : List Int}, Rg gs l → mvl (gs ++ f) s l = mvl gs s l
  | [], _ => rfl
  | g :: r, R => by
    have Rr : Rg gs r := fun z hz => R z (List.mem_cons_of_mem _ hz)
    have := R g List.mem_cons_self
    show (mvs (gs ++ f) g.toNat s).map (· :: r) ++ (mvl (gs ++ f) s r).map (g :: ·) = (mvs gs g.toNat s).map (· :: r) ++ (mvl gs s r).map (g :: ·)
    rw [mvl_app Rr, mvs_more (by omega)]
theorem mvl_perm {gs : List Gm} {s : Bool} {l l' : List Int} (p : l.Perm l') : ∀ m ∈ mvl gs s l, ∃ m' ∈ mvl gs s l', m.Perm m' := by
  induction p with
  | nil => intro m h; exact nomatch h
  | @cons x l l' p ih =>
    intro m h
    rcases mvl_cons.mp h with ⟨g', hg, rfl⟩ | ⟨r', hr, rfl⟩
    · exact ⟨g' :: l', mvl_cons.mpr (.inl ⟨g', hg, rfl⟩), p.cons _⟩
    · obtain ⟨m', hm, pm⟩ := ih r' hr
      exact ⟨x :: m', mvl_cons.mpr (.inr ⟨m', hm, rfl⟩), pm.cons _⟩
  | swap x y l =>
    intro m h
    rcases mvl_cons.mp h with ⟨g', hg, rfl⟩ | ⟨r', hr, rfl⟩
    · exact ⟨x :: g' :: l, mvl_cons.mpr (.inr ⟨g' :: l, mvl_cons.mpr (.inl ⟨g', hg, rfl⟩), rfl⟩), List.Perm.swap _ _ _⟩
    · rcases mvl_cons.mp hr with ⟨g', hg, rfl⟩ | ⟨r2, hr2, rfl⟩
      · exact ⟨g' :: y :: l, mvl_cons.mpr (.inl ⟨g', hg, rfl⟩), List.Perm.swap _ _ _⟩
      · exact ⟨x :: y :: r2, mvl_cons.mpr (.inr ⟨y :: r2, mvl_cons.mpr (.inr ⟨r2, hr2, rfl⟩), rfl⟩), List.Perm.swap _ _ _⟩
  | trans _ _ ih1 ih2 =>
    intro m h
    obtain ⟨m1, h1, p1⟩ := ih1 m h
    obtain ⟨m2, h2, p2⟩ := ih2 m1 h1
    exact ⟨m2, h2, p1.trans p2⟩
theorem mvl_snoc {gs : List Gm} {s : Bool} {c : Int} : ∀ {l m : List Int}, m ∈ mvl gs s (l ++ [c]) ↔ (∃ m1 ∈ mvl gs s l, m = m1 ++ [c]) ∨ ∃ c' ∈ mvs gs c.toNat s, m = l ++ [c']
  | [], m => by
    rw [List.nil_append, mvl_cons]
    constructor
    · rintro (⟨a, h, e⟩ | ⟨a, h, e⟩)
      · exact .inr ⟨a, h, e⟩
      · exact nomatch h
    · rintro (⟨a, h, e⟩ | ⟨a, h, e⟩)
      · exact nomatch h
      · exact .inl ⟨a, h, e⟩
  | g :: r, m => by
    rw [List.cons_append, mvl_cons]
    constructor
    · rintro (⟨a, h, rfl⟩ | ⟨a, h, rfl⟩)
      · exact .inl ⟨a :: r, mvl_cons.mpr (.inl ⟨a, h, rfl⟩), rfl⟩
      · rcases mvl_snoc.mp h with ⟨m1, h1, rfl⟩ | ⟨c', h1, rfl⟩
        · exact .inl ⟨g :: m1, mvl_cons.mpr (.inr ⟨m1, h1, rfl⟩), rfl⟩
        · exact .inr ⟨c', h1, rfl⟩
    · rintro (⟨m1, h, rfl⟩ | ⟨c', h, rfl⟩)
      · rcases mvl_cons.mp h with ⟨a, ha, rfl⟩ | ⟨a, ha, rfl⟩
        · exact .inl ⟨a, ha, rfl⟩
        · exact .inr ⟨a ++ [c], mvl_snoc.mpr (.inl ⟨a, ha, rfl⟩), rfl⟩
      · exact .inr ⟨r ++ [c'], mvl_snoc.mpr (.inr ⟨c', h, rfl⟩), rfl⟩
def ms (gs : List Gm) : Nat → List Int → Option Int
  | 0, _ => none
  | n + 1, l => (mapO (ms gs n) (mvl gs true l)).bind fun a => (mapO (ms gs n) (mvl gs false l)).bind fun b => look gs (canon a, canon b)
def sm (gs : List Gm) (l : List Int) : Option Int := ms gs (mea l + 1) l
theorem ms_more {gs : List Gm} (o : GOk gs) : ∀ (n k : Nat) (l : List Int), mea l < n → n ≤ k → ms gs k l = ms gs n l
  | 0, _, _, h, _ => by omega
  | n + 1, 0, _, _, h => by omega
  | n + 1, k + 1, l, h, hk => by
    show (mapO (ms gs k) _).bind _ = (mapO (ms gs n) _).bind _
    have e : ∀ s, mapO (ms gs k) (mvl gs s l) = mapO (ms gs n) (mvl gs s l) := fun s => mapO_congr fun m hm => ms_more o n k m (by have := mvl_mea o hm; omega) (by omega)
    rw [e, e]
theorem sm_eq {gs : List Gm} (o : GOk gs) (l : List Int) : sm gs l = (mapO (sm gs) (mvl gs true l)).bind fun a => (mapO (sm gs) (mvl gs false l)).bind fun b => look gs (canon a, canon b) := by
  show (mapO (ms gs (mea l)) _).bind _ = _
  have e : ∀ s, mapO (ms gs (mea l)) (mvl gs s l) = mapO (sm gs) (mvl gs s l) := fun s => mapO_congr fun m hm => ms_more o (mea m + 1) (mea l) m (by omega) (by have := mvl_mea o hm; omega)
  rw [e, e]
theorem sm_some {gs : List Gm} (o : GOk gs) {l : List Int} {x : Int} (h : sm gs l = some x) : ∃ a b, mapO (sm gs) (mvl gs true l) = some a ∧ mapO (sm gs) (mvl gs false l) = some b ∧ 0 ≤ x ∧ gs[x.toNat]? = some (canon a, canon b) ∧ look gs (canon a, canon b) = some x := by
  rw [sm_eq o] at h
  obtain ⟨a, b, h1, h2, h3⟩ := bind3.mp h
  exact ⟨a, b, h1, h2, (look_get h3).1, (look_get h3).2, h3⟩
theorem ms_app {gs f : List Gm} (o : GOk gs) : ∀ (n : Nat) (l : List Int) (x : Int), Rg gs l → ms gs n l = some x → ms (gs ++ f) n l = some x
  | 0, _, _, _, h => nomatch h
  | n + 1, l, x, R, h => by
    obtain ⟨a, b, h1, h2, h3⟩ := bind3.mp (show (mapO (ms gs n) (mvl gs true l)).bind (fun a => (mapO (ms gs n) (mvl gs false l)).bind fun b => look gs (canon a, canon b)) = some x from h)
    show (mapO (ms (gs ++ f) n) (mvl (gs ++ f) true l)).bind _ = some x
    rw [mvl_app R, mvl_app R]
    exact bind3.mpr ⟨a, b, mapO_mono (fun y hy z => ms_app o n y z (mvl_rg o R hy)) h1, mapO_mono (fun y hy z => ms_app o n y z (mvl_rg o R hy)) h2, look_app h3⟩
theorem sm_app {gs f : List Gm} (o : GOk gs) {l : List Int} {x : Int} (R : Rg gs l) (h : sm gs l = some x) : sm (gs ++ f) l = some x := ms_app o _ _ _ R h
theorem sm_lt {gs : List Gm} (o : GOk gs) {l : List Int} {x : Int} (h : sm gs l = some x) : 0 ≤ x ∧ x < gs.length := by
  obtain ⟨_, _, _, _, z0, z1, _⟩ := sm_some o h
  have := (List.getElem?_eq_some_iff.mp z1).1
  omega
theorem canon_same {a b : List Int} (h : ∀ z, z ∈ a ↔ z ∈ b) : canon a = canon b := canon_eq (canon_up a) fun z => by rw [canon_mem, h]
theorem sm_perm {gs : List Gm} (o : GOk gs) : ∀ (n : Nat) (l l' : List Int) (x : Int), mea l < n → l.Perm l' → sm gs l = some x → sm gs l' = some x
  | 0, _, _, _, h, _, _ => by omega
  | n + 1, l, l', x, hn, p, h => by
    obtain ⟨a, b, h1, h2, _, _, h3⟩ := sm_some o h
    have go : ∀ (s : Bool) (a : List Int), mapO (sm gs) (mvl gs s l) = some a → ∃ a', mapO (sm gs) (mvl gs s l') = some a' ∧ canon a' = canon a := fun s a ha => by
      obtain ⟨a', ha'⟩ := mapO_def (f := sm gs) (l := mvl gs s l') fun m' hm' => by
        obtain ⟨m, hm, pm⟩ := mvl_perm p.symm m' hm'
        obtain ⟨z, hz⟩ := mapO_all ha m hm
        exact ⟨z, sm_perm o n m m' z (by have := mvl_mea o hm; omega) pm.symm hz⟩
      refine ⟨a', ha', canon_same fun z => ?_⟩
      rw [mapO_mem ha', mapO_mem ha]
      constructor
      · rintro ⟨m', hm', ez⟩
        obtain ⟨m, hm, pm⟩ := mvl_perm p.symm m' hm'
        obtain ⟨w, hw⟩ := mapO_all ha m hm
        have := sm_perm o n m m' w (by have := mvl_mea o hm; omega) pm.symm hw
        rw [this] at ez
        cases ez
        exact ⟨m, hm, hw⟩
      · rintro ⟨m, hm, ez⟩
        obtain ⟨m', hm', pm⟩ := mvl_perm p m hm
        exact ⟨m', hm', sm_perm o n m m' z (by have := mvl_mea o hm; omega) pm ez⟩
    obtain ⟨a', ha', ca⟩ := go true a h1
    obtain ⟨b', hb', cb⟩ := go false b h2
    rw [sm_eq o]
    exact bind3.mpr ⟨a', b', ha', hb', by rw [ca, cb]; exact h3⟩
theorem sm_nil {gs : List Gm} (o : GOk gs) : sm gs [] = some 0 := by
  rw [sm_eq o]
  exact bind3.mpr ⟨[], [], rfl, rfl, look_of o.nd o.zero⟩
theorem mvs_up {gs : List Gm} (o : GOk gs) {g : Nat} {s : Bool} : (mvs gs g s).Pairwise (· < ·) := by
  unfold mvs
  cases e : gs[g]? with
  | none => exact List.Pairwise.nil
  | some x =>
    have := o.up x (List.mem_of_getElem? e)
    cases s
    · exact this.2
    · exact this.1
theorem mapO_id {f : Int → Option Int} : ∀ {l : List Int}, (∀ x ∈ l, f x = some x) → mapO f l = some l
  | [], _ => rfl
  | y :: r, h => mapO_cons.mpr ⟨y, r, h y List.mem_cons_self, mapO_id fun x hx => h x (List.mem_cons_of_mem _ hx), rfl⟩
theorem sm_one {gs : List Gm} (o : GOk gs) : ∀ (n : Nat) (g : Nat), g < n → g < gs.length → sm gs [(g : Int)] = some (g : Int)
  | 0, _, h, _ => by omega
  | n + 1, g, hn, hg => by
    have e1 : ∀ s, mapO (sm gs) (mvl gs s [(g : Int)]) = some (mvs gs g s) := fun s => by
      have : mvl gs s [(g : Int)] = (mvs gs g s).map fun m => [m] := by
        show (mvs gs (g : Int).toNat s).map _ ++ [] = _
        rw [Int.toNat_natCast, List.append_nil]
      rw [this, mapO_map]
      refine mapO_id fun m hm => ?_
      obtain ⟨m0, m1, _⟩ := mvs_low o hm
      obtain ⟨k, rfl⟩ := Int.eq_ofNat_of_zero_le m0
      exact sm_one o n k (by omega) (by omega)
    rw [sm_eq o]
    refine bind3.mpr ⟨_, _, e1 true, e1 false, ?_⟩
    rw [canon_self (mvs_up o), canon_self (mvs_up o)]
    refine look_of o.nd ?_
    have e := List.getElem?_eq_getElem hg
    unfold mvs
    rw [e]; rfl
theorem mvs_canon {gs : List Gm} {x : Int} {a b : List Int} (h : gs[x.toNat]? = some (canon a, canon b)) (s : Bool) : mvs gs x.toNat s = canon (if s then a else b) := by
  unfold mvs; rw [h]; cases s <;> rfl
/-- one game more put to them -/
theorem sm_snoc {gs : List Gm} (o : GOk gs) : ∀ (n : Nat) (l : List Int) (c x u : Int), mea (l ++ [c]) < n → sm gs l = some x → sm gs [x, c] = some u → sm gs (l ++ [c]) = some u
  | 0, _, _, _, _, h, _, _ => by omega
  | n + 1, l, c, x, u, hn, h, h' => by
    obtain ⟨a, b, a1, b1, x0, xe, _⟩ := sm_some o h
    obtain ⟨a', b', a2, b2, _, _, h3⟩ := sm_some o h'
    have low : ∀ {s m}, m ∈ mvl gs s (l ++ [c]) → mea m < n := fun hm => by have := mvl_mea o hm; omega
    have go : ∀ (s : Bool) (p q : List Int), mapO (sm gs) (mvl gs s l) = some p → mvs gs x.toNat s = canon p → mapO (sm gs) (mvl gs s [x, c]) = some q → ∃ r, mapO (sm gs) (mvl gs s (l ++ [c])) = some r ∧ canon r = canon q := fun s p q hp hx hq => by
      have one : ∀ m1 ∈ mvl gs s l, ∀ y, sm gs m1 = some y → ∃ w, sm gs [y, c] = some w ∧ sm gs (m1 ++ [c]) = some w := fun m1 hm y hy => by
        have hy' : y ∈ mvs gs x.toNat s := by rw [hx, canon_mem, mapO_mem hp]; exact ⟨m1, hm, hy⟩
        obtain ⟨w, hw⟩ := mapO_all hq [y, c] (mvl_cons.mpr (.inl ⟨y, hy', rfl⟩))
        exact ⟨w, hw, sm_snoc o n m1 c y w (low (mvl_snoc.mpr (.inl ⟨m1, hm, rfl⟩))) hy hw⟩
      have two : ∀ c' ∈ mvs gs c.toNat s, ∃ w, sm gs [x, c'] = some w ∧ sm gs (l ++ [c']) = some w := fun c' hc => by
        have mm : [x, c'] ∈ mvl gs s [x, c] := mvl_cons.mpr (.inr ⟨[c'], mvl_cons.mpr (.inl ⟨c', hc, rfl⟩), rfl⟩)
        obtain ⟨w, hw⟩ := mapO_all hq [x, c'] mm
        exact ⟨w, hw, sm_snoc o n l c' x w (low (mvl_snoc.mpr (.inr ⟨c', hc, rfl⟩))) h hw⟩
      obtain ⟨r, hr⟩ := mapO_def (f := sm gs) (l := mvl gs s (l ++ [c])) fun m hm => by
        rcases mvl_snoc.mp hm with ⟨m1, h1, rfl⟩ | ⟨c', h1, rfl⟩
        · obtain ⟨y, hy⟩ := mapO_all hp m1 h1
          obtain ⟨w, _, hw⟩ := one m1 h1 y hy
          exact ⟨w, hw⟩
        · obtain ⟨w, _, hw⟩ := two c' h1
          exact ⟨w, hw⟩
      refine ⟨r, hr, canon_same fun z => ?_⟩
      rw [mapO_mem hr, mapO_mem hq]
      constructor
      · rintro ⟨m, hm, ez⟩
        rcases mvl_snoc.mp hm with ⟨m1, h1, rfl⟩ | ⟨c', h1, rfl⟩
        · obtain ⟨y, hy⟩ := mapO_all hp m1 h1
          obtain ⟨w, hw1, hw⟩ := one m1 h1 y hy
          rw [hw] at ez; cases ez
          have hy' : y ∈ mvs gs x.toNat s := by rw [hx, canon_mem, mapO_mem hp]; exact ⟨m1, h1, hy⟩
          exact ⟨[y, c], mvl_cons.mpr (.inl ⟨y, hy', rfl⟩), hw1⟩
        · obtain ⟨w, hw1, hw⟩ := two c' h1
          rw [hw] at ez; cases ez
          exact ⟨[x, c'], mvl_cons.mpr (.inr ⟨[c'], mvl_cons.mpr (.inl ⟨c', h1, rfl⟩), rfl⟩), hw1⟩
      · rintro ⟨m, hm, ez⟩
        rcases mvl_cons.mp hm with ⟨y, hy, rfl⟩ | ⟨r', hr', rfl⟩
        · rw [hx, canon_mem, mapO_mem hp] at hy
          obtain ⟨m1, h1, hy⟩ := hy
          obtain ⟨w, hw1, hw⟩ := one m1 h1 y hy
          rw [hw1] at ez; cases ez
          exact ⟨m1 ++ [c], mvl_snoc.mpr (.inl ⟨m1, h1, rfl⟩), hw⟩
        · rcases mvl_cons.mp hr' with ⟨c', hc, rfl⟩ | ⟨_, z, _⟩
          · obtain ⟨w, hw1, hw⟩ := two c' hc
            rw [hw1] at ez; cases ez
            exact ⟨l ++ [c'], mvl_snoc.mpr (.inr ⟨c', hc, rfl⟩), hw⟩
          · exact nomatch z
    obtain ⟨r1, hr1, c1⟩ := go true a a' a1 (mvs_canon xe true) a2
    obtain ⟨r2, hr2, c2⟩ := go false b b' b1 (mvs_canon xe false) b2
    rw [sm_eq o]
    exact bind3.mpr ⟨r1, r2, hr1, hr2, by rw [c1, c2]; exact h3⟩
/-- depths add -/
def dsum (ds l : List Int) : Int := (l.map fun z => ds[z.toNat]?.getD 0).sum
theorem dsum_le {gs : List Gm} {ds : List Int} (o : GOk gs) (d : DOk gs ds) {s : Bool} : ∀ {l m : List Int}, m ∈ mvl gs s l → dsum ds m + 1 ≤ dsum ds l
  | [], m, h => nomatch h
  | g :: r, m, h => by
    rcases mvl_cons.mp h with ⟨g', hg, rfl⟩ | ⟨r', hr, rfl⟩
    · obtain ⟨m0, m1, m2⟩ := mvs_low o hg
      obtain ⟨dg, hd⟩ : ∃ v, ds[g.toNat]? = some v := ⟨_, List.getElem?_eq_getElem (by have := d.len; omega)⟩
      have e := List.getElem?_eq_getElem m2
      have hm : g' ∈ (gs[g.toNat]).1 ++ (gs[g.toNat]).2 := by
        unfold mvs at hg; rw [e] at hg
        cases s
        · exact List.mem_append_right _ (by simpa using hg)
        · exact List.mem_append_left _ (by simpa using hg)
      obtain ⟨dm, hdm, le⟩ := d.move o e hd hm
      simp only [dsum, List.map_cons, List.sum_cons, hd, hdm, Option.getD_some]; omega
    · have := dsum_le o d hr
      simp only [dsum, List.map_cons, List.sum_cons] at this ⊢; omega
theorem dsum_ex {gs : List Gm} {ds : List Int} (o : GOk gs) (d : DOk gs ds) : ∀ {l : List Int}, Rg gs l → mvl gs true l ++ mvl gs false l ≠ [] → ∃ m ∈ mvl gs true l ++ mvl gs false l, dsum ds m + 1 = dsum ds l
  | [], _, h => absurd rfl h
  | g :: r, R, h => by
    have hg := R g List.mem_cons_self
    have Rr : Rg gs r := fun z hz => R z (List.mem_cons_of_mem _ hz)
    have e := List.getElem?_eq_getElem (l := gs) (i := g.toNat) (by omega)
    obtain ⟨dg, hd⟩ : ∃ v, ds[g.toNat]? = some v := ⟨_, List.getElem?_eq_getElem (by have := d.len; omega)⟩
    obtain ⟨p1, p2, p3⟩ := d.at_ _ _ dg e hd
    by_cases z : (gs[g.toNat]).1 ++ (gs[g.toNat]).2 = []
    · have z' := List.append_eq_nil_iff.mp z
      have m1 : ∀ s, mvs gs g.toNat s = [] := fun s => by unfold mvs; rw [e]; cases s <;> simp [z']
      have h' : mvl gs true r ++ mvl gs false r ≠ [] := fun w => h (by
        have w' := List.append_eq_nil_iff.mp w
        simp [mvl, m1, w'])
      obtain ⟨m, hm, em⟩ := dsum_ex o d Rr h'
      refine ⟨g :: m, ?_, by simp only [dsum, List.map_cons, List.sum_cons] at em ⊢; omega⟩
      rcases List.mem_append.mp hm with hm | hm
      · exact List.mem_append_left _ (mvl_cons.mpr (.inr ⟨m, hm, rfl⟩))
      · exact List.mem_append_right _ (mvl_cons.mpr (.inr ⟨m, hm, rfl⟩))
    · obtain ⟨u, hu, eu⟩ := p3 z
      obtain ⟨m, hm, em⟩ := List.mem_map.mp hu
      refine ⟨m :: r, ?_, ?_⟩
      · rcases List.mem_append.mp hm with hm | hm
        · exact List.mem_append_left _ (mvl_cons.mpr (.inl ⟨m, by unfold mvs; rw [e]; exact hm, rfl⟩))
        · exact List.mem_append_right _ (mvl_cons.mpr (.inl ⟨m, by unfold mvs; rw [e]; exact hm, rfl⟩))
      · simp only [dsum, List.map_cons, List.sum_cons, hd, Option.getD_some]
        rw [em]; omega
theorem dsum_zero {gs : List Gm} {ds : List Int} (o : GOk gs) (d : DOk gs ds) : ∀ {l : List Int}, Rg gs l → mvl gs true l ++ mvl gs false l = [] → dsum ds l = 0
  | [], _, _ => rfl
  | g :: r, R, h => by
    have hg := R g List.mem_cons_self
    have Rr : Rg gs r := fun z hz => R z (List.mem_cons_of_mem _ hz)
    have e := List.getElem?_eq_getElem (l := gs) (i := g.toNat) (by omega)
    obtain ⟨dg, hd⟩ : ∃ v, ds[g.toNat]? = some v := ⟨_, List.getElem?_eq_getElem (by have := d.len; omega)⟩
    obtain ⟨p1, _, _⟩ := d.at_ _ _ dg e hd
    obtain ⟨h1, h2⟩ := List.append_eq_nil_iff.mp h
    replace h1 : (mvs gs g.toNat true).map (· :: r) ++ (mvl gs true r).map (g :: ·) = [] := h1
    replace h2 : (mvs gs g.toNat false).map (· :: r) ++ (mvl gs false r).map (g :: ·) = [] := h2
    obtain ⟨h3, h4⟩ := List.append_eq_nil_iff.mp h1
    obtain ⟨h5, h6⟩ := List.append_eq_nil_iff.mp h2
    have k1 : mvs gs g.toNat true = [] := List.map_eq_nil_iff.mp h3
    have k2 : mvs gs g.toNat false = [] := List.map_eq_nil_iff.mp h5
    unfold mvs at k1 k2
    rw [e] at k1 k2
    have z : (gs[g.toNat]).1 ++ (gs[g.toNat]).2 = [] := by
      have a : (gs[g.toNat]).1 = [] := k1
      have b : (gs[g.toNat]).2 = [] := k2
      rw [a, b]; rfl
    have := dsum_zero o d Rr (by rw [List.map_eq_nil_iff.mp h4, List.map_eq_nil_iff.mp h6]; rfl)
    simp only [dsum, List.map_cons, List.sum_cons, hd, Option.getD_some] at this ⊢
    rw [p1 z]; omega
theorem sm_depth {gs : List Gm} {ds : List Int} (o : GOk gs) (d : DOk gs ds) : ∀ (n : Nat) (l : List Int) (x : Int), mea l < n → Rg gs l → sm gs l = some x → ds[x.toNat]? = some (dsum ds l)
  | 0, _, _, h, _, _ => by omega
  | n + 1, l, x, hn, R, h => by
    obtain ⟨a, b, h1, h2, x0, ex, _⟩ := sm_some o h
    have lx := (List.getElem?_eq_some_iff.mp ex).1
    obtain ⟨dx, hdx⟩ : ∃ v, ds[x.toNat]? = some v := ⟨_, List.getElem?_eq_getElem (by have := d.len; omega)⟩
    obtain ⟨q1, q2, q3⟩ := d.at_ _ _ dx ex hdx
    have ih : ∀ s m, m ∈ mvl gs s l → ∀ z, sm gs m = some z → ds[z.toNat]? = some (dsum ds m) := fun s m hm z hz => sm_depth o d n m z (by have := mvl_mea o hm; omega) (mvl_rg o R hm) hz
    have mem : ∀ z, z ∈ canon a ++ canon b → ∃ m ∈ mvl gs true l ++ mvl gs false l, sm gs m = some z := fun z hz => by
      rcases List.mem_append.mp hz with hz | hz
      · obtain ⟨m, hm, e⟩ := (mapO_mem h1 z).mp (canon_mem.mp hz)
        exact ⟨m, List.mem_append_left _ hm, e⟩
      · obtain ⟨m, hm, e⟩ := (mapO_mem h2 z).mp (canon_mem.mp hz)
        exact ⟨m, List.mem_append_right _ hm, e⟩
    have mem' : ∀ m ∈ mvl gs true l ++ mvl gs false l, ∃ z ∈ canon a ++ canon b, sm gs m = some z := fun m hm => by
      rcases List.mem_append.mp hm with hm | hm
      · obtain ⟨z, e⟩ := mapO_all h1 m hm
        exact ⟨z, List.mem_append_left _ (canon_mem.mpr ((mapO_mem h1 z).mpr ⟨m, hm, e⟩)), e⟩
      · obtain ⟨z, e⟩ := mapO_all h2 m hm
        exact ⟨z, List.mem_append_right _ (canon_mem.mpr ((mapO_mem h2 z).mpr ⟨m, hm, e⟩)), e⟩
    have ih' : ∀ m ∈ mvl gs true l ++ mvl gs false l, ∀ z, sm gs m = some z → ds[z.toNat]? = some (dsum ds m) := fun m hm z hz => by
      rcases List.mem_append.mp hm with hm | hm
      · exact ih _ m hm z hz
      · exact ih _ m hm z hz
    have le' : ∀ m ∈ mvl gs true l ++ mvl gs false l, dsum ds m + 1 ≤ dsum ds l := fun m hm => by
      rcases List.mem_append.mp hm with hm | hm
      · exact dsum_le o d hm
      · exact dsum_le o d hm
    rw [hdx]
    refine congrArg some ?_
    by_cases z : mvl gs true l ++ mvl gs false l = []
    · rw [dsum_zero o d R z]
      refine q1 (List.eq_nil_iff_forall_not_mem.mpr fun y hy => ?_)
      obtain ⟨m, hm, _⟩ := mem y hy
      rw [z] at hm; cases hm
    · obtain ⟨m, hm, em⟩ := dsum_ex o d R z
      obtain ⟨y, hy, ey⟩ := mem' m hm
      have dy := ih' m hm y ey
      have p1 := q2 _ (List.mem_map.mpr ⟨y, hy, rfl⟩)
      rw [dy] at p1
      simp only [Option.getD_some] at p1
      obtain ⟨u, hu, eu⟩ := q3 (List.ne_nil_of_mem hy)
      obtain ⟨w, hw, ew⟩ := List.mem_map.mp hu
      obtain ⟨m2, hm2, ew2⟩ := mem w hw
      have dw := ih' m2 hm2 w ew2
      rw [dw] at ew
      simp only [Option.getD_some] at ew
      have := le' m2 hm2
      omega

/-! games beside one another, some with hands exchanged: the plain law -/
def pmv (gs : List Gm) (s : Bool) (L R : List Int) : List (List Int × List Int) := (mvl gs s L).map (fun m => (m, R)) ++ (mvl gs (!s) R).map fun m => (L, m)
theorem pmv_mem {gs : List Gm} {s : Bool} {L R : List Int} {w : List Int × List Int} : w ∈ pmv gs s L R ↔ (∃ m ∈ mvl gs s L, w = (m, R)) ∨ ∃ m ∈ mvl gs (!s) R, w = (L, m) := by
  unfold pmv
  rw [List.mem_append, List.mem_map, List.mem_map]
  constructor
  · rintro (⟨m, h, e⟩ | ⟨m, h, e⟩)
    · exact .inl ⟨m, h, e.symm⟩
    · exact .inr ⟨m, h, e.symm⟩
  · rintro (⟨m, h, e⟩ | ⟨m, h, e⟩)
    · exact .inl ⟨m, h, e.symm⟩
    · exact .inr ⟨m, h, e.symm⟩
def mz (w : List Int × List Int) : Nat := mea w.1 + mea w.2
theorem pmv_mz {gs : List Gm} (o : GOk gs) {s : Bool} {L R : List Int} {w : List Int × List Int} (h : w ∈ pmv gs s L R) : mz w < mea L + mea R := by
  rcases pmv_mem.mp h with ⟨m, hm, rfl⟩ | ⟨m, hm, rfl⟩
  · have := mvl_mea o hm; simp only [mz]; omega
  · have := mvl_mea o hm; simp only [mz]; omega
def pn (gs : List Gm) : Nat → List Int → List Int → Bool → Bool
  | 0, _, _, _ => false
  | n + 1, L, R, s => (pmv gs s L R).any fun w => !pn gs n w.1 w.2 (!s)
def pg (gs : List Gm) (L R : List Int) (s : Bool) : Bool := pn gs (mea L + mea R + 1) L R s
theorem pn_more {gs : List Gm} (o : GOk gs) : ∀ (n k : Nat) (L R : List Int) (s : Bool), mea L + mea R < n → n ≤ k → pn gs k L R s = pn gs n L R s
  | 0, _, _, _, _, h, _ => by omega
  | n + 1, 0, _, _, _, _, h => by omega
  | n + 1, k + 1, L, R, s, h, hk => by
    show (pmv gs s L R).any _ = (pmv gs s L R).any _
    refine any_eq fun w hw => ?_
    have := pmv_mz o hw
    unfold mz at this
    rw [pn_more o n k w.1 w.2 (!s) (by omega) (by omega)]
theorem pg_eq {gs : List Gm} (o : GOk gs) (L R : List Int) (s : Bool) : pg gs L R s = (pmv gs s L R).any fun w => !pg gs w.1 w.2 (!s) := by
  show (pmv gs s L R).any _ = (pmv gs s L R).any _
  refine any_eq fun w hw => ?_
  have := pmv_mz o hw
  unfold mz at this
  unfold pg
  rw [pn_more o (mea w.1 + mea w.2 + 1) (mea L + mea R) w.1 w.2 (!s) (by omega) (by omega)]
theorem pg_f {gs : List Gm} (o : GOk gs) {L R : List Int} {s : Bool} (h : pg gs L R s = false) {w : List Int × List Int} (hw : w ∈ pmv gs s L R) : pg gs w.1 w.2 (!s) = true := by
  rw [pg_eq o] at h
  have := List.any_eq_false.mp h w hw
  simpa using this
theorem pg_t {gs : List Gm} (o : GOk gs) {L R : List Int} {s : Bool} (h : pg gs L R s = true) : ∃ w ∈ pmv gs s L R, pg gs w.1 w.2 (!s) = false := by
  rw [pg_eq o] at h
  obtain ⟨w, hw, e⟩ := List.any_eq_true.mp h
  exact ⟨w, hw, by simpa using e⟩
theorem pg_w {gs : List Gm} (o : GOk gs) {L R : List Int} {s : Bool} {w : List Int × List Int} (hw : w ∈ pmv gs s L R) (e : pg gs w.1 w.2 (!s) = false) : pg gs L R s = true := by
  rw [pg_eq o]
  exact List.any_eq_true.mpr ⟨w, hw, by rw [e]; rfl⟩
theorem any_iff {α β : Type} {l : List α} {l' : List β} {p : α → Bool} {q : β → Bool} (h1 : ∀ x ∈ l, p x = true → ∃ y ∈ l', q y = true) (h2 : ∀ y ∈ l', q y = true → ∃ x ∈ l, p x = true) : l.any p = l'.any q := by
  rw [Bool.eq_iff_iff, List.any_eq_true, List.any_eq_true]
  exact ⟨fun ⟨x, hx, e⟩ => h1 x hx e, fun ⟨y, hy, e⟩ => h2 y hy e⟩
theorem pg_perm {gs : List Gm} (o : GOk gs) : ∀ (n : Nat) (L L' R R' : List Int) (s : Bool), mea L + mea R < n → L.Perm L' → R.Perm R' → pg gs L R s = pg gs L' R' s
  | 0, _, _, _, _, _, h, _, _ => by omega
  | n + 1, L, L', R, R', s, hn, p, q => by
    have one : ∀ (L L' R R' : List Int), L.Perm L' → R.Perm R' → mea L + mea R < n + 1 → (∀ w ∈ pmv gs s L R, ∃ w' ∈ pmv gs s L' R', w.1.Perm w'.1 ∧ w.2.Perm w'.2) := fun L L' R R' p q _ w hw => by
      rcases pmv_mem.mp hw with ⟨m, h, rfl⟩ | ⟨m, h, rfl⟩
      · obtain ⟨m', h', pm⟩ := mvl_perm p m h
        exact ⟨(m', R'), pmv_mem.mpr (.inl ⟨m', h', rfl⟩), pm, q⟩
      · obtain ⟨m', h', pm⟩ := mvl_perm q m h
        exact ⟨(L', m'), pmv_mem.mpr (.inr ⟨m', h', rfl⟩), p, pm⟩
    rw [pg_eq o, pg_eq o]
    refine any_iff (fun w hw e => ?_) fun w' hw' e => ?_
    · obtain ⟨w', hw', p1, p2⟩ := one L L' R R' p q hn w hw
      exact ⟨w', hw', by rw [← pg_perm o n w.1 w'.1 w.2 w'.2 (!s) (by have := pmv_mz o hw; unfold mz at this; omega) p1 p2]; exact e⟩
    · have hm : mea L' + mea R' < n + 1 := by
        have e1 : mea L = mea L' := by unfold mea; exact (p.map _).sum_nat
        have e2 : mea R = mea R' := by unfold mea; exact (q.map _).sum_nat
        omega
      obtain ⟨w, hw, p1, p2⟩ := one L' L R' R p.symm q.symm hm w' hw'
      exact ⟨w, hw, by rw [pg_perm o n w.1 w'.1 w.2 w'.2 (!s) (by have := pmv_mz o hw; unfold mz at this; omega) p1.symm p2.symm]; exact e⟩
theorem mvl_append {gs : List Gm} {s : Bool} {k : List Int} : ∀ {l m : List Int}, m ∈ mvl gs s (l ++ k) ↔ (∃ m1 ∈ mvl gs s l, m = m1 ++ k) ∨ ∃ k' ∈ mvl gs s k, m = l ++ k'
  | [], m => by
    rw [List.nil_append]
    constructor
    · exact fun h => .inr ⟨m, h, rfl⟩
    · rintro (⟨a, h, e⟩ | ⟨a, h, rfl⟩)
      · exact nomatch h
      · exact h
  | g :: r, m => by
    rw [List.cons_append, mvl_cons]
    constructor
    · rintro (⟨a, h, rfl⟩ | ⟨a, h, rfl⟩)
      · exact .inl ⟨a :: r, mvl_cons.mpr (.inl ⟨a, h, rfl⟩), rfl⟩
      · rcases mvl_append.mp h with ⟨m1, h1, rfl⟩ | ⟨c', h1, rfl⟩
        · exact .inl ⟨g :: m1, mvl_cons.mpr (.inr ⟨m1, h1, rfl⟩), rfl⟩
        · exact .inr ⟨c', h1, rfl⟩
    · rintro (⟨m1, h, rfl⟩ | ⟨c', h, rfl⟩)
      · rcases mvl_cons.mp h with ⟨a, ha, rfl⟩ | ⟨a, ha, rfl⟩
        · exact .inl ⟨a, ha, rfl⟩
        · exact .inr ⟨a ++ k, mvl_append.mpr (.inl ⟨a, ha, rfl⟩), rfl⟩
      · exact .inr ⟨r ++ c', mvl_append.mpr (.inr ⟨c', h, rfl⟩), rfl⟩
theorem pmv_app {gs : List Gm} {s : Bool} {L R K J : List Int} {w : List Int × List Int} : w ∈ pmv gs s (L ++ K) (R ++ J) ↔ (∃ v ∈ pmv gs s L R, w = (v.1 ++ K, v.2 ++ J)) ∨ ∃ v ∈ pmv gs s K J, w = (L ++ v.1, R ++ v.2) := by
  rw [pmv_mem]
  constructor
  · rintro (⟨m, h, rfl⟩ | ⟨m, h, rfl⟩)
    · rcases mvl_append.mp h with ⟨m1, h1, rfl⟩ | ⟨m1, h1, rfl⟩
      · exact .inl ⟨(m1, R), pmv_mem.mpr (.inl ⟨m1, h1, rfl⟩), rfl⟩
      · exact .inr ⟨(m1, J), pmv_mem.mpr (.inl ⟨m1, h1, rfl⟩), rfl⟩
    · rcases mvl_append.mp h with ⟨m1, h1, rfl⟩ | ⟨m1, h1, rfl⟩
      · exact .inl ⟨(L, m1), pmv_mem.mpr (.inr ⟨m1, h1, rfl⟩), rfl⟩
      · exact .inr ⟨(K, m1), pmv_mem.mpr (.inr ⟨m1, h1, rfl⟩), rfl⟩
  · rintro (⟨v, h, rfl⟩ | ⟨v, h, rfl⟩)
    · rcases pmv_mem.mp h with ⟨m, hm, rfl⟩ | ⟨m, hm, rfl⟩
      · exact .inl ⟨_, mvl_append.mpr (.inl ⟨m, hm, rfl⟩), rfl⟩
      · exact .inr ⟨_, mvl_append.mpr (.inl ⟨m, hm, rfl⟩), rfl⟩
    · rcases pmv_mem.mp h with ⟨m, hm, rfl⟩ | ⟨m, hm, rfl⟩
      · exact .inl ⟨_, mvl_append.mpr (.inr ⟨m, hm, rfl⟩), rfl⟩
      · exact .inr ⟨_, mvl_append.mpr (.inr ⟨m, hm, rfl⟩), rfl⟩
/-- who begins loses both, loses them together -/
theorem pg_lose {gs : List Gm} (o : GOk gs) : ∀ (n : Nat) (L R K J : List Int) (s : Bool), mea L + mea R + (mea K + mea J) < n → pg gs L R s = false → pg gs K J s = false → pg gs (L ++ K) (R ++ J) s = false
  | 0, _, _, _, _, _, h, _, _ => by omega
  | n + 1, L, R, K, J, s, hn, h1, h2 => by
    refine Bool.eq_false_iff.mpr fun z => ?_
    obtain ⟨w, hw, ew⟩ := pg_t o z
    rcases pmv_app.mp hw with ⟨v, hv, rfl⟩ | ⟨v, hv, rfl⟩
    · obtain ⟨u, hu, eu⟩ := pg_t o (pg_f o h1 hv)
      rw [Bool.not_not] at eu
      have q1 := pmv_mz o hv
      have q2 := pmv_mz o hu
      unfold mz at q1 q2
      have := pg_w o (s := !s) (pmv_app.mpr (.inl ⟨u, hu, rfl⟩)) (by rw [Bool.not_not]; exact pg_lose o n u.1 u.2 K J s (by omega) eu h2)
      rw [this] at ew; cases ew
    · obtain ⟨u, hu, eu⟩ := pg_t o (pg_f o h2 hv)
      rw [Bool.not_not] at eu
      have q1 := pmv_mz o hv
      have q2 := pmv_mz o hu
      unfold mz at q1 q2
      have := pg_w o (s := !s) (pmv_app.mpr (.inr ⟨u, hu, rfl⟩)) (by rw [Bool.not_not]; exact pg_lose o n L R u.1 u.2 s (by omega) h1 eu)
      rw [this] at ew; cases ew
/-- a list less itself -/
theorem pg_self {gs : List Gm} (o : GOk gs) : ∀ (n : Nat) (K : List Int) (s : Bool), mea K < n → pg gs K K s = false
  | 0, _, _, h => by omega
  | n + 1, K, s, hn => by
    refine Bool.eq_false_iff.mpr fun z => ?_
    obtain ⟨w, hw, ew⟩ := pg_t o z
    rcases pmv_mem.mp hw with ⟨m, h, rfl⟩ | ⟨m, h, rfl⟩
    · have lm := mvl_mea o h
      have := pg_w o (s := !s) (L := m) (R := K) (w := (m, m)) (pmv_mem.mpr (.inr ⟨m, by rw [Bool.not_not]; exact h, rfl⟩)) (by rw [Bool.not_not]; exact pg_self o n m s (by omega))
      rw [this] at ew; cases ew
    · have lm := mvl_mea o h
      have := pg_w o (s := !s) (L := K) (R := m) (w := (m, m)) (pmv_mem.mpr (.inl ⟨m, h, rfl⟩)) (by rw [Bool.not_not]; exact pg_self o n m s (by omega))
      rw [this] at ew; cases ew
/-- what is on both sides falls out -/
theorem pg_cancel {gs : List Gm} (o : GOk gs) {L R K : List Int} {s : Bool} : pg gs (L ++ K) (R ++ K) s = pg gs L R s := by
  have z := fun s => pg_self o _ K s (Nat.lt_succ_self _)
  cases h : pg gs L R s with
  | false => exact pg_lose o _ L R K K s (Nat.lt_succ_self _) h (z s)
  | true =>
    obtain ⟨w, hw, ew⟩ := pg_t o h
    exact pg_w o (pmv_app.mpr (.inl ⟨w, hw, rfl⟩)) (pg_lose o _ w.1 w.2 K K (!s) (Nat.lt_succ_self _) ew (z _))
theorem mvl_one {gs : List Gm} {s : Bool} {x : Int} : mvl gs s [x] = (mvs gs x.toNat s).map fun m => [m] := by
  show (mvs gs x.toNat s).map _ ++ [] = _
  rw [List.append_nil]
/-- sums by their numbers -/
theorem pg_sm {gs : List Gm} (o : GOk gs) : ∀ (n : Nat) (L R : List Int) (x y : Int) (s : Bool), mea L + mea R < n → sm gs L = some x → sm gs R = some y → pg gs [x] [y] s = pg gs L R s
  | 0, _, _, _, _, _, h, _, _ => by omega
  | n + 1, L, R, x, y, s, hn, hx, hy => by
    obtain ⟨a, b, a1, b1, x0, ex, _⟩ := sm_some o hx
    obtain ⟨a', b', a2, b2, y0, ey, _⟩ := sm_some o hy
    have mx : ∀ s, ∃ p, mapO (sm gs) (mvl gs s L) = some p ∧ mvs gs x.toNat s = canon p := fun s => by
      cases s
      · exact ⟨b, b1, mvs_canon ex false⟩
      · exact ⟨a, a1, mvs_canon ex true⟩
    have my : ∀ s, ∃ p, mapO (sm gs) (mvl gs s R) = some p ∧ mvs gs y.toNat s = canon p := fun s => by
      cases s
      · exact ⟨b', b2, mvs_canon ey false⟩
      · exact ⟨a', a2, mvs_canon ey true⟩
    obtain ⟨p, hp, ep⟩ := mx s
    obtain ⟨q, hq, eq⟩ := my (!s)
    rw [pg_eq o, pg_eq o]
    refine any_iff (fun w hw e => ?_) fun w hw e => ?_
    · rcases pmv_mem.mp hw with ⟨m, h, rfl⟩ | ⟨m, h, rfl⟩
      · rw [mvl_one] at h
        obtain ⟨m', hm', rfl⟩ := List.mem_map.mp h
        rw [ep, canon_mem, mapO_mem hp] at hm'
        obtain ⟨k, hk, ek⟩ := hm'
        have lk := mvl_mea o hk
        exact ⟨(k, R), pmv_mem.mpr (.inl ⟨k, hk, rfl⟩), by rw [← pg_sm o n k R m' y (!s) (by omega) ek hy]; exact e⟩
      · rw [mvl_one] at h
        obtain ⟨m', hm', rfl⟩ := List.mem_map.mp h
        rw [eq, canon_mem, mapO_mem hq] at hm'
        obtain ⟨k, hk, ek⟩ := hm'
        have lk := mvl_mea o hk
        exact ⟨(L, k), pmv_mem.mpr (.inr ⟨k, hk, rfl⟩), by rw [← pg_sm o n L k x m' (!s) (by omega) hx ek]; exact e⟩
    · rcases pmv_mem.mp hw with ⟨m, h, rfl⟩ | ⟨m, h, rfl⟩
      · obtain ⟨z, ez⟩ := mapO_all hp m h
        have lk := mvl_mea o h
        exact ⟨([z], [y]), pmv_mem.mpr (.inl ⟨[z], by rw [mvl_one]; exact List.mem_map.mpr ⟨z, by rw [ep, canon_mem, mapO_mem hp]; exact ⟨m, h, ez⟩, rfl⟩, rfl⟩), by rw [pg_sm o n m R z y (!s) (by omega) ez hy]; exact e⟩
      · obtain ⟨z, ez⟩ := mapO_all hq m h
        have lk := mvl_mea o h
        exact ⟨([x], [z]), pmv_mem.mpr (.inr ⟨[z], by rw [mvl_one]; exact List.mem_map.mpr ⟨z, by rw [eq, canon_mem, mapO_mem hq]; exact ⟨m, h, ez⟩, rfl⟩, rfl⟩), by rw [pg_sm o n L m x z (!s) (by omega) hx ez]; exact e⟩
theorem pg_swap {gs : List Gm} (o : GOk gs) : ∀ (n : Nat) (L R : List Int) (s : Bool), mea L + mea R < n → pg gs R L (!s) = pg gs L R s
  | 0, _, _, _, h => by omega
  | n + 1, L, R, s, hn => by
    rw [pg_eq o, pg_eq o]
    refine any_iff (fun w hw e => ?_) fun w hw e => ?_
    · have q := pmv_mz o hw
      unfold mz at q
      refine ⟨(w.2, w.1), ?_, by rw [← pg_swap o n w.2 w.1 (!s) (by omega)]; exact e⟩
      rcases pmv_mem.mp hw with ⟨m, h, rfl⟩ | ⟨m, h, rfl⟩
      · exact pmv_mem.mpr (.inr ⟨m, h, rfl⟩)
      · exact pmv_mem.mpr (.inl ⟨m, by rw [Bool.not_not] at h; exact h, rfl⟩)
    · have q := pmv_mz o hw
      unfold mz at q
      refine ⟨(w.2, w.1), ?_, by rw [pg_swap o n w.1 w.2 (!s) (by omega)]; exact e⟩
      rcases pmv_mem.mp hw with ⟨m, h, rfl⟩ | ⟨m, h, rfl⟩
      · exact pmv_mem.mpr (.inr ⟨m, by rw [Bool.not_not]; exact h, rfl⟩)
      · exact pmv_mem.mpr (.inl ⟨m, h, rfl⟩)
theorem mvs_tr {gs : List Gm} (o : GOk gs) {x t : Int} (h : tr gs x = some t) (s : Bool) : ∃ p, mapO (tr gs) (mvs gs x.toNat (!s)) = some p ∧ mvs gs t.toNat s = canon p := by
  obtain ⟨gm, a, b, e, h1, h2, x0, ex, _⟩ := tr_some o h
  have em : ∀ s, mvs gs x.toNat s = if s then gm.1 else gm.2 := fun s => by unfold mvs; rw [e]
  cases s
  · exact ⟨b, by rw [em]; exact h2, mvs_canon ex false⟩
  · exact ⟨a, by rw [em]; exact h1, mvs_canon ex true⟩
theorem pg_tr {gs : List Gm} (o : GOk gs) : ∀ (n : Nat) (x y t u : Int) (s : Bool), x.toNat + y.toNat < n → tr gs x = some t → tr gs y = some u → pg gs [t] [u] s = pg gs [x] [y] (!s)
  | 0, _, _, _, _, _, h, _, _ => by omega
  | n + 1, x, y, t, u, s, hn, ht, hu => by
    obtain ⟨p, hp, ep⟩ := mvs_tr o ht s
    obtain ⟨q, hq, eq⟩ := mvs_tr o hu (!s)
    rw [pg_eq o, pg_eq o]
    refine any_iff (fun w hw e => ?_) fun w hw e => ?_
    · rcases pmv_mem.mp hw with ⟨m, h, rfl⟩ | ⟨m, h, rfl⟩
      · rw [mvl_one] at h
        obtain ⟨m', hm', rfl⟩ := List.mem_map.mp h
        rw [ep, canon_mem, mapO_mem hp] at hm'
        obtain ⟨k, hk, ek⟩ := hm'
        have lk := mvs_low o hk
        exact ⟨([k], [y]), pmv_mem.mpr (.inl ⟨[k], by rw [mvl_one]; exact List.mem_map.mpr ⟨k, hk, rfl⟩, rfl⟩), by rw [← pg_tr o n k y m' u (!s) (by omega) ek hu]; exact e⟩
      · rw [mvl_one] at h
        obtain ⟨m', hm', rfl⟩ := List.mem_map.mp h
        rw [eq, canon_mem, mapO_mem hq] at hm'
        obtain ⟨k, hk, ek⟩ := hm'
        have lk := mvs_low o hk
        exact ⟨([x], [k]), pmv_mem.mpr (.inr ⟨[k], by rw [mvl_one]; exact List.mem_map.mpr ⟨k, hk, rfl⟩, rfl⟩), by rw [← pg_tr o n x k t m' (!s) (by omega) ht ek]; exact e⟩
    · rcases pmv_mem.mp hw with ⟨m, h, rfl⟩ | ⟨m, h, rfl⟩
      · rw [mvl_one] at h
        obtain ⟨k, hk, rfl⟩ := List.mem_map.mp h
        obtain ⟨z, ez⟩ := mapO_all hp k hk
        have lk := mvs_low o hk
        exact ⟨([z], [u]), pmv_mem.mpr (.inl ⟨[z], by rw [mvl_one]; exact List.mem_map.mpr ⟨z, by rw [ep, canon_mem, mapO_mem hp]; exact ⟨k, hk, ez⟩, rfl⟩, rfl⟩), by rw [pg_tr o n k y z u (!s) (by omega) ez hu]; exact e⟩
      · rw [mvl_one] at h
        obtain ⟨k, hk, rfl⟩ := List.mem_map.mp h
        obtain ⟨z, ez⟩ := mapO_all hq k hk
        have lk := mvs_low o hk
        exact ⟨([t], [z]), pmv_mem.mpr (.inr ⟨[z], by rw [mvl_one]; exact List.mem_map.mpr ⟨z, by rw [eq, canon_mem, mapO_mem hq]; exact ⟨k, hk, ez⟩, rfl⟩, rfl⟩), by rw [pg_tr o n x k t z (!s) (by omega) ht ez]; exact e⟩
theorem ge_pg {gs : List Gm} (o : GOk gs) : ∀ (n x y : Nat), x + y < n → ge gs x y = !pg gs [(x : Int)] [(y : Int)] false
  | 0, _, _, h => by omega
  | n + 1, x, y, h => by
    have e1 : ∀ r ∈ mvs gs x false, gR gs (ge gs) r.toNat y = pg gs [r] [(y : Int)] true := fun r hr => by
      have lr := mvs_low o hr
      rw [pg_eq o]
      unfold gR pmv
      rw [List.any_append, List.any_map, List.any_map, mvl_one, mvl_one, List.any_map, List.any_map]
      have q1 : ((mvs gs r.toNat true).any fun l => ge gs l.toNat y) = (mvs gs r.toNat true).any (((fun w : List Int × List Int => !pg gs w.1 w.2 (!true)) ∘ fun m => (m, [(y : Int)])) ∘ fun m => [m]) := any_eq fun l hl => by
        have ll := mvs_low o hl
        obtain ⟨k, rfl⟩ := Int.eq_ofNat_of_zero_le ll.1
        exact ge_pg o n k y (by omega)
      have q2 : ((mvs gs y false).any fun q => ge gs r.toNat q.toNat) = (mvs gs (y : Int).toNat (!true)).any (((fun w : List Int × List Int => !pg gs w.1 w.2 (!true)) ∘ fun m => ([r], m)) ∘ fun m => [m]) := any_eq fun l hl => by
        have ll := mvs_low o hl
        obtain ⟨k, rfl⟩ := Int.eq_ofNat_of_zero_le ll.1
        obtain ⟨j, rfl⟩ := Int.eq_ofNat_of_zero_le lr.1
        exact ge_pg o n j k (by omega)
      rw [q1, q2]
    have e2 : ∀ p ∈ mvs gs y true, gL gs (ge gs) x p.toNat = pg gs [(x : Int)] [p] true := fun p hp => by
      have lp := mvs_low o hp
      rw [pg_eq o]
      unfold gL pmv
      rw [List.any_append, List.any_map, List.any_map, mvl_one, mvl_one, List.any_map, List.any_map]
      have q1 : ((mvs gs x true).any fun l => ge gs l.toNat p.toNat) = (mvs gs (x : Int).toNat true).any (((fun w : List Int × List Int => !pg gs w.1 w.2 (!true)) ∘ fun m => (m, [p])) ∘ fun m => [m]) := any_eq fun l hl => by
        have ll := mvs_low o hl
        obtain ⟨k, rfl⟩ := Int.eq_ofNat_of_zero_le ll.1
        obtain ⟨j, rfl⟩ := Int.eq_ofNat_of_zero_le lp.1
        exact ge_pg o n k j (by omega)
      have q2 : ((mvs gs p.toNat false).any fun q => ge gs x q.toNat) = (mvs gs p.toNat (!true)).any (((fun w : List Int × List Int => !pg gs w.1 w.2 (!true)) ∘ fun m => ([(x : Int)], m)) ∘ fun m => [m]) := any_eq fun l hl => by
        have ll := mvs_low o hl
        obtain ⟨k, rfl⟩ := Int.eq_ofNat_of_zero_le ll.1
        exact ge_pg o n x k (by omega)
      rw [q1, q2]
    rw [ge_eq o, pg_eq o]
    unfold gB pmv
    rw [List.any_append, List.any_map, List.any_map, mvl_one, mvl_one, List.any_map, List.any_map, Bool.not_or, all_eq e1, all_eq e2, List.all_eq_not_any_not, List.all_eq_not_any_not]
    rfl
theorem ge_trans {gs : List Gm} (o : GOk gs) {x y z : Nat} (h1 : ge gs x y = true) (h2 : ge gs y z = true) : ge gs x z = true ∧ pg gs [(x : Int), (y : Int)] [(y : Int), (z : Int)] false = false := by
  rw [ge_pg o _ x y (Nat.lt_succ_self _)] at h1
  rw [ge_pg o _ y z (Nat.lt_succ_self _)] at h2
  have h1' : pg gs [(x : Int)] [(y : Int)] false = false := by simpa using h1
  have h2' : pg gs [(y : Int)] [(z : Int)] false = false := by simpa using h2
  have h3 := pg_lose o _ [(x : Int)] [(y : Int)] [(y : Int)] [(z : Int)] false (Nat.lt_succ_self _) h1' h2'
  refine ⟨?_, h3⟩
  rw [ge_pg o _ x z (Nat.lt_succ_self _), ← pg_cancel o (K := [(y : Int)])]
  have e := pg_perm o _ ([(x : Int)] ++ [(y : Int)]) ([(x : Int)] ++ [(y : Int)]) ([(z : Int)] ++ [(y : Int)]) ([(y : Int)] ++ [(z : Int)]) false (Nat.lt_succ_self _) (List.Perm.refl _) (List.Perm.swap _ _ _)
  rw [e, h3]
  rfl
theorem ge_sum {gs : List Gm} (o : GOk gs) {x y z a b : Nat} (ha : sm gs [(x : Int), (z : Int)] = some (a : Int)) (hb : sm gs [(y : Int), (z : Int)] = some (b : Int)) : ge gs a b = ge gs x y := by
  rw [ge_pg o _ a b (Nat.lt_succ_self _), ge_pg o _ x y (Nat.lt_succ_self _), pg_sm o _ _ _ _ _ false (Nat.lt_succ_self _) ha hb]
  exact congrArg (!·) (pg_cancel o (L := [(x : Int)]) (R := [(y : Int)]) (K := [(z : Int)]))
theorem ge_tr {gs : List Gm} (o : GOk gs) {x y t u : Nat} (ht : tr gs (x : Int) = some (t : Int)) (hu : tr gs (y : Int) = some (u : Int)) : ge gs u t = ge gs x y := by
  rw [ge_pg o _ u t (Nat.lt_succ_self _), ge_pg o _ x y (Nat.lt_succ_self _), pg_tr o _ _ _ _ _ false (Nat.lt_succ_self _) hu ht]
  exact congrArg (!·) (pg_swap o _ [(x : Int)] [(y : Int)] false (Nat.lt_succ_self _))

abbrev N_law : List Str := ["script", "d", "book", "order", "moves", "known", "k", "g", "h", "above", "beneath", "word", "back", "found", "way", "last", "new"]
theorem sc_law : FnScope N_law ["script"] (defScope s_law) := ⟨rfl, rfl, rfl, by decide +kernel, rfl, by decide +kernel, by decide +kernel⟩
def t_law (c : Cn) : TS :=
  (tSeq (tAsg (tCall (sp_law_draws c) [] E0 (tCons (tVar 0) (tCons (tC (.int 60)) tNil))) (gName 1))
  (tSeq (tAsg (tMake c.cBook (sp_Book_init c) [] E0 tNil) (gName 2))
  (tSeq (tAsg (tCall (sp_law_games c) [] E0 (tCons (tVar 2) (tCons (tVar 1) (tCons (tC (.int 2)) (tCons (tOp (bAdd c.K) (tC (.int 1)) (tOp bMod (tOp (bIx c.P c.w c.K) (tVar 1) (tC (.int 0))) (tC (.int 8)))) tNil))))) (gSeq c.K 2 (gCons (gName 3) (gCons (gName 4) gNil))))
  (tSeq (tAsg (uDNew c.P c.w) (gName 5))
  (tSeq (tFor (iRng1 (tCons (tC (.int 3)) tNil)) (gName 6)
  (tSeq (tAsg (tOp (bIx c.P c.w c.K) (tVar 3) (tOp bMod (tOp (bIx c.P c.w c.K) (tVar 1) (tOp (bAdd c.K) (tC (.int 30)) (tVar 6))) (tCB (kLen c.K) (tCons (tVar 3) tNil)))) (gName 7))
  (tSeq (tAsg (tOp (bIx c.P c.w c.K) (tVar 3) (tOp bMod (tOp (bIx c.P c.w c.K) (tVar 1) (tOp (bAdd c.K) (tC (.int 33)) (tVar 6))) (tCB (kLen c.K) (tCons (tVar 3) tNil)))) (gName 8))
  (tSeq (tAsg (tCall (sp_law_loses 30 c) [] E0 (tCons (tVar 4) (tCons (tVar 7) (tCons (tVar 8) (tCons (tC (.int 1)) (tCons (tVar 5) tNil)))))) (gName 9))
  (tSeq (tAsg (tCall (sp_law_loses 30 c) [] E0 (tCons (tVar 4) (tCons (tVar 8) (tCons (tVar 7) (tCons (tC (.int 1)) (tCons (tVar 5) tNil)))))) (gName 10))
  (tSeq (tAsg (tOp (bIx c.P c.w c.K) (tOp (bIx c.P c.w c.K) (tLst (tCons (tLst (tCons (tC (.str "apart")) (tCons (tC (.str "less")) tNil))) (tCons (tLst (tCons (tC (.str "more")) (tCons (tC (.str "alike")) tNil))) tNil))) (tCB kInt (tCons (tVar 9) tNil))) (tCB kInt (tCons (tVar 10) tNil))) (gName 11))
  (tSeq (tAsg (tOp (bIx c.P c.w c.K) (tOp (bIx c.P c.w c.K) (tLst (tCons (tLst (tCons (tC (.str "apart")) (tCons (tC (.str "more")) tNil))) (tCons (tLst (tCons (tC (.str "less")) (tCons (tC (.str "alike")) tNil))) tNil))) (tCB kInt (tCons (tVar 9) tNil))) (tCB kInt (tCons (tVar 10) tNil))) (gName 12))
  (tSeq (tAsg (tCall (sp_compared c) [] E0 (tCons (tVar 2) (tCons (tVar 7) (tCons (tVar 8) tNil)))) (gName 13))
  (tSeq (tIfS (tOr (tNot (tTru c.K (tCB (rIsi c.K) (tCons (tVar 13) (tCons (tC (.ty "str")) tNil))))) (tOr (tTest (tOp (cNe c.K) (tVar 13) (tVar 11))) (tTest (tOp (cNe c.K) (tCall (sp_compared c) [] E0 (tCons (tVar 2) (tCons (tVar 8) (tCons (tVar 7) tNil)))) (tVar 12)))))
  (tRet (tC (.bl false)))
  tNext)
  (tSeq (tIfS (tOr (tTest (tOp (cNe c.K) (tCall (sp_compared c) [] E0 (tCons (tVar 2) (tCons (tCall (sp_turned c) [] E0 (tCons (tVar 2) (tCons (tVar 8) tNil))) (tCons (tCall (sp_turned c) [] E0 (tCons (tVar 2) (tCons (tVar 7) tNil))) tNil)))) (tVar 11))) (tTest (tOp (cNe c.K) (tCall (sp_compared c) [] E0 (tCons (tVar 2) (tCons (tVar 7) (tCons (tVar 8) tNil)))) (tVar 11))))
  (tRet (tC (.bl false)))
  tNext)
  (tFor (iRng1 (tCons (tC (.int 4)) tNil)) (gName 14)
  (tSeq (tIfS (tNot (tTru c.K (tCall (sp_law_refused c) [] E0 (tCons (tVar 2) (tCons (tVar 14) (tCons (tCall (sp_law_bad c) [] E0 (tCons (tVar 2) (tCons (tOp (bIx c.P c.w c.K) (tVar 1) (tOp (bAdd c.K) (tOp (bAdd c.K) (tC (.int 36)) (tOp bMul (tC (.int 4)) (tVar 6))) (tVar 14))) tNil))) (tCons (tVar 8) tNil)))))))
  (tRet (tC (.bl false)))
  tNext)
  (tIfS (tNot (tTru c.K (tCall (sp_law_refused c) [] E0 (tCons (tVar 2) (tCons (tVar 14) (tCons (tVar 7) (tCons (tCall (sp_law_bad c) [] E0 (tCons (tVar 2) (tCons (tOp (bIx c.P c.w c.K) (tVar 1) (tOp (bAdd c.K) (tOp (bAdd c.K) (tC (.int 48)) (tOp bMul (tC (.int 3)) (tVar 6))) (tOp bMod (tVar 14) (tC (.int 3))))) tNil))) tNil)))))))
  (tRet (tC (.bl false)))
  tNext)))))))))))))
  (tSeq (tAsg (tOp bSub (tMeth c.cBook "many" (sp_Book_many c) [] E0 (tVar 2) tNil) (tC (.int 1))) (gName 15))
  (tSeq (tIfS (tOr (tNot (tTru c.K (tCall (sp_law_refused c) [] E0 (tCons (tVar 2) (tCons (tOp bMod (tOp bDiv (tOp (bIx c.P c.w c.K) (tVar 1) (tC (.int 0))) (tC (.int 7))) (tC (.int 4))) (tCons (tOp (bAdd c.K) (tVar 15) (tC (.int 1))) (tCons (tC (.int 0)) tNil))))))) (tNot (tTru c.K (tCall (sp_law_refused c) [] E0 (tCons (tVar 2) (tCons (tOp bMod (tOp (bIx c.P c.w c.K) (tVar 1) (tC (.int 1))) (tC (.int 4))) (tCons (tC (.int 0)) (tCons (tOp (bAdd c.K) (tVar 15) (tC (.int 1))) tNil))))))))
  (tRet (tC (.bl false)))
  tNext)
  (tSeq (tAsg (tMeth c.cBook "game" (sp_Book_game c) [] E0 (tVar 2) (tCons (tLst (tCons (tOp (bIx c.P c.w c.K) (tVar 3) (tOp bMod (tOp (bIx c.P c.w c.K) (tVar 1) (tC (.int 2))) (tCB (kLen c.K) (tCons (tVar 3) tNil)))) tNil)) (tCons (tLst tNil) tNil))) (gName 16))
  (tRet (tAndV (tOp (cEq c.K) (tCall (sp_compared c) [] E0 (tCons (tVar 2) (tCons (tVar 16) (tCons (tVar 16) tNil)))) (tC (.str "alike"))) (tCB (rIsi c.K) (tCons (tCall (sp_no_less c) [] E0 (tCons (tVar 2) (tCons (tC (.int 0)) (tCons (tVar 16) tNil)))) (tCons (tC (.ty "bool")) tNil)))))))))))))
theorem BookAt.cells {c : Cn} {H : Hp} {b : Addr} {M : Addr → Prop} {gs : List Gm} {ds : List Int} (B : BookAt c H b M gs ds) {x : Addr} (h : M x) : (∀ l, H x ≠ some (.tup l)) ∧ ∀ C d l, H x ≠ some (.ins C d l) := by
  obtain ⟨dx, mv, nm, dp, ts, xs, h1, h2, h3, h4, h5, h6, h7, m1, m2, m3, ne, h8⟩ := B.ex
  have h4' := h4.here
  unfold NdO at h4'
  rcases h8 x h with rfl | rfl | rfl
  · exact ⟨(fun l z => by rw [h2] at z; cases z), (fun _ _ l z => by rw [h2] at z; cases z)⟩
  · exact ⟨(fun l z => by rw [h4'] at z; cases z), (fun _ _ l z => by rw [h4'] at z; cases z)⟩
  · exact ⟨(fun l z => by rw [h7] at z; cases z), (fun _ _ l z => by rw [h7] at z; cases z)⟩
theorem dep2 {c : Cn} {H : Hp} {b : Addr} {M : Addr → Prop} {gs : List Gm} {ds : List Int} (B : BookAt c H b M gs ds) {g h : Nat} (hg : g < gs.length) (hh : h < gs.length) (g5 : g ≤ 30) (h5 : h ≤ 30) : ∃ dg dh, ds[g]? = some dg ∧ ds[h]? = some dh ∧ dg + dh < 70 := by
  have l := B.dok.len
  obtain ⟨dg, e1⟩ : ∃ v, ds[g]? = some v := ⟨_, List.getElem?_eq_getElem (by omega)⟩
  obtain ⟨dh, e2⟩ : ∃ v, ds[h]? = some v := ⟨_, List.getElem?_eq_getElem (by omega)⟩
  have q1 := B.dok.le B.ok _ _ (Nat.lt_succ_self _) dg e1
  have q2 := B.dok.le B.ok _ _ (Nat.lt_succ_self _) dh e2
  exact ⟨dg, dh, e1, e2, by omega⟩
theorem dep1 {c : Cn} {H : Hp} {b : Addr} {M : Addr → Prop} {gs : List Gm} {ds : List Int} (B : BookAt c H b M gs ds) {g : Nat} (hg : g < gs.length) (g5 : g ≤ 30) : ∃ dg, ds[g]? = some dg ∧ dg < 70 := by
  obtain ⟨dg, _, e1, _, h⟩ := dep2 B hg hg g5 g5
  have l := B.dok.len
  have q1 := B.dok.le B.ok _ _ (Nat.lt_succ_self _) dg e1
  exact ⟨dg, e1, by omega⟩
theorem cutN {t : TS} {D : Ends} {σ : L2.St} (σ' : L2.St) {H : Hp} (S : Hp → Prop) (k : ∀ H', S H' → D.nx σ' H') (h : ∀ R : L2.St → Hp → Prop, (∀ H', S H' → R σ' H') → t { nx := R, rt := D.rt, bk := D.bk, ct := D.ct } σ H) : t D σ H := h D.nx k
theorem ge_refl {gs : List Gm} (o : GOk gs) (g : Nat) : ge gs g g = true := by
  rw [ge_pg o _ g g (Nat.lt_succ_self _), pg_self o _ _ _ (Nat.lt_succ_self _)]; rfl
structure LS (c : Cn) (H : Hp) (b pd od mv kn : Addr) (M W : Addr → Prop) (gs F : List Gm) (e ds : List Int) (xs : List NX) : Prop where
  B : BookAt c H b M (gs ++ F) e
  Mv : MvW W H mv gs (· < gs.length)
  eo : H od = some (.lst ((nums gs.length).map V.int))
  ep : H pd = some (.lst (ds.map V.int))
  N : NdAt c.P c.w H kn xs
  lm : LM gs xs
section
variable {c : Cn} {H H' : Hp} {b pd od mv kn : Addr} {M W : Addr → Prop} {gs F : List Gm} {e ds : List Int} {xs : List NX}
theorem LS.same (S : LS c H b pd od mv kn M W gs F e ds xs) (k : Keep Nil H H') : LS c H' b pd od mv kn M W gs F e ds xs :=
  ⟨S.B.same k, S.Mv.same k, k.get (fun z => z) S.eo, k.get (fun z => z) S.ep, ndSame S.N k, S.lm⟩
theorem LS.nd {ys : List NX} (S : LS c H b pd od mv kn M W gs F e ds xs) (k : Keep (fun x => x = kn) H H') (n : ¬ M kn) (N : NdAt c.P c.w H' kn ys) (l : LM gs ys) : LS c H' b pd od mv kn M W gs F e ds ys :=
  ⟨S.B.nd S.N k n, mvNd S.Mv S.N k, k.get (nd_neL S.N S.eo) S.eo, k.get (nd_neL S.N S.ep) S.ep, N, l⟩
theorem LS.book {f : List Gm} {e' : List Int} (S : LS c H b pd od mv kn M W gs F e ds xs) (k : Keep M H H') (mw : ∀ x, M x → W x) (nm : ¬ W mv) (n : ¬ M kn) (no : ¬ M od) (np : ¬ M pd) (B : BookAt c H' b M (gs ++ F ++ f) e') : LS c H' b pd od mv kn M W gs (F ++ f) e' ds xs :=
  ⟨by rw [← List.append_assoc]; exact B, S.Mv.keepW (k.mono mw) nm, k _ _ no S.eo, k _ _ np S.ep, S.N.keep ((k _ _ n S.N.here).trans S.N.here.symm) fun t ys h => k _ _ (fun z => (S.B.cells z).1 _ h) h, S.lm⟩
end
def sp_law_law (K : PySem.W.Frag) : Sp := fun vs H Q E => vs.length = 1 ∧ ∃ (a : Addr) (ns : List Int), vs = [.ref a] ∧ SqL K H a (ns.map V.int) ∧ ns.length ≤ 63 ∧ ∀ H', Q (.bl true) H'
theorem p_law {c : Cn} {mg : Str → Option Value} (T : Txt c mg) {vs : List V} {H : Hp} {Q : VK} {E : XK} (h : sp_law_law c.K vs H Q E) : t_law c { nx := fun _ H' => Q .non H', rt := Q } (start N_law vs) H := by
  obtain ⟨_, a, ns, rfl, hs, few, k⟩ := h
  unfold t_law
  repeat kaf_suf
  refine ⟨rfl, a, ns, 60, rfl, hs, few, by decide, by decide, fun H1 pd ds k1 hpd epd dz dl du => ?_⟩
  repeat kaf_suf
  intro b dx hb hdx ndx
  repeat kaf_suf
  have npb : pd ≠ b := fun z => by rw [z, hb] at epd; cases epd
  refine ⟨rfl, b, dx, rfl, upd_same, fun H2 M k2 B2 nB => ⟨rfl, ?_⟩⟩
  have npd : ¬ M pd := fun z => by
    have := none_of_upd (none_of_upd (nB pd z))
    rw [epd] at this; cases this
  have epd2 := k2 _ _ npb (get_set npb (get_new hdx epd))
  clear k2 nB hb hdx epd
  have dat : ∀ j : Int, 0 ≤ j → j < 60 → ∃ z, atI (ds.map V.int) j = some (.int z) ∧ 0 ≤ z := fun j j0 j2 => by
    obtain ⟨z, hz⟩ : ∃ z, ds[j.toNat]? = some z := ⟨_, List.getElem?_eq_getElem (by omega)⟩
    exact ⟨z, atI_get (n := j.toNat) (by rw [List.getElem?_map, hz]; rfl) (by omega), (dz z (List.mem_of_getElem? hz)).1⟩
  obtain ⟨z0, hx0, z00⟩ := dat 0 (by omega) (by omega)
  repeat kaf_suf
  refine ⟨rfl, b, pd, M, ds, 2, 1 + z0 % 8, rfl, B2, epd2, npd, fun z hz => (dz z hz).1, by omega, by omega, by omega, by omega, by omega, fun H3 p od mv gs e k3 hp ep _ B3 gl hod eod hmv Mv => ?_⟩
  have epd3 := k3 _ _ npd epd2
  refine r_seqT ep rfl (r_gcons ?_)
  repeat kaf_suf
  refine r_gcons ?_
  repeat kaf_suf
  refine r_gnil ?_
  have MO : ∀ x, M x → Old H2 x := fun x h z => B2.new z h
  have nod : ¬ M od := B2.new hod
  have nmv : ¬ Old H2 mv := fun z => z hmv
  have go := B3.ok
  have g9 : gs.length ≤ 9 := by omega
  have pos := B3.pos
  clear k3 hp ep hod epd2 B2
  repeat kaf_suf
  refine .inl ⟨false, fun kn hkn => ?_⟩
  rw [if_neg Bool.false_ne_true]
  have nkM : ¬ M kn := B3.new hkn
  have k6 : Keep Nil H3 (upd H3 kn (NdO c.P c.w kn [])) := Keep.alloc hkn
  have N6 : NdAt c.P c.w (upd H3 kn (NdO c.P c.w kn [])) kn [] := ⟨upd_same, fun _ h => nomatch h⟩
  have S6 : LS c (upd H3 kn (NdO c.P c.w kn [])) b pd od mv kn M (Old H2) gs [] e ds [] := ⟨by rw [List.append_nil]; exact B3.same k6, Mv.same k6, k6.get (fun z => z) eod, k6.get (fun z => z) epd3, N6, Memo.nil⟩
  generalize upd H3 kn (NdO c.P c.w kn []) = H6 at S6 ⊢
  clear k6 hkn B3 Mv eod epd3 N6
  have ln : ((nums gs.length).map V.int).length = gs.length := by rw [List.length_map, nums_len]
  have lp : 0 < (((nums gs.length).map V.int).length : Int) := by omega
  have ix : ∀ z : Int, 0 ≤ z → ∃ n : Nat, atI ((nums gs.length).map V.int) (z % (((nums gs.length).map V.int).length : Int)) = some (.int (n : Int)) ∧ n < gs.length := fun z z0 => by
    have r0 := Int.emod_nonneg z (show (((nums gs.length).map V.int).length : Int) ≠ 0 by omega)
    have r1 := Int.emod_lt_of_pos z lp
    refine ⟨(z % (((nums gs.length).map V.int).length : Int)).toNat, ?_, by omega⟩
    refine atI_get (n := (z % (((nums gs.length).map V.int).length : Int)).toNat) ?_ (by omega)
    rw [List.getElem?_map, nums_get (by omega)]; rfl
  repeat kaf_suf
  refine for_range (lo := 0) (n := (3 : Int).toNat) (fun i σ H' => ∃ (x6 x7 x8 x9 x10 x11 x12 x13 x14 : Option V) (F : List Gm) (e' : List Int) (xs : List NX), σ = [some (.ref a), some (.ref pd), some (.ref b), some (.ref od), some (.ref mv), some (.ref kn), x6, x7, x8, x9, x10, x11, x12, x13, x14, none, none] ∧ LS c H' b pd od mv kn M (Old H2) gs F e' ds xs ∧ F.length ≤ 18 * i) ⟨_, _, _, _, _, _, _, _, _, [], _, _, rfl, S6, by simp⟩ ?_ ?_
  · rintro i σ H7 hi ⟨x6, x7, x8, x9, x10, x11, x12, x13, x14, F, e', xs, rfl, S7, fl⟩
    clear S6
    have hi3 : i < 3 := hi
    obtain ⟨za, hza, za0⟩ := dat (30 + (0 + (i : Int))) (by omega) (by omega)
    obtain ⟨zc, hzc, zc0⟩ := dat (33 + (0 + (i : Int))) (by omega) (by omega)
    have epd7 := S7.ep
    have eod7 := S7.eo
    obtain ⟨g, hg, gl'⟩ := ix za za0
    obtain ⟨h_, hh, hl'⟩ := ix zc zc0
    have sz : (g + 1) * (h_ + 1) ≤ 90000 := Nat.le_trans (Nat.mul_le_mul (show g + 1 ≤ 9 by omega) (show h_ + 1 ≤ 9 by omega)) (by omega)
    have sz' : (h_ + 1) * (g + 1) ≤ 90000 := Nat.le_trans (Nat.mul_le_mul (show h_ + 1 ≤ 9 by omega) (show g + 1 ≤ 9 by omega)) (by omega)
    repeat kaf_suf
    refine ⟨rfl, mv, kn, _, gs, g, h_, false, xs, rfl, S7.Mv, go, by omega, gl', hl', S7.N, S7.lm, by omega, fun H8 xs8 k8 N8 ok8 => ?_⟩
    rw [← ge_lo go _ _ _ (Nat.lt_succ_self _)]
    have S8 := S7.nd k8 nkM N8 ok8
    clear S7 k8 N8 ok8 epd7 eod7 hza hzc hg hh
    repeat kaf_suf
    refine ⟨rfl, mv, kn, _, gs, h_, g, false, xs8, rfl, S8.Mv, go, by omega, hl', gl', S8.N, S8.lm, by omega, fun H9 xs9 k9 N9 ok9 => ?_⟩
    rw [← ge_lo go _ _ _ (Nat.lt_succ_self _)]
    have S9 := S8.nd k9 nkM N9 ok9
    clear S8 k9 N9 ok9
    refine r_gname (r_nx (r_seq ?_))
    refine cutN [some (.ref a), some (.ref pd), some (.ref b), some (.ref od), some (.ref mv), some (.ref kn), some (.int (0 + (i : Int))), some (.int g), some (.int h_), some (.bl (ge gs g h_)), some (.bl (ge gs h_ g)), some (.str (cw (ge gs g h_) (ge gs h_ g))), x12, x13, x14, none, none] (fun H' => Keep Nil H9 H') (fun H10 k10 => ?_) ?_
    rotate_left
    · intro R hR
      cases hA : ge gs g h_ <;> cases hB : ge gs h_ g <;> rw [hA, hB] at hR
      all_goals
        repeat kaf_suf
        intro p1 hp1
        repeat kaf_suf
        intro p2 hp2
        repeat kaf_suf
        intro p3 hp3
        repeat kaf_suf
        exact hR _ (((Keep.alloc hp1).new hp2).new hp3)
    have S10 := S9.same k10
    clear S9 k10
    refine r_nx (r_seq ?_)
    refine cutN [some (.ref a), some (.ref pd), some (.ref b), some (.ref od), some (.ref mv), some (.ref kn), some (.int (0 + (i : Int))), some (.int g), some (.int h_), some (.bl (ge gs g h_)), some (.bl (ge gs h_ g)), some (.str (cw (ge gs g h_) (ge gs h_ g))), some (.str (cw (ge gs h_ g) (ge gs g h_))), x13, x14, none, none] (fun H' => Keep Nil H10 H') (fun H11 k11 => ?_) ?_
    rotate_left
    · intro R hR
      cases hA : ge gs g h_ <;> cases hB : ge gs h_ g <;> rw [hA, hB] at hR
      all_goals
        repeat kaf_suf
        intro p1 hp1
        repeat kaf_suf
        intro p2 hp2
        repeat kaf_suf
        intro p3 hp3
        repeat kaf_suf
        exact hR _ (((Keep.alloc hp1).new hp2).new hp3)
    have S11 := S10.same k11
    clear S10 k11
    refine r_nx ?_
    have la : (gs ++ F).length = gs.length + F.length := List.length_append
    have A1 : ge (gs ++ F) g h_ = ge gs g h_ := ge_app go gl' hl'
    have A2 : ge (gs ++ F) h_ g = ge gs h_ g := ge_app go hl' gl'
    repeat kaf_suf
    refine ⟨rfl, b, M, _, _, g, h_, rfl, S11.B, by omega, by omega, by omega, sz, fun H12 k12 => ?_⟩
    rw [A1, A2]
    have S12 := S11.same k12
    clear S11 k12
    repeat kaf_suf
    refine ⟨rfl, b, M, _, _, h_, g, rfl, S12.B, by omega, by omega, by omega, sz', fun H13 k13 => ?_⟩
    rw [A1, A2]
    have S13 := S12.same k13
    clear S12 k13
    repeat kaf_suf
    have bd13 := S13.B
    refine ⟨rfl, b, M, _, _, h_, rfl, S13.B, by omega, dep1 S13.B (by omega) (by omega), by omega, by omega, fun H15 f15 e15 x15 kp15 B15 fl15 ex15 _ => ?_⟩
    obtain ⟨_, _, _, _, _, _, x015, xz15, _⟩ := tr_some B15.ok ex15
    have xl15 : x15 < ((gs ++ F ++ f15).length : Int) := by have := (List.getElem?_eq_some_iff.mp xz15).1; omega
    obtain ⟨a5, rfl⟩ := Int.eq_ofNat_of_zero_le x015
    have S15 := S13.book kp15 MO nmv nkM nod npd B15
    rw [List.append_assoc] at ex15 xl15
    have ll15 : (F ++ f15).length = F.length + f15.length := List.length_append
    generalize F ++ f15 = F15 at S15 ex15 xl15 ll15
    have la15 : (gs ++ F15).length = gs.length + F15.length := List.length_append
    clear S13 kp15 B15 bd13 xz15
    repeat kaf_suf
    refine ⟨rfl, b, M, _, _, g, rfl, S15.B, by omega, dep1 S15.B (by omega) (by omega), by omega, by omega, fun H16 f16 e16 x16 kp16 B16 fl16 ex16 _ => ?_⟩
    obtain ⟨_, _, _, _, _, _, x016, xz16, _⟩ := tr_some B16.ok ex16
    have xl16 : x16 < ((gs ++ F15 ++ f16).length : Int) := by have := (List.getElem?_eq_some_iff.mp xz16).1; omega
    obtain ⟨a6, rfl⟩ := Int.eq_ofNat_of_zero_le x016
    have S16 := S15.book kp16 MO nmv nkM nod npd B16
    have ex15 := tr_app (f := f16) ex15
    rw [List.append_assoc] at ex16 xl16 ex15
    have ll16 : (F15 ++ f16).length = F15.length + f16.length := List.length_append
    generalize F15 ++ f16 = F16 at S16 ex16 xl16 ll16 ex15
    have la16 : (gs ++ F16).length = gs.length + F16.length := List.length_append
    clear S15 kp16 B16 xz16
    have q1 : ge (gs ++ F16) a5 a6 = ge gs g h_ := by rw [ge_tr S16.B.ok ex16 ex15, ge_app go gl' hl']
    have q2 : ge (gs ++ F16) a6 a5 = ge gs h_ g := by rw [ge_tr S16.B.ok ex15 ex16, ge_app go hl' gl']
    repeat kaf_suf
    refine ⟨rfl, b, M, _, _, a5, a6, rfl, S16.B, by omega, by omega, by omega, Nat.le_trans (Nat.mul_le_mul (show a5 + 1 ≤ 200 by omega) (show a6 + 1 ≤ 200 by omega)) (by omega), fun H17 k17 => ?_⟩
    rw [q1, q2]
    have S17 := S16.same k17
    clear S16 k17 q1 q2
    repeat kaf_suf
    refine ⟨rfl, b, M, _, _, g, h_, rfl, S17.B, by omega, by omega, by omega, sz, fun H18 k18 => ?_⟩
    rw [ge_app go gl' hl', ge_app go hl' gl']
    have S18 := S17.same k18
    clear S17 k18
    repeat kaf_suf
    refine for_range (lo := 0) (n := (4 : Int).toNat) (fun j σ H' => ∃ (x14 : Option V), σ = [some (.ref a), some (.ref pd), some (.ref b), some (.ref od), some (.ref mv), some (.ref kn), some (.int (0 + (i : Int))), some (.int g), some (.int h_), some (.bl (ge gs g h_)), some (.bl (ge gs h_ g)), some (.str (cw (ge gs g h_) (ge gs h_ g))), some (.str (cw (ge gs h_ g) (ge gs g h_))), some (.str (cw (ge gs g h_) (ge gs h_ g))), x14, none, none] ∧ Keep Nil H18 H') ⟨_, rfl, Keep.refl⟩ ?_ ?_
    · rintro j σ H19 hj ⟨y14, rfl, k19⟩
      have hj4 : j < 4 := hj
      have S19 := S18.same k19
      have epd19 := S19.ep
      obtain ⟨zw, hzw, zw0⟩ := dat (36 + 4 * (0 + (i : Int)) + (0 + (j : Int))) (by omega) (by omega)
      obtain ⟨zv, hzv, zv0⟩ := dat (48 + 3 * (0 + (i : Int)) + (0 + (j : Int)) % 3) (by omega) (by omega)
      repeat kaf_suf
      refine ⟨rfl, b, M, _, _, zw, rfl, S19.B, zw0, fun H20 v k20 bv => ?_⟩
      repeat kaf_suf
      refine ⟨rfl, b, M, _, _, v, _, j, by rw [Int.zero_add], S19.B.same k20, .inl bv, by omega, by omega, fun H21 k21 => ?_⟩
      have S21 := (S19.same k20).same k21
      have epd21 := S21.ep
      clear S19 epd19
      repeat kaf_suf
      refine ⟨rfl, b, M, _, _, zv, rfl, S21.B, zv0, fun H22 v2 k22 bv2 => ?_⟩
      repeat kaf_suf
      refine ⟨rfl, b, M, _, _, _, v2, j, by rw [Int.zero_add], S21.B.same k22, .inr ⟨⟨g, rfl, by omega⟩, bv2⟩, by omega, by omega, fun H23 k23 => ?_⟩
      repeat kaf_suf
      exact ⟨_, rfl, (((k19.trans k20).trans k21).trans k22).trans k23⟩
    · rintro σ H19 ⟨y14, rfl, k19⟩
      repeat kaf_suf
      exact ⟨_, _, _, _, _, _, _, _, _, F16, _, xs9, rfl, S18.same k19, by omega⟩
  · rintro σ H7 ⟨x6, x7, x8, x9, x10, x11, x12, x13, x14, F, e', xs, rfl, S7, fl⟩
    clear S6
    have B7 := S7.B
    have epd7 := S7.ep
    have eod7 := S7.eo
    have la : (gs ++ F).length = gs.length + F.length := List.length_append
    have f54 : F.length ≤ 54 := fl
    obtain ⟨z1, hx1, z10⟩ := dat 1 (by omega) (by omega)
    obtain ⟨z2, hx2, z20⟩ := dat 2 (by omega) (by omega)
    obtain ⟨o, ho, ol⟩ := ix z2 z20
    obtain ⟨bx, bm, bn, bd, hbk⟩ := B7.ins_
    repeat kaf_suf
    refine ⟨rfl, b, M, _, _, rfl, B7, ?_⟩
    have e1 : z0 / 7 % 4 = ((z0 / 7 % 4).toNat : Int) := (Int.toNat_of_nonneg (by omega)).symm
    have e2 : z1 % 4 = ((z1 % 4).toNat : Int) := (Int.toNat_of_nonneg (by omega)).symm
    repeat kaf_suf
    refine ⟨rfl, b, M, _, _, _, _, (z0 / 7 % 4).toNat, congrArg (fun t : Int => [V.ref b, V.int t, V.int (((gs ++ F).length : Int) - 1 + 1), V.int 0]) e1, B7, .inl (.int (.inr (by omega))), by omega, by omega, fun H8 k8 => ?_⟩
    have S8 := S7.same k8
    have epd8 := S8.ep
    repeat kaf_suf
    refine ⟨rfl, b, M, _, _, _, _, (z1 % 4).toNat, congrArg (fun t : Int => [V.ref b, V.int t, V.int 0, V.int (((gs ++ F).length : Int) - 1 + 1)]) e2, S8.B, .inr ⟨⟨0, rfl, by omega⟩, .int (.inr (by omega))⟩, by omega, by omega, fun H9 k9 => ?_⟩
    have S9 := S8.same k9
    have epd9 := S9.ep
    have eod9 := S9.eo
    obtain ⟨bx9, bm9, bn9, bd9, hbk9⟩ := S9.B.ins_
    clear S7 S8 B7 k8 k9 epd7 eod7 epd8 hbk
    repeat kaf_suf
    intro l1 hl1
    have k10 := Keep.alloc (M := Nil) (o := .lst [.int o]) hl1
    repeat kaf_suf
    intro l2 hl2
    have k11 := k10.new (o := .lst []) hl2
    have S11 := S9.same k11
    have n1 : ¬ M l1 := S9.B.new hl1
    have n2 : ¬ M l2 := S9.B.new (none_of_upd hl2)
    have el1 := get_new (u := .lst []) hl2 (upd_same (H := H9) (a := l1) (o := .lst [.int o]))
    repeat kaf_suf
    refine ⟨rfl, b, l1, l2, M, _, _, [(o : Int)], [], rfl, S11.B, el1, upd_same, n1, n2, by omega, by simp, by simp, fun m hm => ?_, fun H12 e12 k12 B12 => ?_⟩
    · simp only [List.append_nil, List.mem_singleton] at hm
      omega
    have nl : ixG (addG (gs ++ F) (canon [(o : Int)], canon [])) (canon [(o : Int)], canon []) < (addG (gs ++ F) (canon [(o : Int)], canon [])).length := (List.getElem?_eq_some_iff.mp (ixG_get (addG_mem (gs ++ F) (canon [(o : Int)], canon [])))).1
    have al := (addG_len (gs := gs ++ F) (k := (canon [(o : Int)], canon []))).1
    generalize ixG (addG (gs ++ F) (canon [(o : Int)], canon [])) (canon [(o : Int)], canon []) = n at nl ⊢
    generalize addG (gs ++ F) (canon [(o : Int)], canon []) = G2 at nl al B12
    clear S9 S11 epd9 eod9 hbk9 k10 el1 n1 n2 k11
    repeat kaf_suf
    refine ⟨rfl, b, M, _, _, n, n, rfl, B12, nl, nl, by omega, Nat.le_trans (Nat.mul_le_mul (show n + 1 ≤ 200 by omega) (show n + 1 ≤ 200 by omega)) (by omega), fun H13 k13 => ?_⟩
    rw [ge_refl B12.ok n]
    have cwt : cw true true = "alike" := rfl
    rw [cwt]
    repeat kaf_suf
    refine ⟨rfl, b, M, _, _, 0, n, rfl, B12.same k13, by omega, nl, by omega, Nat.le_trans (Nat.mul_le_mul (show 0 + 1 ≤ 200 by omega) (show n + 1 ≤ 200 by omega)) (by omega), fun H14 k14 => ?_⟩
    repeat kaf_suf
    exact k _

theorem ok_law {c : Cn} {mg : Str → Option Value} {base : Heap} {f : Addr} {fd : FuncData} (T : Txt c mg) (F : Fun c.K "law" "law" s_law f fd) : FnOk c.P c.w c.K mg base CX0 77 f fd ["script"] (sp_law_law c.K) :=
  F.ok (k := 76) (N := N_law) sc_law (fun vs H Q E h => h.1) (fun cdv A outer s H vs Q E hr h => ⟨t_law c, by
  exact (pss_cons (ps_set (i := 1) sc_law.nd rfl (Or.inl rfl) (e_call (cal_law_draws T) hr (by decide) pass0 rfl (pa_cons (pv 0) (pa_cons pe_int pa_nil))))
  (pss_cons (ps_set (i := 2) sc_law.nd rfl (Or.inl rfl) (e_make0 (mak_Book T) hr (by decide) pass0 rfl))
  (pss_cons (ps_asg (e_call (cal_law_games T) hr (by decide) pass0 rfl (pa_cons (pv 2) (pa_cons (pv 1) (pa_cons pe_int (pa_cons (pe_op o_add pe_int (pe_op o_mod (pe_ix (x_ix (hu64 hr)) (pv 1) pe_int (fun _ _ => rfl)) pe_int)) pa_nil))))) (g_seq rfl (pgs_cons (pg_name (i := 3) sc_law.nd rfl (Or.inl rfl)) (pgs_cons (pg_name (i := 4) sc_law.nd rfl (Or.inl rfl)) pgs_nil))))
  (pss_cons (ps_set (i := 5) sc_law.nd rfl (Or.inl rfl) pe_dnew)
  (pss_cons (ps_for PassesOwn.never rfl (pi_range1 rfl T.n_range (pa_cons pe_int pa_nil)) (pg_name (i := 6) sc_law.nd rfl (Or.inl rfl))
  (pss_cons (ps_set (i := 7) sc_law.nd rfl (Or.inl rfl) (pe_ix (x_ix (hu64 hr)) (pv 3) (pe_op o_mod (pe_ix (x_ix (hu64 hr)) (pv 1) (pe_op o_add pe_int (pv 6)) (fun _ _ => rfl)) (pe_callB k_len (by rfl) T.n_len (by decide +kernel) (pa_cons (pv 3) pa_nil))) (fun _ _ => rfl)))
  (pss_cons (ps_set (i := 8) sc_law.nd rfl (Or.inl rfl) (pe_ix (x_ix (hu64 hr)) (pv 3) (pe_op o_mod (pe_ix (x_ix (hu64 hr)) (pv 1) (pe_op o_add pe_int (pv 6)) (fun _ _ => rfl)) (pe_callB k_len (by rfl) T.n_len (by decide +kernel) (pa_cons (pv 3) pa_nil))) (fun _ _ => rfl)))
  (pss_cons (ps_set (i := 9) sc_law.nd rfl (Or.inl rfl) (e_call (cal_law_loses T 30) hr (by decide) pass0 rfl (pa_cons (pv 4) (pa_cons (pv 7) (pa_cons (pv 8) (pa_cons pe_int (pa_cons (pv 5) pa_nil)))))))
  (pss_cons (ps_set (i := 10) sc_law.nd rfl (Or.inl rfl) (e_call (cal_law_loses T 30) hr (by decide) pass0 rfl (pa_cons (pv 4) (pa_cons (pv 8) (pa_cons (pv 7) (pa_cons pe_int (pa_cons (pv 5) pa_nil)))))))
  (pss_cons (ps_set (i := 11) sc_law.nd rfl (Or.inl rfl) (pe_ix (x_ix (hu64 hr)) (pe_ix (x_ix (hu64 hr)) (pe_lst (pa_cons (pe_lst (pa_cons pe_str (pa_cons pe_str pa_nil))) (pa_cons (pe_lst (pa_cons pe_str (pa_cons pe_str pa_nil))) pa_nil))) (pe_callTy k_int (by rfl) T.n_int (by decide +kernel) (pa_cons (pv 9) pa_nil)) (fun _ _ => rfl)) (pe_callTy k_int (by rfl) T.n_int (by decide +kernel) (pa_cons (pv 10) pa_nil)) (fun _ _ => rfl)))
  (pss_cons (ps_set (i := 12) sc_law.nd rfl (Or.inl rfl) (pe_ix (x_ix (hu64 hr)) (pe_ix (x_ix (hu64 hr)) (pe_lst (pa_cons (pe_lst (pa_cons pe_str (pa_cons pe_str pa_nil))) (pa_cons (pe_lst (pa_cons pe_str (pa_cons pe_str pa_nil))) pa_nil))) (pe_callTy k_int (by rfl) T.n_int (by decide +kernel) (pa_cons (pv 9) pa_nil)) (fun _ _ => rfl)) (pe_callTy k_int (by rfl) T.n_int (by decide +kernel) (pa_cons (pv 10) pa_nil)) (fun _ _ => rfl)))
  (pss_cons (ps_set (i := 13) sc_law.nd rfl (Or.inl rfl) (e_call (cal_compared T) hr (by decide) passL rfl (pa_cons (pv 2) (pa_cons (pv 7) (pa_cons (pv 8) pa_nil)))))
  (pss_cons (ps_if (PW.pt (pw_or (pt_not (p_tru (pe_callB k_isi (by rfl) T.n_isinstance (by decide +kernel) (pa_cons (pv 13) (pa_cons (pe_bltn rfl T.n_str (by decide +kernel) rfl) pa_nil))))) (pw_or (pt_cmpR (o_ne (hu64 hr)) (pv 13) (pv 11) (nomark _)) (pw_or1 (pt_cmpR (o_ne (hu64 hr)) (e_call (cal_compared T) hr (by decide) passL rfl (pa_cons (pv 2) (pa_cons (pv 8) (pa_cons (pv 7) pa_nil)))) (pv 12) (nomark _)))))) (pss_one (ps_ret pe_bl)) pss_nil)
  (pss_cons (ps_if (PW.pt (pw_or (pt_cmpR (o_ne (hu64 hr)) (e_call (cal_compared T) hr (by decide) passL rfl (pa_cons (pv 2) (pa_cons (e_call (cal_turned T) hr (by decide) pass0 rfl (pa_cons (pv 2) (pa_cons (pv 8) pa_nil))) (pa_cons (e_call (cal_turned T) hr (by decide) pass0 rfl (pa_cons (pv 2) (pa_cons (pv 7) pa_nil))) pa_nil)))) (pv 11) (nomark _)) (pw_or1 (pt_cmpR (o_ne (hu64 hr)) (e_call (cal_compared T) hr (by decide) passL rfl (pa_cons (pv 2) (pa_cons (pv 7) (pa_cons (pv 8) pa_nil)))) (pv 11) (nomark _))))) (pss_one (ps_ret pe_bl)) pss_nil)
  (pss_one (ps_for PassesOwn.never rfl (pi_range1 rfl T.n_range (pa_cons pe_int pa_nil)) (pg_name (i := 14) sc_law.nd rfl (Or.inl rfl))
  (pss_cons (ps_if (pt_not (p_tru (e_call (cal_law_refused T) hr (by decide) pass0 rfl (pa_cons (pv 2) (pa_cons (pv 14) (pa_cons (e_call (cal_law_bad T) hr (by decide) pass0 rfl (pa_cons (pv 2) (pa_cons (pe_ix (x_ix (hu64 hr)) (pv 1) (pe_op o_add (pe_op o_add pe_int (pe_op o_mul pe_int (pv 6))) (pv 14)) (fun _ _ => rfl)) pa_nil))) (pa_cons (pv 8) pa_nil))))))) (pss_one (ps_ret pe_bl)) pss_nil)
  (pss_one (ps_if (pt_not (p_tru (e_call (cal_law_refused T) hr (by decide) pass0 rfl (pa_cons (pv 2) (pa_cons (pv 14) (pa_cons (pv 7) (pa_cons (e_call (cal_law_bad T) hr (by decide) pass0 rfl (pa_cons (pv 2) (pa_cons (pe_ix (x_ix (hu64 hr)) (pv 1) (pe_op o_add (pe_op o_add pe_int (pe_op o_mul pe_int (pv 6))) (pe_op o_mod (pv 14) pe_int)) (fun _ _ => rfl)) pa_nil))) pa_nil))))))) (pss_one (ps_ret pe_bl)) pss_nil)))))))))))))))
  (pss_cons (ps_set (i := 15) sc_law.nd rfl (Or.inl rfl) (pe_op o_sub (e_meth0 (met_Book_many T) hr (by decide) pass0 (pv 2)) pe_int))
  (pss_cons (ps_if (PW.pt (pw_or (pt_not (p_tru (e_call (cal_law_refused T) hr (by decide) pass0 rfl (pa_cons (pv 2) (pa_cons (pe_op o_mod (pe_op o_div (pe_ix (x_ix (hu64 hr)) (pv 1) pe_int (fun _ _ => rfl)) pe_int) pe_int) (pa_cons (pe_op o_add (pv 15) pe_int) (pa_cons pe_int pa_nil))))))) (pw_or1 (pt_not (p_tru (e_call (cal_law_refused T) hr (by decide) pass0 rfl (pa_cons (pv 2) (pa_cons (pe_op o_mod (pe_ix (x_ix (hu64 hr)) (pv 1) pe_int (fun _ _ => rfl)) pe_int) (pa_cons pe_int (pa_cons (pe_op o_add (pv 15) pe_int) pa_nil)))))))))) (pss_one (ps_ret pe_bl)) pss_nil)
  (pss_cons (ps_set (i := 16) sc_law.nd rfl (Or.inl rfl) (e_meth (met_Book_game T) hr (by decide) passL (pv 2) (pa_cons (pe_lst (pa_cons (pe_ix (x_ix (hu64 hr)) (pv 3) (pe_op o_mod (pe_ix (x_ix (hu64 hr)) (pv 1) pe_int (fun _ _ => rfl)) (pe_callB k_len (by rfl) T.n_len (by decide +kernel) (pa_cons (pv 3) pa_nil))) (fun _ _ => rfl)) pa_nil)) (pa_cons (pe_lst pa_nil) pa_nil))))
  (pss_one (ps_ret (pe_and (pe_cmpR (o_eq (hu64 hr)) (e_call (cal_compared T) hr (by decide) passL rfl (pa_cons (pv 2) (pa_cons (pv 16) (pa_cons (pv 16) pa_nil)))) pe_str (nomark _)) (pe_one (pe_callB k_isi (by rfl) T.n_isinstance (by decide +kernel) (pa_cons (e_call (cal_no_less T) hr (by decide) passL rfl (pa_cons (pv 2) (pa_cons pe_int (pa_cons (pv 16) pa_nil)))) (pa_cons (pe_bltn rfl T.n_bool (by decide +kernel) rfl) pa_nil))))))))))))))), p_law T h⟩)
theorem all_mk {l : PySem.W.OpenLaw} {w : World} {K : PySem.W.Frag} {h : Heap} {mg : Str → Option Value} {fa : Addr} (X : K.In h) (G : h.Ns mainGlobals mg) (hfa : mg "law" = some (.ref fa))
    {aGameError aNoGame aNoRoad aNoBoard aNoNumber aNoText aNoName aNoRow aBook aPutting : Addr}
    {f_Book_need : Addr} {od_Book_need an_Book_need : Option Addr} {sl_Book_need : Array (Option Value)} {oc_Book_need kV_Book_need dc_Book_need pm_Book_need cd_Book_need ct_Book_need : Value}
    {f_Book_game : Addr} {od_Book_game an_Book_game : Option Addr} {sl_Book_game : Array (Option Value)} {oc_Book_game kV_Book_game dc_Book_game pm_Book_game cd_Book_game ct_Book_game : Value}
    {f_Book_init : Addr} {od_Book_init an_Book_init : Option Addr} {sl_Book_init : Array (Option Value)} {oc_Book_init kV_Book_init dc_Book_init pm_Book_init cd_Book_init ct_Book_init : Value}
    {f_Book_many : Addr} {od_Book_many an_Book_many : Option Addr} {sl_Book_many : Array (Option Value)} {oc_Book_many kV_Book_many dc_Book_many pm_Book_many cd_Book_many ct_Book_many : Value}
    {f_Book_lefts : Addr} {od_Book_lefts an_Book_lefts : Option Addr} {sl_Book_lefts : Array (Option Value)} {oc_Book_lefts kV_Book_lefts dc_Book_lefts pm_Book_lefts cd_Book_lefts ct_Book_lefts : Value}
    {f_Book_rights : Addr} {od_Book_rights an_Book_rights : Option Addr} {sl_Book_rights : Array (Option Value)} {oc_Book_rights kV_Book_rights dc_Book_rights pm_Book_rights cd_Book_rights ct_Book_rights : Value}
    {f_Book_depth : Addr} {od_Book_depth an_Book_depth : Option Addr} {sl_Book_depth : Array (Option Value)} {oc_Book_depth kV_Book_depth dc_Book_depth pm_Book_depth cd_Book_depth ct_Book_depth : Value}
    {f_reached : Addr} {od_reached an_reached : Option Addr} {sl_reached : Array (Option Value)} {oc_reached kV_reached dc_reached pm_reached cd_reached ct_reached : Value}
    {f_moves_by : Addr} {od_moves_by an_moves_by : Option Addr} {sl_moves_by : Array (Option Value)} {oc_moves_by kV_moves_by dc_moves_by pm_moves_by cd_moves_by ct_moves_by : Value}
    {f_pairs_by : Addr} {od_pairs_by an_pairs_by : Option Addr} {sl_pairs_by : Array (Option Value)} {oc_pairs_by kV_pairs_by dc_pairs_by pm_pairs_by cd_pairs_by ct_pairs_by : Value}
    {f_no_less : Addr} {od_no_less an_no_less : Option Addr} {sl_no_less : Array (Option Value)} {oc_no_less kV_no_less dc_no_less pm_no_less cd_no_less ct_no_less : Value}
    {f_compared : Addr} {od_compared an_compared : Option Addr} {sl_compared : Array (Option Value)} {oc_compared kV_compared dc_compared pm_compared cd_compared ct_compared : Value}
    {f_pairs_right : Addr} {od_pairs_right an_pairs_right : Option Addr} {sl_pairs_right : Array (Option Value)} {oc_pairs_right kV_pairs_right dc_pairs_right pm_pairs_right cd_pairs_right ct_pairs_right : Value}
    {f_pairs_left : Addr} {od_pairs_left an_pairs_left : Option Addr} {sl_pairs_left : Array (Option Value)} {oc_pairs_left kV_pairs_left dc_pairs_left pm_pairs_left cd_pairs_left ct_pairs_left : Value}
    {f_holding : Addr} {od_holding an_holding : Option Addr} {sl_holding : Array (Option Value)} {oc_holding kV_holding dc_holding pm_holding cd_holding ct_holding : Value}
    {f_barring : Addr} {od_barring an_barring : Option Addr} {sl_barring : Array (Option Value)} {oc_barring kV_barring dc_barring pm_barring cd_barring ct_barring : Value}
    {f_paper : Addr} {od_paper an_paper : Option Addr} {sl_paper : Array (Option Value)} {oc_paper kV_paper dc_paper pm_paper cd_paper ct_paper : Value}
    {f_all_in : Addr} {od_all_in an_all_in : Option Addr} {sl_all_in : Array (Option Value)} {oc_all_in kV_all_in dc_all_in pm_all_in cd_all_in ct_all_in : Value}
    {f_pair_bars : Addr} {od_pair_bars an_pair_bars : Option Addr} {sl_pair_bars : Array (Option Value)} {oc_pair_bars kV_pair_bars dc_pair_bars pm_pair_bars cd_pair_bars ct_pair_bars : Value}
    {f_is_game : Addr} {od_is_game an_is_game : Option Addr} {sl_is_game : Array (Option Value)} {oc_is_game kV_is_game dc_is_game pm_is_game cd_is_game ct_is_game : Value}
    {f_moves_around : Addr} {od_moves_around an_moves_around : Option Addr} {sl_moves_around : Array (Option Value)} {oc_moves_around kV_moves_around dc_moves_around pm_moves_around cd_moves_around ct_moves_around : Value}
    {f_shows : Addr} {od_shows an_shows : Option Addr} {sl_shows : Array (Option Value)} {oc_shows kV_shows dc_shows pm_shows cd_shows ct_shows : Value}
    {f_Putting_init : Addr} {od_Putting_init an_Putting_init : Option Addr} {sl_Putting_init : Array (Option Value)} {oc_Putting_init kV_Putting_init dc_Putting_init pm_Putting_init cd_Putting_init ct_Putting_init : Value}
    {f_Putting_turn : Addr} {od_Putting_turn an_Putting_turn : Option Addr} {sl_Putting_turn : Array (Option Value)} {oc_Putting_turn kV_Putting_turn dc_Putting_turn pm_Putting_turn cd_Putting_turn ct_Putting_turn : Value}
    {f_Putting_put : Addr} {od_Putting_put an_Putting_put : Option Addr} {sl_Putting_put : Array (Option Value)} {oc_Putting_put kV_Putting_put dc_Putting_put pm_Putting_put cd_Putting_put ct_Putting_put : Value}
    {f_turned : Addr} {od_turned an_turned : Option Addr} {sl_turned : Array (Option Value)} {oc_turned kV_turned dc_turned pm_turned cd_turned ct_turned : Value}
    {f_law_draws : Addr} {od_law_draws an_law_draws : Option Addr} {sl_law_draws : Array (Option Value)} {oc_law_draws kV_law_draws dc_law_draws pm_law_draws cd_law_draws ct_law_draws : Value}
    {f_law_picked : Addr} {od_law_picked an_law_picked : Option Addr} {sl_law_picked : Array (Option Value)} {oc_law_picked kV_law_picked dc_law_picked pm_law_picked cd_law_picked ct_law_picked : Value}
    {f_law_games : Addr} {od_law_games an_law_games : Option Addr} {sl_law_games : Array (Option Value)} {oc_law_games kV_law_games dc_law_games pm_law_games cd_law_games ct_law_games : Value}
    {f_law_loses : Addr} {od_law_loses an_law_loses : Option Addr} {sl_law_loses : Array (Option Value)} {oc_law_loses kV_law_loses dc_law_loses pm_law_loses cd_law_loses ct_law_loses : Value}
    {f_law_bad : Addr} {od_law_bad an_law_bad : Option Addr} {sl_law_bad : Array (Option Value)} {oc_law_bad kV_law_bad dc_law_bad pm_law_bad cd_law_bad ct_law_bad : Value}
    {f_law_class : Addr} {od_law_class an_law_class : Option Addr} {sl_law_class : Array (Option Value)} {oc_law_class kV_law_class dc_law_class pm_law_class cd_law_class ct_law_class : Value}
    {f_law_asked : Addr} {od_law_asked an_law_asked : Option Addr} {sl_law_asked : Array (Option Value)} {oc_law_asked kV_law_asked dc_law_asked pm_law_asked cd_law_asked ct_law_asked : Value}
    {f_law_refused : Addr} {od_law_refused an_law_refused : Option Addr} {sl_law_refused : Array (Option Value)} {oc_law_refused kV_law_refused dc_law_refused pm_law_refused cd_law_refused ct_law_refused : Value}
    {f_behind_right : Addr} {od_behind_right an_behind_right : Option Addr} {sl_behind_right : Array (Option Value)} {oc_behind_right kV_behind_right dc_behind_right pm_behind_right cd_behind_right ct_behind_right : Value}
    {f_behind_left : Addr} {od_behind_left an_behind_left : Option Addr} {sl_behind_left : Array (Option Value)} {oc_behind_left kV_behind_left dc_behind_left pm_behind_left cd_behind_left ct_behind_left : Value}
    {f_pair_holds : Addr} {od_pair_holds an_pair_holds : Option Addr} {sl_pair_holds : Array (Option Value)} {oc_pair_holds kV_pair_holds dc_pair_holds pm_pair_holds cd_pair_holds ct_pair_holds : Value}
    {f_law : Addr} {od_law an_law : Option Addr} {sl_law : Array (Option Value)} {oc_law kV_law dc_law pm_law cd_law ct_law : Value}
    (a_GameError : PySem.W.nsIn K mainGlobals "GameError" = some (some (.ref aGameError)))
    (a_NoGame : PySem.W.nsIn K mainGlobals "NoGame" = some (some (.ref aNoGame)))
    (a_NoRoad : PySem.W.nsIn K mainGlobals "NoRoad" = some (some (.ref aNoRoad)))
    (a_NoBoard : PySem.W.nsIn K mainGlobals "NoBoard" = some (some (.ref aNoBoard)))
    (a_NoNumber : PySem.W.nsIn K mainGlobals "NoNumber" = some (some (.ref aNoNumber)))
    (a_NoText : PySem.W.nsIn K mainGlobals "NoText" = some (some (.ref aNoText)))
    (a_NoName : PySem.W.nsIn K mainGlobals "NoName" = some (some (.ref aNoName)))
    (a_NoRow : PySem.W.nsIn K mainGlobals "NoRow" = some (some (.ref aNoRow)))
    (a_Book : PySem.W.nsIn K mainGlobals "Book" = some (some (.ref aBook)))
    (a_Putting : PySem.W.nsIn K mainGlobals "Putting" = some (some (.ref aPutting)))
    (pg_Book : PySem.W.plainGet K aBook Str.empty = true)
    (hd_Book : PySem.W.hasDictIn K aBook = true)
    (po_Book : PySem.W.plainOver K aBook = true)
    (sa_Book : PySem.W.findIn K (.ref aBook) "__setattr__" = some (some (.builtin "object.__setattr__")))
    (mk_Book : PySem.W.makesIn K aBook = true)
    (kc_Book : PySem.W.keepIn K (.ref aBook) = true)
    (na_Book_depths : PySem.W.findIn K (.ref aBook) "depths" = some none)
    (na_Book_moves : PySem.W.findIn K (.ref aBook) "moves" = some none)
    (na_Book_numbers : PySem.W.findIn K (.ref aBook) "numbers" = some none)
    (pg_Putting : PySem.W.plainGet K aPutting Str.empty = true)
    (hd_Putting : PySem.W.hasDictIn K aPutting = true)
    (po_Putting : PySem.W.plainOver K aPutting = true)
    (sa_Putting : PySem.W.findIn K (.ref aPutting) "__setattr__" = some (some (.builtin "object.__setattr__")))
    (mk_Putting : PySem.W.makesIn K aPutting = true)
    (kc_Putting : PySem.W.keepIn K (.ref aPutting) = true)
    (na_Putting_book : PySem.W.findIn K (.ref aPutting) "book" = some none)
    (na_Putting_sums : PySem.W.findIn K (.ref aPutting) "sums" = some none)
    (na_Putting_turned : PySem.W.findIn K (.ref aPutting) "turned" = some none)
    (xk_GameError : PySem.W.keepIn K (.ref aGameError) = true)
    (xx_GameError : PySem.W.excIn K aGameError [.type "ValueError", .type "Exception", .type "BaseException", .type "object"] "ValueError.__new__" = true)
    (xb_GameError : PySem.W.subIn K (.ref aGameError) (.type "BaseException") = some true)
    (xt_GameError : PySem.W.typeIn K (.ref aGameError) = some (.type "type"))
    (xd_GameError : PySem.W.hasDictIn K aGameError = true)
    (xs_GameError : PySem.W.subIn K (.ref aGameError) (.ref aGameError) = some true)
    (xk_NoBoard : PySem.W.keepIn K (.ref aNoBoard) = true)
    (xx_NoBoard : PySem.W.excIn K aNoBoard [.type "ValueError", .type "Exception", .type "BaseException", .type "object"] "ValueError.__new__" = true)
    (xb_NoBoard : PySem.W.subIn K (.ref aNoBoard) (.type "BaseException") = some true)
    (xt_NoBoard : PySem.W.typeIn K (.ref aNoBoard) = some (.type "type"))
    (xd_NoBoard : PySem.W.hasDictIn K aNoBoard = true)
    (xs_NoBoard : PySem.W.subIn K (.ref aNoBoard) (.ref aGameError) = some true)
    (xk_NoGame : PySem.W.keepIn K (.ref aNoGame) = true)
    (xx_NoGame : PySem.W.excIn K aNoGame [.type "ValueError", .type "Exception", .type "BaseException", .type "object"] "ValueError.__new__" = true)
    (xb_NoGame : PySem.W.subIn K (.ref aNoGame) (.type "BaseException") = some true)
    (xt_NoGame : PySem.W.typeIn K (.ref aNoGame) = some (.type "type"))
    (xd_NoGame : PySem.W.hasDictIn K aNoGame = true)
    (xs_NoGame : PySem.W.subIn K (.ref aNoGame) (.ref aGameError) = some true)
    (xk_NoName : PySem.W.keepIn K (.ref aNoName) = true)
    (xx_NoName : PySem.W.excIn K aNoName [.type "ValueError", .type "Exception", .type "BaseException", .type "object"] "ValueError.__new__" = true)
    (xb_NoName : PySem.W.subIn K (.ref aNoName) (.type "BaseException") = some true)
    (xt_NoName : PySem.W.typeIn K (.ref aNoName) = some (.type "type"))
    (xd_NoName : PySem.W.hasDictIn K aNoName = true)
    (xs_NoName : PySem.W.subIn K (.ref aNoName) (.ref aGameError) = some true)
    (xk_NoNumber : PySem.W.keepIn K (.ref aNoNumber) = true)
    (xx_NoNumber : PySem.W.excIn K aNoNumber [.type "ValueError", .type "Exception", .type "BaseException", .type "object"] "ValueError.__new__" = true)
    (xb_NoNumber : PySem.W.subIn K (.ref aNoNumber) (.type "BaseException") = some true)
    (xt_NoNumber : PySem.W.typeIn K (.ref aNoNumber) = some (.type "type"))
    (xd_NoNumber : PySem.W.hasDictIn K aNoNumber = true)
    (xs_NoNumber : PySem.W.subIn K (.ref aNoNumber) (.ref aGameError) = some true)
    (xk_NoRoad : PySem.W.keepIn K (.ref aNoRoad) = true)
    (xx_NoRoad : PySem.W.excIn K aNoRoad [.type "ValueError", .type "Exception", .type "BaseException", .type "object"] "ValueError.__new__" = true)
    (xb_NoRoad : PySem.W.subIn K (.ref aNoRoad) (.type "BaseException") = some true)
    (xt_NoRoad : PySem.W.typeIn K (.ref aNoRoad) = some (.type "type"))
    (xd_NoRoad : PySem.W.hasDictIn K aNoRoad = true)
    (xs_NoRoad : PySem.W.subIn K (.ref aNoRoad) (.ref aGameError) = some true)
    (xk_NoRow : PySem.W.keepIn K (.ref aNoRow) = true)
    (xx_NoRow : PySem.W.excIn K aNoRow [.type "ValueError", .type "Exception", .type "BaseException", .type "object"] "ValueError.__new__" = true)
    (xb_NoRow : PySem.W.subIn K (.ref aNoRow) (.type "BaseException") = some true)
    (xt_NoRow : PySem.W.typeIn K (.ref aNoRow) = some (.type "type"))
    (xd_NoRow : PySem.W.hasDictIn K aNoRow = true)
    (xs_NoRow : PySem.W.subIn K (.ref aNoRow) (.ref aGameError) = some true)
    (xk_NoText : PySem.W.keepIn K (.ref aNoText) = true)
    (xx_NoText : PySem.W.excIn K aNoText [.type "ValueError", .type "Exception", .type "BaseException", .type "object"] "ValueError.__new__" = true)
    (xb_NoText : PySem.W.subIn K (.ref aNoText) (.type "BaseException") = some true)
    (xt_NoText : PySem.W.typeIn K (.ref aNoText) = some (.type "type"))
    (xd_NoText : PySem.W.hasDictIn K aNoText = true)
    (xs_NoText : PySem.W.subIn K (.ref aNoText) (.ref aGameError) = some true)
    (x_get : PySem.W.specialIn K (.builtin "object.__class__") "__get__" = some (some (.builtin "getset_descriptor.__get__")))
    (x_tak : PySem.W.takesIn K (.builtin "object.__class__") = some true)
    (ya_GameError : PySem.W.findIn K (.ref aGameError) "__getattribute__" = some (some (.builtin "BaseException.__getattribute__")))
    (yg_GameError : PySem.W.findIn K (.ref aGameError) "__getattr__" = some none)
    (yc_GameError : PySem.W.findIn K (.ref aGameError) "__class__" = some (some (.builtin "object.__class__")))
    (ym_GameError : PySem.W.mroIn K aGameError (.type "object") = some true)
    (yv_GameError : PySem.W.kitOne K (.ref aGameError) (.type "ValueError") = some true)
    (yi_GameError_GameError : PySem.W.kitOne K (.ref aGameError) (.ref aGameError) = some true)
    (yi_GameError_NoBoard : PySem.W.kitOne K (.ref aGameError) (.ref aNoBoard) = some false)
    (yi_GameError_NoGame : PySem.W.kitOne K (.ref aGameError) (.ref aNoGame) = some false)
    (yi_GameError_NoName : PySem.W.kitOne K (.ref aGameError) (.ref aNoName) = some false)
    (yi_GameError_NoNumber : PySem.W.kitOne K (.ref aGameError) (.ref aNoNumber) = some false)
    (yi_GameError_NoRoad : PySem.W.kitOne K (.ref aGameError) (.ref aNoRoad) = some false)
    (yi_GameError_NoRow : PySem.W.kitOne K (.ref aGameError) (.ref aNoRow) = some false)
    (yi_GameError_NoText : PySem.W.kitOne K (.ref aGameError) (.ref aNoText) = some false)
    (ya_NoBoard : PySem.W.findIn K (.ref aNoBoard) "__getattribute__" = some (some (.builtin "BaseException.__getattribute__")))
    (yg_NoBoard : PySem.W.findIn K (.ref aNoBoard) "__getattr__" = some none)
    (yc_NoBoard : PySem.W.findIn K (.ref aNoBoard) "__class__" = some (some (.builtin "object.__class__")))
    (ym_NoBoard : PySem.W.mroIn K aNoBoard (.type "object") = some true)
    (yv_NoBoard : PySem.W.kitOne K (.ref aNoBoard) (.type "ValueError") = some true)
    (yi_NoBoard_GameError : PySem.W.kitOne K (.ref aNoBoard) (.ref aGameError) = some true)
    (yi_NoBoard_NoBoard : PySem.W.kitOne K (.ref aNoBoard) (.ref aNoBoard) = some true)
    (yi_NoBoard_NoGame : PySem.W.kitOne K (.ref aNoBoard) (.ref aNoGame) = some false)
    (yi_NoBoard_NoName : PySem.W.kitOne K (.ref aNoBoard) (.ref aNoName) = some false)
    (yi_NoBoard_NoNumber : PySem.W.kitOne K (.ref aNoBoard) (.ref aNoNumber) = some false)
    (yi_NoBoard_NoRoad : PySem.W.kitOne K (.ref aNoBoard) (.ref aNoRoad) = some false)
    (yi_NoBoard_NoRow : PySem.W.kitOne K (.ref aNoBoard) (.ref aNoRow) = some false)
    (yi_NoBoard_NoText : PySem.W.kitOne K (.ref aNoBoard) (.ref aNoText) = some false)
    (ya_NoGame : PySem.W.findIn K (.ref aNoGame) "__getattribute__" = some (some (.builtin "BaseException.__getattribute__")))
    (yg_NoGame : PySem.W.findIn K (.ref aNoGame) "__getattr__" = some none)
    (yc_NoGame : PySem.W.findIn K (.ref aNoGame) "__class__" = some (some (.builtin "object.__class__")))
    (ym_NoGame : PySem.W.mroIn K aNoGame (.type "object") = some true)
    (yv_NoGame : PySem.W.kitOne K (.ref aNoGame) (.type "ValueError") = some true)
    (yi_NoGame_GameError : PySem.W.kitOne K (.ref aNoGame) (.ref aGameError) = some true)
    (yi_NoGame_NoBoard : PySem.W.kitOne K (.ref aNoGame) (.ref aNoBoard) = some false)
    (yi_NoGame_NoGame : PySem.W.kitOne K (.ref aNoGame) (.ref aNoGame) = some true)
    (yi_NoGame_NoName : PySem.W.kitOne K (.ref aNoGame) (.ref aNoName) = some false)
    (yi_NoGame_NoNumber : PySem.W.kitOne K (.ref aNoGame) (.ref aNoNumber) = some false)
    (yi_NoGame_NoRoad : PySem.W.kitOne K (.ref aNoGame) (.ref aNoRoad) = some false)
    (yi_NoGame_NoRow : PySem.W.kitOne K (.ref aNoGame) (.ref aNoRow) = some false)
    (yi_NoGame_NoText : PySem.W.kitOne K (.ref aNoGame) (.ref aNoText) = some false)
    (ya_NoName : PySem.W.findIn K (.ref aNoName) "__getattribute__" = some (some (.builtin "BaseException.__getattribute__")))
    (yg_NoName : PySem.W.findIn K (.ref aNoName) "__getattr__" = some none)
    (yc_NoName : PySem.W.findIn K (.ref aNoName) "__class__" = some (some (.builtin "object.__class__")))
    (ym_NoName : PySem.W.mroIn K aNoName (.type "object") = some true)
    (yv_NoName : PySem.W.kitOne K (.ref aNoName) (.type "ValueError") = some true)
    (yi_NoName_GameError : PySem.W.kitOne K (.ref aNoName) (.ref aGameError) = some true)
    (yi_NoName_NoBoard : PySem.W.kitOne K (.ref aNoName) (.ref aNoBoard) = some false)
    (yi_NoName_NoGame : PySem.W.kitOne K (.ref aNoName) (.ref aNoGame) = some false)
    (yi_NoName_NoName : PySem.W.kitOne K (.ref aNoName) (.ref aNoName) = some true)
    (yi_NoName_NoNumber : PySem.W.kitOne K (.ref aNoName) (.ref aNoNumber) = some false)
    (yi_NoName_NoRoad : PySem.W.kitOne K (.ref aNoName) (.ref aNoRoad) = some false)
    (yi_NoName_NoRow : PySem.W.kitOne K (.ref aNoName) (.ref aNoRow) = some false)
    (yi_NoName_NoText : PySem.W.kitOne K (.ref aNoName) (.ref aNoText) = some false)
    (ya_NoNumber : PySem.W.findIn K (.ref aNoNumber) "__getattribute__" = some (some (.builtin "BaseException.__getattribute__")))
    (yg_NoNumber : PySem.W.findIn K (.ref aNoNumber) "__getattr__" = some none)
    (yc_NoNumber : PySem.W.findIn K (.ref aNoNumber) "__class__" = some (some (.builtin "object.__class__")))
    (ym_NoNumber : PySem.W.mroIn K aNoNumber (.type "object") = some true)
    (yv_NoNumber : PySem.W.kitOne K (.ref aNoNumber) (.type "ValueError") = some true)
    (yi_NoNumber_GameError : PySem.W.kitOne K (.ref aNoNumber) (.ref aGameError) = some true)
    (yi_NoNumber_NoBoard : PySem.W.kitOne K (.ref aNoNumber) (.ref aNoBoard) = some false)
    (yi_NoNumber_NoGame : PySem.W.kitOne K (.ref aNoNumber) (.ref aNoGame) = some false)
    (yi_NoNumber_NoName : PySem.W.kitOne K (.ref aNoNumber) (.ref aNoName) = some false)
    (yi_NoNumber_NoNumber : PySem.W.kitOne K (.ref aNoNumber) (.ref aNoNumber) = some true)
    (yi_NoNumber_NoRoad : PySem.W.kitOne K (.ref aNoNumber) (.ref aNoRoad) = some false)
    (yi_NoNumber_NoRow : PySem.W.kitOne K (.ref aNoNumber) (.ref aNoRow) = some false)
    (yi_NoNumber_NoText : PySem.W.kitOne K (.ref aNoNumber) (.ref aNoText) = some false)
    (ya_NoRoad : PySem.W.findIn K (.ref aNoRoad) "__getattribute__" = some (some (.builtin "BaseException.__getattribute__")))
    (yg_NoRoad : PySem.W.findIn K (.ref aNoRoad) "__getattr__" = some none)
    (yc_NoRoad : PySem.W.findIn K (.ref aNoRoad) "__class__" = some (some (.builtin "object.__class__")))
    (ym_NoRoad : PySem.W.mroIn K aNoRoad (.type "object") = some true)
    (yv_NoRoad : PySem.W.kitOne K (.ref aNoRoad) (.type "ValueError") = some true)
    (yi_NoRoad_GameError : PySem.W.kitOne K (.ref aNoRoad) (.ref aGameError) = some true)
    (yi_NoRoad_NoBoard : PySem.W.kitOne K (.ref aNoRoad) (.ref aNoBoard) = some false)
    (yi_NoRoad_NoGame : PySem.W.kitOne K (.ref aNoRoad) (.ref aNoGame) = some false)
    (yi_NoRoad_NoName : PySem.W.kitOne K (.ref aNoRoad) (.ref aNoName) = some false)
    (yi_NoRoad_NoNumber : PySem.W.kitOne K (.ref aNoRoad) (.ref aNoNumber) = some false)
    (yi_NoRoad_NoRoad : PySem.W.kitOne K (.ref aNoRoad) (.ref aNoRoad) = some true)
    (yi_NoRoad_NoRow : PySem.W.kitOne K (.ref aNoRoad) (.ref aNoRow) = some false)
    (yi_NoRoad_NoText : PySem.W.kitOne K (.ref aNoRoad) (.ref aNoText) = some false)
    (ya_NoRow : PySem.W.findIn K (.ref aNoRow) "__getattribute__" = some (some (.builtin "BaseException.__getattribute__")))
    (yg_NoRow : PySem.W.findIn K (.ref aNoRow) "__getattr__" = some none)
    (yc_NoRow : PySem.W.findIn K (.ref aNoRow) "__class__" = some (some (.builtin "object.__class__")))
    (ym_NoRow : PySem.W.mroIn K aNoRow (.type "object") = some true)
    (yv_NoRow : PySem.W.kitOne K (.ref aNoRow) (.type "ValueError") = some true)
    (yi_NoRow_GameError : PySem.W.kitOne K (.ref aNoRow) (.ref aGameError) = some true)
    (yi_NoRow_NoBoard : PySem.W.kitOne K (.ref aNoRow) (.ref aNoBoard) = some false)
    (yi_NoRow_NoGame : PySem.W.kitOne K (.ref aNoRow) (.ref aNoGame) = some false)
    (yi_NoRow_NoName : PySem.W.kitOne K (.ref aNoRow) (.ref aNoName) = some false)
    (yi_NoRow_NoNumber : PySem.W.kitOne K (.ref aNoRow) (.ref aNoNumber) = some false)
    (yi_NoRow_NoRoad : PySem.W.kitOne K (.ref aNoRow) (.ref aNoRoad) = some false)
    (yi_NoRow_NoRow : PySem.W.kitOne K (.ref aNoRow) (.ref aNoRow) = some true)
    (yi_NoRow_NoText : PySem.W.kitOne K (.ref aNoRow) (.ref aNoText) = some false)
    (ya_NoText : PySem.W.findIn K (.ref aNoText) "__getattribute__" = some (some (.builtin "BaseException.__getattribute__")))
    (yg_NoText : PySem.W.findIn K (.ref aNoText) "__getattr__" = some none)
    (yc_NoText : PySem.W.findIn K (.ref aNoText) "__class__" = some (some (.builtin "object.__class__")))
    (ym_NoText : PySem.W.mroIn K aNoText (.type "object") = some true)
    (yv_NoText : PySem.W.kitOne K (.ref aNoText) (.type "ValueError") = some true)
    (yi_NoText_GameError : PySem.W.kitOne K (.ref aNoText) (.ref aGameError) = some true)
    (yi_NoText_NoBoard : PySem.W.kitOne K (.ref aNoText) (.ref aNoBoard) = some false)
    (yi_NoText_NoGame : PySem.W.kitOne K (.ref aNoText) (.ref aNoGame) = some false)
    (yi_NoText_NoName : PySem.W.kitOne K (.ref aNoText) (.ref aNoName) = some false)
    (yi_NoText_NoNumber : PySem.W.kitOne K (.ref aNoText) (.ref aNoNumber) = some false)
    (yi_NoText_NoRoad : PySem.W.kitOne K (.ref aNoText) (.ref aNoRoad) = some false)
    (yi_NoText_NoRow : PySem.W.kitOne K (.ref aNoText) (.ref aNoRow) = some false)
    (yi_NoText_NoText : PySem.W.kitOne K (.ref aNoText) (.ref aNoText) = some true)
    (n_ValueError : PySem.W.nsIn K mainGlobals "ValueError" = some none)
    (n_abs : PySem.W.nsIn K mainGlobals "abs" = some none)
    (n_bool : PySem.W.nsIn K mainGlobals "bool" = some none)
    (n_enumerate : PySem.W.nsIn K mainGlobals "enumerate" = some none)
    (n_int : PySem.W.nsIn K mainGlobals "int" = some none)
    (n_isinstance : PySem.W.nsIn K mainGlobals "isinstance" = some none)
    (n_len : PySem.W.nsIn K mainGlobals "len" = some none)
    (n_list : PySem.W.nsIn K mainGlobals "list" = some none)
    (n_max : PySem.W.nsIn K mainGlobals "max" = some none)
    (n_range : PySem.W.nsIn K mainGlobals "range" = some none)
    (n_set : PySem.W.nsIn K mainGlobals "set" = some none)
    (n_sorted : PySem.W.nsIn K mainGlobals "sorted" = some none)
    (n_str : PySem.W.nsIn K mainGlobals "str" = some none)
    (n_tuple : PySem.W.nsIn K mainGlobals "tuple" = some none)
    (a_Book_need : PySem.W.findIn K (.ref aBook) "need" = some (some (.ref f_Book_need)))
    (i_Book_need : PySem.W.isFn K (.ref f_Book_need) = true)
    (l_Book_need : K.lookup f_Book_need = some ⟨oc_Book_need, od_Book_need, .func (PySem.W.fnOf "need" "Book.need" (defArgs s_Book_need) (defBody s_Book_need) (defScope s_Book_need) .none kV_Book_need dc_Book_need pm_Book_need an_Book_need cd_Book_need ct_Book_need), sl_Book_need⟩)
    (c_Book_need : PySem.W.codeIn K cd_Book_need "Book.need" = true)
    (k_Book_need : PySem.W.keepIn K (.ref f_Book_need) = true)
    (a_Book_game : PySem.W.findIn K (.ref aBook) "game" = some (some (.ref f_Book_game)))
    (i_Book_game : PySem.W.isFn K (.ref f_Book_game) = true)
    (l_Book_game : K.lookup f_Book_game = some ⟨oc_Book_game, od_Book_game, .func (PySem.W.fnOf "game" "Book.game" (defArgs s_Book_game) (defBody s_Book_game) (defScope s_Book_game) .none kV_Book_game dc_Book_game pm_Book_game an_Book_game cd_Book_game ct_Book_game), sl_Book_game⟩)
    (c_Book_game : PySem.W.codeIn K cd_Book_game "Book.game" = true)
    (k_Book_game : PySem.W.keepIn K (.ref f_Book_game) = true)
    (a_Book_init : PySem.W.findIn K (.ref aBook) "__init__" = some (some (.ref f_Book_init)))
    (i_Book_init : PySem.W.isFn K (.ref f_Book_init) = true)
    (l_Book_init : K.lookup f_Book_init = some ⟨oc_Book_init, od_Book_init, .func (PySem.W.fnOf "__init__" "Book.__init__" (defArgs s_Book_init) (defBody s_Book_init) (defScope s_Book_init) .none kV_Book_init dc_Book_init pm_Book_init an_Book_init cd_Book_init ct_Book_init), sl_Book_init⟩)
    (c_Book_init : PySem.W.codeIn K cd_Book_init "Book.__init__" = true)
    (k_Book_init : PySem.W.keepIn K (.ref f_Book_init) = true)
    (a_Book_many : PySem.W.findIn K (.ref aBook) "many" = some (some (.ref f_Book_many)))
    (i_Book_many : PySem.W.isFn K (.ref f_Book_many) = true)
    (l_Book_many : K.lookup f_Book_many = some ⟨oc_Book_many, od_Book_many, .func (PySem.W.fnOf "many" "Book.many" (defArgs s_Book_many) (defBody s_Book_many) (defScope s_Book_many) .none kV_Book_many dc_Book_many pm_Book_many an_Book_many cd_Book_many ct_Book_many), sl_Book_many⟩)
    (c_Book_many : PySem.W.codeIn K cd_Book_many "Book.many" = true)
    (k_Book_many : PySem.W.keepIn K (.ref f_Book_many) = true)
    (a_Book_lefts : PySem.W.findIn K (.ref aBook) "lefts" = some (some (.ref f_Book_lefts)))
    (i_Book_lefts : PySem.W.isFn K (.ref f_Book_lefts) = true)
    (l_Book_lefts : K.lookup f_Book_lefts = some ⟨oc_Book_lefts, od_Book_lefts, .func (PySem.W.fnOf "lefts" "Book.lefts" (defArgs s_Book_lefts) (defBody s_Book_lefts) (defScope s_Book_lefts) .none kV_Book_lefts dc_Book_lefts pm_Book_lefts an_Book_lefts cd_Book_lefts ct_Book_lefts), sl_Book_lefts⟩)
    (c_Book_lefts : PySem.W.codeIn K cd_Book_lefts "Book.lefts" = true)
    (k_Book_lefts : PySem.W.keepIn K (.ref f_Book_lefts) = true)
    (a_Book_rights : PySem.W.findIn K (.ref aBook) "rights" = some (some (.ref f_Book_rights)))
    (i_Book_rights : PySem.W.isFn K (.ref f_Book_rights) = true)
    (l_Book_rights : K.lookup f_Book_rights = some ⟨oc_Book_rights, od_Book_rights, .func (PySem.W.fnOf "rights" "Book.rights" (defArgs s_Book_rights) (defBody s_Book_rights) (defScope s_Book_rights) .none kV_Book_rights dc_Book_rights pm_Book_rights an_Book_rights cd_Book_rights ct_Book_rights), sl_Book_rights⟩)
    (c_Book_rights : PySem.W.codeIn K cd_Book_rights "Book.rights" = true)
    (k_Book_rights : PySem.W.keepIn K (.ref f_Book_rights) = true)
    (a_Book_depth : PySem.W.findIn K (.ref aBook) "depth" = some (some (.ref f_Book_depth)))
    (i_Book_depth : PySem.W.isFn K (.ref f_Book_depth) = true)
    (l_Book_depth : K.lookup f_Book_depth = some ⟨oc_Book_depth, od_Book_depth, .func (PySem.W.fnOf "depth" "Book.depth" (defArgs s_Book_depth) (defBody s_Book_depth) (defScope s_Book_depth) .none kV_Book_depth dc_Book_depth pm_Book_depth an_Book_depth cd_Book_depth ct_Book_depth), sl_Book_depth⟩)
    (c_Book_depth : PySem.W.codeIn K cd_Book_depth "Book.depth" = true)
    (k_Book_depth : PySem.W.keepIn K (.ref f_Book_depth) = true)
    (a_reached : PySem.W.nsIn K mainGlobals "reached" = some (some (.ref f_reached)))
    (l_reached : K.lookup f_reached = some ⟨oc_reached, od_reached, .func (PySem.W.fnOf "reached" "reached" (defArgs s_reached) (defBody s_reached) (defScope s_reached) .none kV_reached dc_reached pm_reached an_reached cd_reached ct_reached), sl_reached⟩)
    (c_reached : PySem.W.codeIn K cd_reached "reached" = true)
    (k_reached : PySem.W.keepIn K (.ref f_reached) = true)
    (a_moves_by : PySem.W.nsIn K mainGlobals "moves_by" = some (some (.ref f_moves_by)))
    (l_moves_by : K.lookup f_moves_by = some ⟨oc_moves_by, od_moves_by, .func (PySem.W.fnOf "moves_by" "moves_by" (defArgs s_moves_by) (defBody s_moves_by) (defScope s_moves_by) .none kV_moves_by dc_moves_by pm_moves_by an_moves_by cd_moves_by ct_moves_by), sl_moves_by⟩)
    (c_moves_by : PySem.W.codeIn K cd_moves_by "moves_by" = true)
    (k_moves_by : PySem.W.keepIn K (.ref f_moves_by) = true)
    (a_pairs_by : PySem.W.nsIn K mainGlobals "pairs_by" = some (some (.ref f_pairs_by)))
    (l_pairs_by : K.lookup f_pairs_by = some ⟨oc_pairs_by, od_pairs_by, .func (PySem.W.fnOf "pairs_by" "pairs_by" (defArgs s_pairs_by) (defBody s_pairs_by) (defScope s_pairs_by) .none kV_pairs_by dc_pairs_by pm_pairs_by an_pairs_by cd_pairs_by ct_pairs_by), sl_pairs_by⟩)
    (c_pairs_by : PySem.W.codeIn K cd_pairs_by "pairs_by" = true)
    (k_pairs_by : PySem.W.keepIn K (.ref f_pairs_by) = true)
    (a_no_less : PySem.W.nsIn K mainGlobals "no_less" = some (some (.ref f_no_less)))
    (l_no_less : K.lookup f_no_less = some ⟨oc_no_less, od_no_less, .func (PySem.W.fnOf "no_less" "no_less" (defArgs s_no_less) (defBody s_no_less) (defScope s_no_less) .none kV_no_less dc_no_less pm_no_less an_no_less cd_no_less ct_no_less), sl_no_less⟩)
    (c_no_less : PySem.W.codeIn K cd_no_less "no_less" = true)
    (k_no_less : PySem.W.keepIn K (.ref f_no_less) = true)
    (a_compared : PySem.W.nsIn K mainGlobals "compared" = some (some (.ref f_compared)))
    (l_compared : K.lookup f_compared = some ⟨oc_compared, od_compared, .func (PySem.W.fnOf "compared" "compared" (defArgs s_compared) (defBody s_compared) (defScope s_compared) .none kV_compared dc_compared pm_compared an_compared cd_compared ct_compared), sl_compared⟩)
    (c_compared : PySem.W.codeIn K cd_compared "compared" = true)
    (k_compared : PySem.W.keepIn K (.ref f_compared) = true)
    (a_pairs_right : PySem.W.nsIn K mainGlobals "pairs_right" = some (some (.ref f_pairs_right)))
    (l_pairs_right : K.lookup f_pairs_right = some ⟨oc_pairs_right, od_pairs_right, .func (PySem.W.fnOf "pairs_right" "pairs_right" (defArgs s_pairs_right) (defBody s_pairs_right) (defScope s_pairs_right) .none kV_pairs_right dc_pairs_right pm_pairs_right an_pairs_right cd_pairs_right ct_pairs_right), sl_pairs_right⟩)
    (c_pairs_right : PySem.W.codeIn K cd_pairs_right "pairs_right" = true)
    (k_pairs_right : PySem.W.keepIn K (.ref f_pairs_right) = true)
    (a_pairs_left : PySem.W.nsIn K mainGlobals "pairs_left" = some (some (.ref f_pairs_left)))
    (l_pairs_left : K.lookup f_pairs_left = some ⟨oc_pairs_left, od_pairs_left, .func (PySem.W.fnOf "pairs_left" "pairs_left" (defArgs s_pairs_left) (defBody s_pairs_left) (defScope s_pairs_left) .none kV_pairs_left dc_pairs_left pm_pairs_left an_pairs_left cd_pairs_left ct_pairs_left), sl_pairs_left⟩)
    (c_pairs_left : PySem.W.codeIn K cd_pairs_left "pairs_left" = true)
    (k_pairs_left : PySem.W.keepIn K (.ref f_pairs_left) = true)
    (a_holding : PySem.W.nsIn K mainGlobals "holding" = some (some (.ref f_holding)))
    (l_holding : K.lookup f_holding = some ⟨oc_holding, od_holding, .func (PySem.W.fnOf "holding" "holding" (defArgs s_holding) (defBody s_holding) (defScope s_holding) .none kV_holding dc_holding pm_holding an_holding cd_holding ct_holding), sl_holding⟩)
    (c_holding : PySem.W.codeIn K cd_holding "holding" = true)
    (k_holding : PySem.W.keepIn K (.ref f_holding) = true)
    (a_barring : PySem.W.nsIn K mainGlobals "barring" = some (some (.ref f_barring)))
    (l_barring : K.lookup f_barring = some ⟨oc_barring, od_barring, .func (PySem.W.fnOf "barring" "barring" (defArgs s_barring) (defBody s_barring) (defScope s_barring) .none kV_barring dc_barring pm_barring an_barring cd_barring ct_barring), sl_barring⟩)
    (c_barring : PySem.W.codeIn K cd_barring "barring" = true)
    (k_barring : PySem.W.keepIn K (.ref f_barring) = true)
    (a_paper : PySem.W.nsIn K mainGlobals "paper" = some (some (.ref f_paper)))
    (l_paper : K.lookup f_paper = some ⟨oc_paper, od_paper, .func (PySem.W.fnOf "paper" "paper" (defArgs s_paper) (defBody s_paper) (defScope s_paper) .none kV_paper dc_paper pm_paper an_paper cd_paper ct_paper), sl_paper⟩)
    (c_paper : PySem.W.codeIn K cd_paper "paper" = true)
    (k_paper : PySem.W.keepIn K (.ref f_paper) = true)
    (a_all_in : PySem.W.nsIn K mainGlobals "all_in" = some (some (.ref f_all_in)))
    (l_all_in : K.lookup f_all_in = some ⟨oc_all_in, od_all_in, .func (PySem.W.fnOf "all_in" "all_in" (defArgs s_all_in) (defBody s_all_in) (defScope s_all_in) .none kV_all_in dc_all_in pm_all_in an_all_in cd_all_in ct_all_in), sl_all_in⟩)
    (c_all_in : PySem.W.codeIn K cd_all_in "all_in" = true)
    (k_all_in : PySem.W.keepIn K (.ref f_all_in) = true)
    (a_pair_bars : PySem.W.nsIn K mainGlobals "pair_bars" = some (some (.ref f_pair_bars)))
    (l_pair_bars : K.lookup f_pair_bars = some ⟨oc_pair_bars, od_pair_bars, .func (PySem.W.fnOf "pair_bars" "pair_bars" (defArgs s_pair_bars) (defBody s_pair_bars) (defScope s_pair_bars) .none kV_pair_bars dc_pair_bars pm_pair_bars an_pair_bars cd_pair_bars ct_pair_bars), sl_pair_bars⟩)
    (c_pair_bars : PySem.W.codeIn K cd_pair_bars "pair_bars" = true)
    (k_pair_bars : PySem.W.keepIn K (.ref f_pair_bars) = true)
    (a_is_game : PySem.W.nsIn K mainGlobals "is_game" = some (some (.ref f_is_game)))
    (l_is_game : K.lookup f_is_game = some ⟨oc_is_game, od_is_game, .func (PySem.W.fnOf "is_game" "is_game" (defArgs s_is_game) (defBody s_is_game) (defScope s_is_game) .none kV_is_game dc_is_game pm_is_game an_is_game cd_is_game ct_is_game), sl_is_game⟩)
    (c_is_game : PySem.W.codeIn K cd_is_game "is_game" = true)
    (k_is_game : PySem.W.keepIn K (.ref f_is_game) = true)
    (a_moves_around : PySem.W.nsIn K mainGlobals "moves_around" = some (some (.ref f_moves_around)))
    (l_moves_around : K.lookup f_moves_around = some ⟨oc_moves_around, od_moves_around, .func (PySem.W.fnOf "moves_around" "moves_around" (defArgs s_moves_around) (defBody s_moves_around) (defScope s_moves_around) .none kV_moves_around dc_moves_around pm_moves_around an_moves_around cd_moves_around ct_moves_around), sl_moves_around⟩)
    (c_moves_around : PySem.W.codeIn K cd_moves_around "moves_around" = true)
    (k_moves_around : PySem.W.keepIn K (.ref f_moves_around) = true)
    (a_shows : PySem.W.nsIn K mainGlobals "shows" = some (some (.ref f_shows)))
    (l_shows : K.lookup f_shows = some ⟨oc_shows, od_shows, .func (PySem.W.fnOf "shows" "shows" (defArgs s_shows) (defBody s_shows) (defScope s_shows) .none kV_shows dc_shows pm_shows an_shows cd_shows ct_shows), sl_shows⟩)
    (c_shows : PySem.W.codeIn K cd_shows "shows" = true)
    (k_shows : PySem.W.keepIn K (.ref f_shows) = true)
    (a_Putting_init : PySem.W.findIn K (.ref aPutting) "__init__" = some (some (.ref f_Putting_init)))
    (i_Putting_init : PySem.W.isFn K (.ref f_Putting_init) = true)
    (l_Putting_init : K.lookup f_Putting_init = some ⟨oc_Putting_init, od_Putting_init, .func (PySem.W.fnOf "__init__" "Putting.__init__" (defArgs s_Putting_init) (defBody s_Putting_init) (defScope s_Putting_init) .none kV_Putting_init dc_Putting_init pm_Putting_init an_Putting_init cd_Putting_init ct_Putting_init), sl_Putting_init⟩)
    (c_Putting_init : PySem.W.codeIn K cd_Putting_init "Putting.__init__" = true)
    (k_Putting_init : PySem.W.keepIn K (.ref f_Putting_init) = true)
    (a_Putting_turn : PySem.W.findIn K (.ref aPutting) "turn" = some (some (.ref f_Putting_turn)))
    (i_Putting_turn : PySem.W.isFn K (.ref f_Putting_turn) = true)
    (l_Putting_turn : K.lookup f_Putting_turn = some ⟨oc_Putting_turn, od_Putting_turn, .func (PySem.W.fnOf "turn" "Putting.turn" (defArgs s_Putting_turn) (defBody s_Putting_turn) (defScope s_Putting_turn) .none kV_Putting_turn dc_Putting_turn pm_Putting_turn an_Putting_turn cd_Putting_turn ct_Putting_turn), sl_Putting_turn⟩)
    (c_Putting_turn : PySem.W.codeIn K cd_Putting_turn "Putting.turn" = true)
    (k_Putting_turn : PySem.W.keepIn K (.ref f_Putting_turn) = true)
    (a_Putting_put : PySem.W.findIn K (.ref aPutting) "put" = some (some (.ref f_Putting_put)))
    (i_Putting_put : PySem.W.isFn K (.ref f_Putting_put) = true)
    (l_Putting_put : K.lookup f_Putting_put = some ⟨oc_Putting_put, od_Putting_put, .func (PySem.W.fnOf "put" "Putting.put" (defArgs s_Putting_put) (defBody s_Putting_put) (defScope s_Putting_put) .none kV_Putting_put dc_Putting_put pm_Putting_put an_Putting_put cd_Putting_put ct_Putting_put), sl_Putting_put⟩)
    (c_Putting_put : PySem.W.codeIn K cd_Putting_put "Putting.put" = true)
    (k_Putting_put : PySem.W.keepIn K (.ref f_Putting_put) = true)
    (a_turned : PySem.W.nsIn K mainGlobals "turned" = some (some (.ref f_turned)))
    (l_turned : K.lookup f_turned = some ⟨oc_turned, od_turned, .func (PySem.W.fnOf "turned" "turned" (defArgs s_turned) (defBody s_turned) (defScope s_turned) .none kV_turned dc_turned pm_turned an_turned cd_turned ct_turned), sl_turned⟩)
    (c_turned : PySem.W.codeIn K cd_turned "turned" = true)
    (k_turned : PySem.W.keepIn K (.ref f_turned) = true)
    (a_law_draws : PySem.W.nsIn K mainGlobals "_law_draws" = some (some (.ref f_law_draws)))
    (l_law_draws : K.lookup f_law_draws = some ⟨oc_law_draws, od_law_draws, .func (PySem.W.fnOf "_law_draws" "_law_draws" (defArgs s_law_draws) (defBody s_law_draws) (defScope s_law_draws) .none kV_law_draws dc_law_draws pm_law_draws an_law_draws cd_law_draws ct_law_draws), sl_law_draws⟩)
    (c_law_draws : PySem.W.codeIn K cd_law_draws "_law_draws" = true)
    (k_law_draws : PySem.W.keepIn K (.ref f_law_draws) = true)
    (a_law_picked : PySem.W.nsIn K mainGlobals "_law_picked" = some (some (.ref f_law_picked)))
    (l_law_picked : K.lookup f_law_picked = some ⟨oc_law_picked, od_law_picked, .func (PySem.W.fnOf "_law_picked" "_law_picked" (defArgs s_law_picked) (defBody s_law_picked) (defScope s_law_picked) .none kV_law_picked dc_law_picked pm_law_picked an_law_picked cd_law_picked ct_law_picked), sl_law_picked⟩)
    (c_law_picked : PySem.W.codeIn K cd_law_picked "_law_picked" = true)
    (k_law_picked : PySem.W.keepIn K (.ref f_law_picked) = true)
    (a_law_games : PySem.W.nsIn K mainGlobals "_law_games" = some (some (.ref f_law_games)))
    (l_law_games : K.lookup f_law_games = some ⟨oc_law_games, od_law_games, .func (PySem.W.fnOf "_law_games" "_law_games" (defArgs s_law_games) (defBody s_law_games) (defScope s_law_games) .none kV_law_games dc_law_games pm_law_games an_law_games cd_law_games ct_law_games), sl_law_games⟩)
    (c_law_games : PySem.W.codeIn K cd_law_games "_law_games" = true)
    (k_law_games : PySem.W.keepIn K (.ref f_law_games) = true)
    (a_law_loses : PySem.W.nsIn K mainGlobals "_law_loses" = some (some (.ref f_law_loses)))
    (l_law_loses : K.lookup f_law_loses = some ⟨oc_law_loses, od_law_loses, .func (PySem.W.fnOf "_law_loses" "_law_loses" (defArgs s_law_loses) (defBody s_law_loses) (defScope s_law_loses) .none kV_law_loses dc_law_loses pm_law_loses an_law_loses cd_law_loses ct_law_loses), sl_law_loses⟩)
    (c_law_loses : PySem.W.codeIn K cd_law_loses "_law_loses" = true)
    (k_law_loses : PySem.W.keepIn K (.ref f_law_loses) = true)
    (a_law_bad : PySem.W.nsIn K mainGlobals "_law_bad" = some (some (.ref f_law_bad)))
    (l_law_bad : K.lookup f_law_bad = some ⟨oc_law_bad, od_law_bad, .func (PySem.W.fnOf "_law_bad" "_law_bad" (defArgs s_law_bad) (defBody s_law_bad) (defScope s_law_bad) .none kV_law_bad dc_law_bad pm_law_bad an_law_bad cd_law_bad ct_law_bad), sl_law_bad⟩)
    (c_law_bad : PySem.W.codeIn K cd_law_bad "_law_bad" = true)
    (k_law_bad : PySem.W.keepIn K (.ref f_law_bad) = true)
    (a_law_class : PySem.W.nsIn K mainGlobals "_law_class" = some (some (.ref f_law_class)))
    (l_law_class : K.lookup f_law_class = some ⟨oc_law_class, od_law_class, .func (PySem.W.fnOf "_law_class" "_law_class" (defArgs s_law_class) (defBody s_law_class) (defScope s_law_class) .none kV_law_class dc_law_class pm_law_class an_law_class cd_law_class ct_law_class), sl_law_class⟩)
    (c_law_class : PySem.W.codeIn K cd_law_class "_law_class" = true)
    (k_law_class : PySem.W.keepIn K (.ref f_law_class) = true)
    (a_law_asked : PySem.W.nsIn K mainGlobals "_law_asked" = some (some (.ref f_law_asked)))
    (l_law_asked : K.lookup f_law_asked = some ⟨oc_law_asked, od_law_asked, .func (PySem.W.fnOf "_law_asked" "_law_asked" (defArgs s_law_asked) (defBody s_law_asked) (defScope s_law_asked) .none kV_law_asked dc_law_asked pm_law_asked an_law_asked cd_law_asked ct_law_asked), sl_law_asked⟩)
    (c_law_asked : PySem.W.codeIn K cd_law_asked "_law_asked" = true)
    (k_law_asked : PySem.W.keepIn K (.ref f_law_asked) = true)
    (a_law_refused : PySem.W.nsIn K mainGlobals "_law_refused" = some (some (.ref f_law_refused)))
    (l_law_refused : K.lookup f_law_refused = some ⟨oc_law_refused, od_law_refused, .func (PySem.W.fnOf "_law_refused" "_law_refused" (defArgs s_law_refused) (defBody s_law_refused) (defScope s_law_refused) .none kV_law_refused dc_law_refused pm_law_refused an_law_refused cd_law_refused ct_law_refused), sl_law_refused⟩)
    (c_law_refused : PySem.W.codeIn K cd_law_refused "_law_refused" = true)
    (k_law_refused : PySem.W.keepIn K (.ref f_law_refused) = true)
    (a_behind_right : PySem.W.nsIn K mainGlobals "behind_right" = some (some (.ref f_behind_right)))
    (l_behind_right : K.lookup f_behind_right = some ⟨oc_behind_right, od_behind_right, .func (PySem.W.fnOf "behind_right" "behind_right" (defArgs s_behind_right) (defBody s_behind_right) (defScope s_behind_right) .none kV_behind_right dc_behind_right pm_behind_right an_behind_right cd_behind_right ct_behind_right), sl_behind_right⟩)
    (c_behind_right : PySem.W.codeIn K cd_behind_right "behind_right" = true)
    (k_behind_right : PySem.W.keepIn K (.ref f_behind_right) = true)
    (a_behind_left : PySem.W.nsIn K mainGlobals "behind_left" = some (some (.ref f_behind_left)))
    (l_behind_left : K.lookup f_behind_left = some ⟨oc_behind_left, od_behind_left, .func (PySem.W.fnOf "behind_left" "behind_left" (defArgs s_behind_left) (defBody s_behind_left) (defScope s_behind_left) .none kV_behind_left dc_behind_left pm_behind_left an_behind_left cd_behind_left ct_behind_left), sl_behind_left⟩)
    (c_behind_left : PySem.W.codeIn K cd_behind_left "behind_left" = true)
    (k_behind_left : PySem.W.keepIn K (.ref f_behind_left) = true)
    (a_pair_holds : PySem.W.nsIn K mainGlobals "pair_holds" = some (some (.ref f_pair_holds)))
    (l_pair_holds : K.lookup f_pair_holds = some ⟨oc_pair_holds, od_pair_holds, .func (PySem.W.fnOf "pair_holds" "pair_holds" (defArgs s_pair_holds) (defBody s_pair_holds) (defScope s_pair_holds) .none kV_pair_holds dc_pair_holds pm_pair_holds an_pair_holds cd_pair_holds ct_pair_holds), sl_pair_holds⟩)
    (c_pair_holds : PySem.W.codeIn K cd_pair_holds "pair_holds" = true)
    (k_pair_holds : PySem.W.keepIn K (.ref f_pair_holds) = true)
    (a_law : PySem.W.nsIn K mainGlobals "law" = some (some (.ref f_law)))
    (l_law : K.lookup f_law = some ⟨oc_law, od_law, .func (PySem.W.fnOf "law" "law" (defArgs s_law) (defBody s_law) (defScope s_law) .none kV_law dc_law pm_law an_law cd_law ct_law), sl_law⟩)
    (c_law : PySem.W.codeIn K cd_law "law" = true)
    (k_law : PySem.W.keepIn K (.ref f_law) = true)
    : ∃ fd : FuncData, (∀ (s : Shared) (v : Value), BindsTo s fd ⟨[v], []⟩ [("script", v)]) ∧ ∀ base : Heap, K.In base → base.Ns mainGlobals mg → FnOk l.prog w K mg base CX0 77 fa fd ["script"] (sp_law_law K) := by
  have e := hfa.symm.trans (PySem.W.mg_of X G a_law)
  cases e
  let c : Cn := { P := l.prog, w := w, K := K, cGameError := aGameError, cNoGame := aNoGame, cNoRoad := aNoRoad, cNoBoard := aNoBoard, cNoNumber := aNoNumber, cNoText := aNoText, cNoName := aNoName, cNoRow := aNoRow, cBook := aBook, cPutting := aPutting }
  have T : Txt c mg := { n_ValueError := PySem.W.mg_none_of X G n_ValueError, n_abs := PySem.W.mg_none_of X G n_abs, n_bool := PySem.W.mg_none_of X G n_bool, n_enumerate := PySem.W.mg_none_of X G n_enumerate, n_int := PySem.W.mg_none_of X G n_int, n_isinstance := PySem.W.mg_none_of X G n_isinstance, n_len := PySem.W.mg_none_of X G n_len, n_list := PySem.W.mg_none_of X G n_list, n_max := PySem.W.mg_none_of X G n_max, n_range := PySem.W.mg_none_of X G n_range, n_set := PySem.W.mg_none_of X G n_set, n_sorted := PySem.W.mg_none_of X G n_sorted, n_str := PySem.W.mg_none_of X G n_str, n_tuple := PySem.W.mg_none_of X G n_tuple, g_GameError := PySem.W.mg_of X G a_GameError, g_NoGame := PySem.W.mg_of X G a_NoGame, g_NoRoad := PySem.W.mg_of X G a_NoRoad, g_NoBoard := PySem.W.mg_of X G a_NoBoard, g_NoNumber := PySem.W.mg_of X G a_NoNumber, g_NoText := PySem.W.mg_of X G a_NoText, g_NoName := PySem.W.mg_of X G a_NoName, g_NoRow := PySem.W.mg_of X G a_NoRow, g_Book := PySem.W.mg_of X G a_Book, g_Putting := PySem.W.mg_of X G a_Putting, x_GameError := ⟨PySem.W.mg_of X G a_GameError, xx_GameError, xk_GameError, xb_GameError, xt_GameError⟩, m_GameError := PySem.W.exm_ref xb_GameError xd_GameError xt_GameError xs_GameError, x_NoBoard := ⟨PySem.W.mg_of X G a_NoBoard, xx_NoBoard, xk_NoBoard, xb_NoBoard, xt_NoBoard⟩, m_NoBoard := PySem.W.exm_ref xb_GameError xd_GameError xt_GameError xs_NoBoard, x_NoGame := ⟨PySem.W.mg_of X G a_NoGame, xx_NoGame, xk_NoGame, xb_NoGame, xt_NoGame⟩, m_NoGame := PySem.W.exm_ref xb_GameError xd_GameError xt_GameError xs_NoGame, x_NoName := ⟨PySem.W.mg_of X G a_NoName, xx_NoName, xk_NoName, xb_NoName, xt_NoName⟩, m_NoName := PySem.W.exm_ref xb_GameError xd_GameError xt_GameError xs_NoName, x_NoNumber := ⟨PySem.W.mg_of X G a_NoNumber, xx_NoNumber, xk_NoNumber, xb_NoNumber, xt_NoNumber⟩, m_NoNumber := PySem.W.exm_ref xb_GameError xd_GameError xt_GameError xs_NoNumber, x_NoRoad := ⟨PySem.W.mg_of X G a_NoRoad, xx_NoRoad, xk_NoRoad, xb_NoRoad, xt_NoRoad⟩, m_NoRoad := PySem.W.exm_ref xb_GameError xd_GameError xt_GameError xs_NoRoad, x_NoRow := ⟨PySem.W.mg_of X G a_NoRow, xx_NoRow, xk_NoRow, xb_NoRow, xt_NoRow⟩, m_NoRow := PySem.W.exm_ref xb_GameError xd_GameError xt_GameError xs_NoRow, x_NoText := ⟨PySem.W.mg_of X G a_NoText, xx_NoText, xk_NoText, xb_NoText, xt_NoText⟩, m_NoText := PySem.W.exm_ref xb_GameError xd_GameError xt_GameError xs_NoText, e_GameError := ⟨ya_GameError, yg_GameError, xb_GameError, xd_GameError, yc_GameError, x_get, x_tak, ym_GameError⟩, iv_GameError := yv_GameError, i_GameError_GameError := yi_GameError_GameError, i_GameError_NoBoard := yi_GameError_NoBoard, i_GameError_NoGame := yi_GameError_NoGame, i_GameError_NoName := yi_GameError_NoName, i_GameError_NoNumber := yi_GameError_NoNumber, i_GameError_NoRoad := yi_GameError_NoRoad, i_GameError_NoRow := yi_GameError_NoRow, i_GameError_NoText := yi_GameError_NoText, e_NoBoard := ⟨ya_NoBoard, yg_NoBoard, xb_NoBoard, xd_NoBoard, yc_NoBoard, x_get, x_tak, ym_NoBoard⟩, iv_NoBoard := yv_NoBoard, i_NoBoard_GameError := yi_NoBoard_GameError, i_NoBoard_NoBoard := yi_NoBoard_NoBoard, i_NoBoard_NoGame := yi_NoBoard_NoGame, i_NoBoard_NoName := yi_NoBoard_NoName, i_NoBoard_NoNumber := yi_NoBoard_NoNumber, i_NoBoard_NoRoad := yi_NoBoard_NoRoad, i_NoBoard_NoRow := yi_NoBoard_NoRow, i_NoBoard_NoText := yi_NoBoard_NoText, e_NoGame := ⟨ya_NoGame, yg_NoGame, xb_NoGame, xd_NoGame, yc_NoGame, x_get, x_tak, ym_NoGame⟩, iv_NoGame := yv_NoGame, i_NoGame_GameError := yi_NoGame_GameError, i_NoGame_NoBoard := yi_NoGame_NoBoard, i_NoGame_NoGame := yi_NoGame_NoGame, i_NoGame_NoName := yi_NoGame_NoName, i_NoGame_NoNumber := yi_NoGame_NoNumber, i_NoGame_NoRoad := yi_NoGame_NoRoad, i_NoGame_NoRow := yi_NoGame_NoRow, i_NoGame_NoText := yi_NoGame_NoText, e_NoName := ⟨ya_NoName, yg_NoName, xb_NoName, xd_NoName, yc_NoName, x_get, x_tak, ym_NoName⟩, iv_NoName := yv_NoName, i_NoName_GameError := yi_NoName_GameError, i_NoName_NoBoard := yi_NoName_NoBoard, i_NoName_NoGame := yi_NoName_NoGame, i_NoName_NoName := yi_NoName_NoName, i_NoName_NoNumber := yi_NoName_NoNumber, i_NoName_NoRoad := yi_NoName_NoRoad, i_NoName_NoRow := yi_NoName_NoRow, i_NoName_NoText := yi_NoName_NoText, e_NoNumber := ⟨ya_NoNumber, yg_NoNumber, xb_NoNumber, xd_NoNumber, yc_NoNumber, x_get, x_tak, ym_NoNumber⟩, iv_NoNumber := yv_NoNumber, i_NoNumber_GameError := yi_NoNumber_GameError, i_NoNumber_NoBoard := yi_NoNumber_NoBoard, i_NoNumber_NoGame := yi_NoNumber_NoGame, i_NoNumber_NoName := yi_NoNumber_NoName, i_NoNumber_NoNumber := yi_NoNumber_NoNumber, i_NoNumber_NoRoad := yi_NoNumber_NoRoad, i_NoNumber_NoRow := yi_NoNumber_NoRow, i_NoNumber_NoText := yi_NoNumber_NoText, e_NoRoad := ⟨ya_NoRoad, yg_NoRoad, xb_NoRoad, xd_NoRoad, yc_NoRoad, x_get, x_tak, ym_NoRoad⟩, iv_NoRoad := yv_NoRoad, i_NoRoad_GameError := yi_NoRoad_GameError, i_NoRoad_NoBoard := yi_NoRoad_NoBoard, i_NoRoad_NoGame := yi_NoRoad_NoGame, i_NoRoad_NoName := yi_NoRoad_NoName, i_NoRoad_NoNumber := yi_NoRoad_NoNumber, i_NoRoad_NoRoad := yi_NoRoad_NoRoad, i_NoRoad_NoRow := yi_NoRoad_NoRow, i_NoRoad_NoText := yi_NoRoad_NoText, e_NoRow := ⟨ya_NoRow, yg_NoRow, xb_NoRow, xd_NoRow, yc_NoRow, x_get, x_tak, ym_NoRow⟩, iv_NoRow := yv_NoRow, i_NoRow_GameError := yi_NoRow_GameError, i_NoRow_NoBoard := yi_NoRow_NoBoard, i_NoRow_NoGame := yi_NoRow_NoGame, i_NoRow_NoName := yi_NoRow_NoName, i_NoRow_NoNumber := yi_NoRow_NoNumber, i_NoRow_NoRoad := yi_NoRow_NoRoad, i_NoRow_NoRow := yi_NoRow_NoRow, i_NoRow_NoText := yi_NoRow_NoText, e_NoText := ⟨ya_NoText, yg_NoText, xb_NoText, xd_NoText, yc_NoText, x_get, x_tak, ym_NoText⟩, iv_NoText := yv_NoText, i_NoText_GameError := yi_NoText_GameError, i_NoText_NoBoard := yi_NoText_NoBoard, i_NoText_NoGame := yi_NoText_NoGame, i_NoText_NoName := yi_NoText_NoName, i_NoText_NoNumber := yi_NoText_NoNumber, i_NoText_NoRoad := yi_NoText_NoRoad, i_NoText_NoRow := yi_NoText_NoRow, i_NoText_NoText := yi_NoText_NoText, cl_Book := ⟨pg_Book, hd_Book, po_Book, sa_Book⟩, na_Book_depths := na_Book_depths, na_Book_moves := na_Book_moves, na_Book_numbers := na_Book_numbers, cl_Putting := ⟨pg_Putting, hd_Putting, po_Putting, sa_Putting⟩, na_Putting_book := na_Putting_book, na_Putting_sums := na_Putting_sums, na_Putting_turned := na_Putting_turned, F_Book_need := ⟨_, _, fun_mk (st := s_Book_need) l_Book_need c_Book_need k_Book_need, ⟨a_Book_need, i_Book_need, k_Book_need⟩, ((fun_mk (st := s_Book_need) l_Book_need c_Book_need k_Book_need).binds (ps := ["self", "g"]) fun _ _ _ _ _ _ us hl => match us, hl with | [_, _], _ => rfl)⟩, F_Book_game := ⟨_, _, fun_mk (st := s_Book_game) l_Book_game c_Book_game k_Book_game, ⟨a_Book_game, i_Book_game, k_Book_game⟩, ((fun_mk (st := s_Book_game) l_Book_game c_Book_game k_Book_game).binds (ps := ["self", "lefts", "rights"]) fun _ _ _ _ _ _ us hl => match us, hl with | [_, _, _], _ => rfl)⟩, F_Book_init := ⟨_, _, fun_mk (st := s_Book_init) l_Book_init c_Book_init k_Book_init, ⟨mk_Book, a_Book_init, i_Book_init, kc_Book⟩, ((fun_mk (st := s_Book_init) l_Book_init c_Book_init k_Book_init).binds (ps := ["self"]) fun _ _ _ _ _ _ us hl => match us, hl with | [_], _ => rfl)⟩, F_Book_many := ⟨_, _, fun_mk (st := s_Book_many) l_Book_many c_Book_many k_Book_many, ⟨a_Book_many, i_Book_many, k_Book_many⟩, ((fun_mk (st := s_Book_many) l_Book_many c_Book_many k_Book_many).binds (ps := ["self"]) fun _ _ _ _ _ _ us hl => match us, hl with | [_], _ => rfl)⟩, F_Book_lefts := ⟨_, _, fun_mk (st := s_Book_lefts) l_Book_lefts c_Book_lefts k_Book_lefts, ⟨a_Book_lefts, i_Book_lefts, k_Book_lefts⟩, ((fun_mk (st := s_Book_lefts) l_Book_lefts c_Book_lefts k_Book_lefts).binds (ps := ["self", "g"]) fun _ _ _ _ _ _ us hl => match us, hl with | [_, _], _ => rfl)⟩, F_Book_rights := ⟨_, _, fun_mk (st := s_Book_rights) l_Book_rights c_Book_rights k_Book_rights, ⟨a_Book_rights, i_Book_rights, k_Book_rights⟩, ((fun_mk (st := s_Book_rights) l_Book_rights c_Book_rights k_Book_rights).binds (ps := ["self", "g"]) fun _ _ _ _ _ _ us hl => match us, hl with | [_, _], _ => rfl)⟩, F_Book_depth := ⟨_, _, fun_mk (st := s_Book_depth) l_Book_depth c_Book_depth k_Book_depth, ⟨a_Book_depth, i_Book_depth, k_Book_depth⟩, ((fun_mk (st := s_Book_depth) l_Book_depth c_Book_depth k_Book_depth).binds (ps := ["self", "g"]) fun _ _ _ _ _ _ us hl => match us, hl with | [_, _], _ => rfl)⟩, F_reached := ⟨_, _, fun_mk (st := s_reached) l_reached c_reached k_reached, PySem.W.mg_of X G a_reached, ((fun_mk (st := s_reached) l_reached c_reached k_reached).binds (ps := ["book", "g"]) fun _ _ _ _ _ _ us hl => match us, hl with | [_, _], _ => rfl)⟩, F_moves_by := ⟨_, _, fun_mk (st := s_moves_by) l_moves_by c_moves_by k_moves_by, PySem.W.mg_of X G a_moves_by, ((fun_mk (st := s_moves_by) l_moves_by c_moves_by k_moves_by).binds (ps := ["book", "games"]) fun _ _ _ _ _ _ us hl => match us, hl with | [_, _], _ => rfl)⟩, F_pairs_by := ⟨_, _, fun_mk (st := s_pairs_by) l_pairs_by c_pairs_by k_pairs_by, PySem.W.mg_of X G a_pairs_by, ((fun_mk (st := s_pairs_by) l_pairs_by c_pairs_by k_pairs_by).binds (ps := ["book", "g", "h"]) fun _ _ _ _ _ _ us hl => match us, hl with | [_, _, _], _ => rfl)⟩, F_no_less := ⟨_, _, fun_mk (st := s_no_less) l_no_less c_no_less k_no_less, PySem.W.mg_of X G a_no_less, ((fun_mk (st := s_no_less) l_no_less c_no_less k_no_less).binds (ps := ["book", "g", "h"]) fun _ _ _ _ _ _ us hl => match us, hl with | [_, _, _], _ => rfl)⟩, F_compared := ⟨_, _, fun_mk (st := s_compared) l_compared c_compared k_compared, PySem.W.mg_of X G a_compared, ((fun_mk (st := s_compared) l_compared c_compared k_compared).binds (ps := ["book", "g", "h"]) fun _ _ _ _ _ _ us hl => match us, hl with | [_, _, _], _ => rfl)⟩, F_pairs_right := ⟨_, _, fun_mk (st := s_pairs_right) l_pairs_right c_pairs_right k_pairs_right, PySem.W.mg_of X G a_pairs_right, ((fun_mk (st := s_pairs_right) l_pairs_right c_pairs_right k_pairs_right).binds (ps := ["moves", "r", "x", "y"]) fun _ _ _ _ _ _ us hl => match us, hl with | [_, _, _, _], _ => rfl)⟩, F_pairs_left := ⟨_, _, fun_mk (st := s_pairs_left) l_pairs_left c_pairs_left k_pairs_left, PySem.W.mg_of X G a_pairs_left, ((fun_mk (st := s_pairs_left) l_pairs_left c_pairs_left k_pairs_left).binds (ps := ["moves", "p", "x", "y"]) fun _ _ _ _ _ _ us hl => match us, hl with | [_, _, _, _], _ => rfl)⟩, F_holding := ⟨_, _, fun_mk (st := s_holding) l_holding c_holding k_holding, PySem.W.mg_of X G a_holding, ((fun_mk (st := s_holding) l_holding c_holding k_holding).binds (ps := ["moves", "known", "x", "y"]) fun _ _ _ _ _ _ us hl => match us, hl with | [_, _, _, _], _ => rfl)⟩, F_barring := ⟨_, _, fun_mk (st := s_barring) l_barring c_barring k_barring, PySem.W.mg_of X G a_barring, ((fun_mk (st := s_barring) l_barring c_barring k_barring).binds (ps := ["moves", "known", "x", "y"]) fun _ _ _ _ _ _ us hl => match us, hl with | [_, _, _, _], _ => rfl)⟩, F_paper := ⟨_, _, fun_mk (st := s_paper) l_paper c_paper k_paper, PySem.W.mg_of X G a_paper, ((fun_mk (st := s_paper) l_paper c_paper k_paper).binds (ps := ["book", "g", "h"]) fun _ _ _ _ _ _ us hl => match us, hl with | [_, _, _], _ => rfl)⟩, F_all_in := ⟨_, _, fun_mk (st := s_all_in) l_all_in c_all_in k_all_in, PySem.W.mg_of X G a_all_in, ((fun_mk (st := s_all_in) l_all_in c_all_in k_all_in).binds (ps := ["pairs", "listed"]) fun _ _ _ _ _ _ us hl => match us, hl with | [_, _], _ => rfl)⟩, F_pair_bars := ⟨_, _, fun_mk (st := s_pair_bars) l_pair_bars c_pair_bars k_pair_bars, PySem.W.mg_of X G a_pair_bars, ((fun_mk (st := s_pair_bars) l_pair_bars c_pair_bars k_pair_bars).binds (ps := ["moves", "listed", "x", "y"]) fun _ _ _ _ _ _ us hl => match us, hl with | [_, _, _, _], _ => rfl)⟩, F_is_game := ⟨_, _, fun_mk (st := s_is_game) l_is_game c_is_game k_is_game, PySem.W.mg_of X G a_is_game, ((fun_mk (st := s_is_game) l_is_game c_is_game k_is_game).binds (ps := ["book", "number"]) fun _ _ _ _ _ _ us hl => match us, hl with | [_, _], _ => rfl)⟩, F_moves_around := ⟨_, _, fun_mk (st := s_moves_around) l_moves_around c_moves_around k_moves_around, PySem.W.mg_of X G a_moves_around, ((fun_mk (st := s_moves_around) l_moves_around c_moves_around k_moves_around).binds (ps := ["book", "listed"]) fun _ _ _ _ _ _ us hl => match us, hl with | [_, _], _ => rfl)⟩, F_shows := ⟨_, _, fun_mk (st := s_shows) l_shows c_shows k_shows, PySem.W.mg_of X G a_shows, ((fun_mk (st := s_shows) l_shows c_shows k_shows).binds (ps := ["book", "g", "h", "answer"]) fun _ _ _ _ _ _ us hl => match us, hl with | [_, _, _, _], _ => rfl)⟩, F_Putting_init := ⟨_, _, fun_mk (st := s_Putting_init) l_Putting_init c_Putting_init k_Putting_init, ⟨mk_Putting, a_Putting_init, i_Putting_init, kc_Putting⟩, ((fun_mk (st := s_Putting_init) l_Putting_init c_Putting_init k_Putting_init).binds (ps := ["self", "book"]) fun _ _ _ _ _ _ us hl => match us, hl with | [_, _], _ => rfl)⟩, F_Putting_turn := ⟨_, _, fun_mk (st := s_Putting_turn) l_Putting_turn c_Putting_turn k_Putting_turn, ⟨a_Putting_turn, i_Putting_turn, k_Putting_turn⟩, ((fun_mk (st := s_Putting_turn) l_Putting_turn c_Putting_turn k_Putting_turn).binds (ps := ["self", "g"]) fun _ _ _ _ _ _ us hl => match us, hl with | [_, _], _ => rfl)⟩, F_Putting_put := ⟨_, _, fun_mk (st := s_Putting_put) l_Putting_put c_Putting_put k_Putting_put, ⟨a_Putting_put, i_Putting_put, k_Putting_put⟩, ((fun_mk (st := s_Putting_put) l_Putting_put c_Putting_put k_Putting_put).binds (ps := ["self", "g", "h"]) fun _ _ _ _ _ _ us hl => match us, hl with | [_, _, _], _ => rfl)⟩, F_turned := ⟨_, _, fun_mk (st := s_turned) l_turned c_turned k_turned, PySem.W.mg_of X G a_turned, ((fun_mk (st := s_turned) l_turned c_turned k_turned).binds (ps := ["book", "g"]) fun _ _ _ _ _ _ us hl => match us, hl with | [_, _], _ => rfl)⟩, F_law_draws := ⟨_, _, fun_mk (st := s_law_draws) l_law_draws c_law_draws k_law_draws, PySem.W.mg_of X G a_law_draws, ((fun_mk (st := s_law_draws) l_law_draws c_law_draws k_law_draws).binds (ps := ["script", "many"]) fun _ _ _ _ _ _ us hl => match us, hl with | [_, _], _ => rfl)⟩, F_law_picked := ⟨_, _, fun_mk (st := s_law_picked) l_law_picked c_law_picked k_law_picked, PySem.W.mg_of X G a_law_picked, ((fun_mk (st := s_law_picked) l_law_picked c_law_picked k_law_picked).binds (ps := ["x", "order"]) fun _ _ _ _ _ _ us hl => match us, hl with | [_, _], _ => rfl)⟩, F_law_games := ⟨_, _, fun_mk (st := s_law_games) l_law_games c_law_games k_law_games, PySem.W.mg_of X G a_law_games, ((fun_mk (st := s_law_games) l_law_games c_law_games k_law_games).binds (ps := ["book", "d", "spot", "many"]) fun _ _ _ _ _ _ us hl => match us, hl with | [_, _, _, _], _ => rfl)⟩, F_law_loses := ⟨_, _, fun_mk (st := s_law_loses) l_law_loses c_law_loses k_law_loses, PySem.W.mg_of X G a_law_loses, ((fun_mk (st := s_law_loses) l_law_loses c_law_loses k_law_loses).binds (ps := ["moves", "x", "y", "side", "known"]) fun _ _ _ _ _ _ us hl => match us, hl with | [_, _, _, _, _], _ => rfl)⟩, F_law_bad := ⟨_, _, fun_mk (st := s_law_bad) l_law_bad c_law_bad k_law_bad, PySem.W.mg_of X G a_law_bad, ((fun_mk (st := s_law_bad) l_law_bad c_law_bad k_law_bad).binds (ps := ["book", "cell"]) fun _ _ _ _ _ _ us hl => match us, hl with | [_, _], _ => rfl)⟩, F_law_class := ⟨_, _, fun_mk (st := s_law_class) l_law_class c_law_class k_law_class, PySem.W.mg_of X G a_law_class, ((fun_mk (st := s_law_class) l_law_class c_law_class k_law_class).binds (ps := ["e"]) fun _ _ _ _ _ _ us hl => match us, hl with | [_], _ => rfl)⟩, F_law_asked := ⟨_, _, fun_mk (st := s_law_asked) l_law_asked c_law_asked k_law_asked, PySem.W.mg_of X G a_law_asked, ((fun_mk (st := s_law_asked) l_law_asked c_law_asked k_law_asked).binds (ps := ["book", "way", "g", "h"]) fun _ _ _ _ _ _ us hl => match us, hl with | [_, _, _, _], _ => rfl)⟩, F_law_refused := ⟨_, _, fun_mk (st := s_law_refused) l_law_refused c_law_refused k_law_refused, PySem.W.mg_of X G a_law_refused, ((fun_mk (st := s_law_refused) l_law_refused c_law_refused k_law_refused).binds (ps := ["book", "way", "g", "h"]) fun _ _ _ _ _ _ us hl => match us, hl with | [_, _, _, _], _ => rfl)⟩, F_behind_right := ⟨_, _, fun_mk (st := s_behind_right) l_behind_right c_behind_right k_behind_right, PySem.W.mg_of X G a_behind_right, ((fun_mk (st := s_behind_right) l_behind_right c_behind_right k_behind_right).binds (ps := ["moves", "known", "r", "y"]) fun _ _ _ _ _ _ us hl => match us, hl with | [_, _, _, _], _ => rfl)⟩, F_behind_left := ⟨_, _, fun_mk (st := s_behind_left) l_behind_left c_behind_left k_behind_left, PySem.W.mg_of X G a_behind_left, ((fun_mk (st := s_behind_left) l_behind_left c_behind_left k_behind_left).binds (ps := ["moves", "known", "x", "p"]) fun _ _ _ _ _ _ us hl => match us, hl with | [_, _, _, _], _ => rfl)⟩, F_pair_holds := ⟨_, _, fun_mk (st := s_pair_holds) l_pair_holds c_pair_holds k_pair_holds, PySem.W.mg_of X G a_pair_holds, ((fun_mk (st := s_pair_holds) l_pair_holds c_pair_holds k_pair_holds).binds (ps := ["moves", "known", "x", "y"]) fun _ _ _ _ _ _ us hl => match us, hl with | [_, _, _, _], _ => rfl)⟩ }
  exact ⟨_, fun s v => .of_eq rfl, fun base _ _ => ok_law T (fun_mk (st := s_law) l_law c_law k_law)⟩
theorem walk {l : PySem.W.OpenLaw} {q : Program} {loose : List Str} {XP : (Str → Option Value) → Heap → Prop} {YP : World → Heap → Prop} {d : DefRec} {K : Params → PySem.W.Frag} (hn : l.most = some 63) (hdf : d.params.defaults = [])
    (hY : ∀ (w : World) (h : Heap), YP w h → (K w.params).In h)
    (F : ∀ (w : World) (mg : Str → Option Value) (fa : Addr) (h : Heap), (K w.params).In h → h.Ns mainGlobals mg → mg d.name = some (.ref fa) →
      ∃ fd : FuncData, (∀ (s : Shared) (u : Value), BindsTo s fd ⟨[u], []⟩ [("script", u)]) ∧ ∀ base : Heap, (K w.params).In base → base.Ns mainGlobals mg → FnOk l.prog w (K w.params) mg base CX0 77 fa fd ["script"] (sp_law_law (K w.params))) :
    PySem.W.WalkO q loose XP YP l.row.toRowW d [] (fun f vs => PySem.call f vs) :=
  L2.walk_of (n := 63) (k := 77) (x := "script") (CX := fun _ => CX0) (sp := fun w => sp_law_law (K w.params)) hn (by decide) hdf ⟨rfl, by decide, by decide⟩ hY F (fun _ H a ns hl _ hS => ⟨rfl, a, ns, rfl, hS, hl, fun _ => rfl⟩) fun _ _ _ _ _ z => z
end Hm

open PySem PySem.W PyProof.Rows in
set_option maxRecDepth 100000 in
set_option maxHeartbeats 0 in
theorem PySem.Challenge.cw_hotmoves_k14_words_and_refusals_holds : PySem.Challenge.rw_hotmoves_k14_words_and_refusals.Holds := by
  w_on; o_law; k_head; (case hw => w_witness2)
  k_fill
  refine Hm.walk (l := PySem.Challenge.rw_hotmoves_k14_words_and_refusals) rfl rfl (fun w h Y => PySem.W.kIn_of Y) ?F
  case F =>
    intro w mg fa h KX G hmg
    refine' Hm.all_mk KX G hmg ?a_GameError ?a_NoGame ?a_NoRoad ?a_NoBoard ?a_NoNumber ?a_NoText ?a_NoName ?a_NoRow ?a_Book ?a_Putting ?pg_Book ?hd_Book ?po_Book ?sa_Book ?mk_Book ?kc_Book ?na_Book_depths ?na_Book_moves ?na_Book_numbers ?pg_Putting ?hd_Putting ?po_Putting ?sa_Putting ?mk_Putting ?kc_Putting ?na_Putting_book ?na_Putting_sums ?na_Putting_turned ?xk_GameError ?xx_GameError ?xb_GameError ?xt_GameError ?xd_GameError ?xs_GameError ?xk_NoBoard ?xx_NoBoard ?xb_NoBoard ?xt_NoBoard ?xd_NoBoard ?xs_NoBoard ?xk_NoGame ?xx_NoGame ?xb_NoGame ?xt_NoGame ?xd_NoGame ?xs_NoGame ?xk_NoName ?xx_NoName ?xb_NoName ?xt_NoName ?xd_NoName ?xs_NoName ?xk_NoNumber ?xx_NoNumber ?xb_NoNumber ?xt_NoNumber ?xd_NoNumber ?xs_NoNumber ?xk_NoRoad ?xx_NoRoad ?xb_NoRoad ?xt_NoRoad ?xd_NoRoad ?xs_NoRoad ?xk_NoRow ?xx_NoRow ?xb_NoRow ?xt_NoRow ?xd_NoRow ?xs_NoRow ?xk_NoText ?xx_NoText ?xb_NoText ?xt_NoText ?xd_NoText ?xs_NoText ?x_get ?x_tak ?ya_GameError ?yg_GameError ?yc_GameError ?ym_GameError ?yv_GameError ?yi_GameError_GameError ?yi_GameError_NoBoard ?yi_GameError_NoGame ?yi_GameError_NoName ?yi_GameError_NoNumber ?yi_GameError_NoRoad ?yi_GameError_NoRow ?yi_GameError_NoText ?ya_NoBoard ?yg_NoBoard ?yc_NoBoard ?ym_NoBoard ?yv_NoBoard ?yi_NoBoard_GameError ?yi_NoBoard_NoBoard ?yi_NoBoard_NoGame ?yi_NoBoard_NoName ?yi_NoBoard_NoNumber ?yi_NoBoard_NoRoad ?yi_NoBoard_NoRow ?yi_NoBoard_NoText ?ya_NoGame ?yg_NoGame ?yc_NoGame ?ym_NoGame ?yv_NoGame ?yi_NoGame_GameError ?yi_NoGame_NoBoard ?yi_NoGame_NoGame ?yi_NoGame_NoName ?yi_NoGame_NoNumber ?yi_NoGame_NoRoad ?yi_NoGame_NoRow ?yi_NoGame_NoText ?ya_NoName ?yg_NoName ?yc_NoName ?ym_NoName ?yv_NoName ?yi_NoName_GameError ?yi_NoName_NoBoard ?yi_NoName_NoGame ?yi_NoName_NoName ?yi_NoName_NoNumber ?yi_NoName_NoRoad ?yi_NoName_NoRow ?yi_NoName_NoText ?ya_NoNumber ?yg_NoNumber ?yc_NoNumber ?ym_NoNumber ?yv_NoNumber ?yi_NoNumber_GameError ?yi_NoNumber_NoBoard ?yi_NoNumber_NoGame ?yi_NoNumber_NoName ?yi_NoNumber_NoNumber ?yi_NoNumber_NoRoad ?yi_NoNumber_NoRow ?yi_NoNumber_NoText ?ya_NoRoad ?yg_NoRoad ?yc_NoRoad ?ym_NoRoad ?yv_NoRoad ?yi_NoRoad_GameError ?yi_NoRoad_NoBoard ?yi_NoRoad_NoGame ?yi_NoRoad_NoName ?yi_NoRoad_NoNumber ?yi_NoRoad_NoRoad ?yi_NoRoad_NoRow ?yi_NoRoad_NoText ?ya_NoRow ?yg_NoRow ?yc_NoRow ?ym_NoRow ?yv_NoRow ?yi_NoRow_GameError ?yi_NoRow_NoBoard ?yi_NoRow_NoGame ?yi_NoRow_NoName ?yi_NoRow_NoNumber ?yi_NoRow_NoRoad ?yi_NoRow_NoRow ?yi_NoRow_NoText ?ya_NoText ?yg_NoText ?yc_NoText ?ym_NoText ?yv_NoText ?yi_NoText_GameError ?yi_NoText_NoBoard ?yi_NoText_NoGame ?yi_NoText_NoName ?yi_NoText_NoNumber ?yi_NoText_NoRoad ?yi_NoText_NoRow ?yi_NoText_NoText ?n_ValueError ?n_abs ?n_bool ?n_enumerate ?n_int ?n_isinstance ?n_len ?n_list ?n_max ?n_range ?n_set ?n_sorted ?n_str ?n_tuple ?a_Book_need ?i_Book_need ?l_Book_need ?c_Book_need ?k_Book_need ?a_Book_game ?i_Book_game ?l_Book_game ?c_Book_game ?k_Book_game ?a_Book_init ?i_Book_init ?l_Book_init ?c_Book_init ?k_Book_init ?a_Book_many ?i_Book_many ?l_Book_many ?c_Book_many ?k_Book_many ?a_Book_lefts ?i_Book_lefts ?l_Book_lefts ?c_Book_lefts ?k_Book_lefts ?a_Book_rights ?i_Book_rights ?l_Book_rights ?c_Book_rights ?k_Book_rights ?a_Book_depth ?i_Book_depth ?l_Book_depth ?c_Book_depth ?k_Book_depth ?a_reached ?l_reached ?c_reached ?k_reached ?a_moves_by ?l_moves_by ?c_moves_by ?k_moves_by ?a_pairs_by ?l_pairs_by ?c_pairs_by ?k_pairs_by ?a_no_less ?l_no_less ?c_no_less ?k_no_less ?a_compared ?l_compared ?c_compared ?k_compared ?a_pairs_right ?l_pairs_right ?c_pairs_right ?k_pairs_right ?a_pairs_left ?l_pairs_left ?c_pairs_left ?k_pairs_left ?a_holding ?l_holding ?c_holding ?k_holding ?a_barring ?l_barring ?c_barring ?k_barring ?a_paper ?l_paper ?c_paper ?k_paper ?a_all_in ?l_all_in ?c_all_in ?k_all_in ?a_pair_bars ?l_pair_bars ?c_pair_bars ?k_pair_bars ?a_is_game ?l_is_game ?c_is_game ?k_is_game ?a_moves_around ?l_moves_around ?c_moves_around ?k_moves_around ?a_shows ?l_shows ?c_shows ?k_shows ?a_Putting_init ?i_Putting_init ?l_Putting_init ?c_Putting_init ?k_Putting_init ?a_Putting_turn ?i_Putting_turn ?l_Putting_turn ?c_Putting_turn ?k_Putting_turn ?a_Putting_put ?i_Putting_put ?l_Putting_put ?c_Putting_put ?k_Putting_put ?a_turned ?l_turned ?c_turned ?k_turned ?a_law_draws ?l_law_draws ?c_law_draws ?k_law_draws ?a_law_picked ?l_law_picked ?c_law_picked ?k_law_picked ?a_law_games ?l_law_games ?c_law_games ?k_law_games ?a_law_loses ?l_law_loses ?c_law_loses ?k_law_loses ?a_law_bad ?l_law_bad ?c_law_bad ?k_law_bad ?a_law_class ?l_law_class ?c_law_class ?k_law_class ?a_law_asked ?l_law_asked ?c_law_asked ?k_law_asked ?a_law_refused ?l_law_refused ?c_law_refused ?k_law_refused ?a_behind_right ?l_behind_right ?c_behind_right ?k_behind_right ?a_behind_left ?l_behind_left ?c_behind_left ?k_behind_left ?a_pair_holds ?l_pair_holds ?c_pair_holds ?k_pair_holds ?a_law ?l_law ?c_law ?k_law
    (case a_GameError => k_is)
    (case a_NoGame => k_is)
    (case a_NoRoad => k_is)
    (case a_NoBoard => k_is)
    (case a_NoNumber => k_is)
    (case a_NoText => k_is)
    (case a_NoName => k_is)
    (case a_NoRow => k_is)
    (case a_Book => k_is)
    (case a_Putting => k_is)
    (case pg_Book => k_is)
    (case hd_Book => k_is)
    (case po_Book => k_is)
    (case sa_Book => k_is)
    (case mk_Book => k_is)
    (case kc_Book => k_is)
    (case na_Book_depths => k_is)
    (case na_Book_moves => k_is)
    (case na_Book_numbers => k_is)
    (case pg_Putting => k_is)
    (case hd_Putting => k_is)
    (case po_Putting => k_is)
    (case sa_Putting => k_is)
    (case mk_Putting => k_is)
    (case kc_Putting => k_is)
    (case na_Putting_book => k_is)
    (case na_Putting_sums => k_is)
    (case na_Putting_turned => k_is)
    (case xk_GameError => k_is)
    (case xx_GameError => k_exc)
    (case xb_GameError => k_is)
    (case xt_GameError => k_is)
    (case xd_GameError => k_is)
    (case xs_GameError => first | rfl | k_is)
    (case xk_NoBoard => k_is)
    (case xx_NoBoard => k_exc)
    (case xb_NoBoard => k_is)
    (case xt_NoBoard => k_is)
    (case xd_NoBoard => k_is)
    (case xs_NoBoard => first | rfl | k_is)
    (case xk_NoGame => k_is)
    (case xx_NoGame => k_exc)
    (case xb_NoGame => k_is)
    (case xt_NoGame => k_is)
    (case xd_NoGame => k_is)
    (case xs_NoGame => first | rfl | k_is)
    (case xk_NoName => k_is)
    (case xx_NoName => k_exc)
    (case xb_NoName => k_is)
    (case xt_NoName => k_is)
    (case xd_NoName => k_is)
    (case xs_NoName => first | rfl | k_is)
    (case xk_NoNumber => k_is)
    (case xx_NoNumber => k_exc)
    (case xb_NoNumber => k_is)
    (case xt_NoNumber => k_is)
    (case xd_NoNumber => k_is)
    (case xs_NoNumber => first | rfl | k_is)
    (case xk_NoRoad => k_is)
    (case xx_NoRoad => k_exc)
    (case xb_NoRoad => k_is)
    (case xt_NoRoad => k_is)
    (case xd_NoRoad => k_is)
    (case xs_NoRoad => first | rfl | k_is)
    (case xk_NoRow => k_is)
    (case xx_NoRow => k_exc)
    (case xb_NoRow => k_is)
    (case xt_NoRow => k_is)
    (case xd_NoRow => k_is)
    (case xs_NoRow => first | rfl | k_is)
    (case xk_NoText => k_is)
    (case xx_NoText => k_exc)
    (case xb_NoText => k_is)
    (case xt_NoText => k_is)
    (case xd_NoText => k_is)
    (case xs_NoText => first | rfl | k_is)
    (case x_get => k_is)
    (case x_tak => k_is)
    (case ya_GameError => k_is)
    (case yg_GameError => k_is)
    (case yc_GameError => k_is)
    (case ym_GameError => k_is)
    (case yv_GameError => first | kit_is | rfl)
    (case yi_GameError_GameError => first | kit_is | rfl)
    (case yi_GameError_NoBoard => first | kit_is | rfl)
    (case yi_GameError_NoGame => first | kit_is | rfl)
    (case yi_GameError_NoName => first | kit_is | rfl)
    (case yi_GameError_NoNumber => first | kit_is | rfl)
    (case yi_GameError_NoRoad => first | kit_is | rfl)
    (case yi_GameError_NoRow => first | kit_is | rfl)
    (case yi_GameError_NoText => first | kit_is | rfl)
    (case ya_NoBoard => k_is)
    (case yg_NoBoard => k_is)
    (case yc_NoBoard => k_is)
    (case ym_NoBoard => k_is)
    (case yv_NoBoard => first | kit_is | rfl)
    (case yi_NoBoard_GameError => first | kit_is | rfl)
    (case yi_NoBoard_NoBoard => first | kit_is | rfl)
    (case yi_NoBoard_NoGame => first | kit_is | rfl)
    (case yi_NoBoard_NoName => first | kit_is | rfl)
    (case yi_NoBoard_NoNumber => first | kit_is | rfl)
    (case yi_NoBoard_NoRoad => first | kit_is | rfl)
    (case yi_NoBoard_NoRow => first | kit_is | rfl)
    (case yi_NoBoard_NoText => first | kit_is | rfl)
    (case ya_NoGame => k_is)
    (case yg_NoGame => k_is)
    (case yc_NoGame => k_is)
    (case ym_NoGame => k_is)
    (case yv_NoGame => first | kit_is | rfl)
    (case yi_NoGame_GameError => first | kit_is | rfl)
    (case yi_NoGame_NoBoard => first | kit_is | rfl)
    (case yi_NoGame_NoGame => first | kit_is | rfl)
    (case yi_NoGame_NoName => first | kit_is | rfl)
    (case yi_NoGame_NoNumber => first | kit_is | rfl)
    (case yi_NoGame_NoRoad => first | kit_is | rfl)
    (case yi_NoGame_NoRow => first | kit_is | rfl)
    (case yi_NoGame_NoText => first | kit_is | rfl)
    (case ya_NoName => k_is)
    (case yg_NoName => k_is)
    (case yc_NoName => k_is)
    (case ym_NoName => k_is)
    (case yv_NoName => first | kit_is | rfl)
    (case yi_NoName_GameError => first | kit_is | rfl)
    (case yi_NoName_NoBoard => first | kit_is | rfl)
    (case yi_NoName_NoGame => first | kit_is | rfl)
    (case yi_NoName_NoName => first | kit_is | rfl)
    (case yi_NoName_NoNumber => first | kit_is | rfl)
    (case yi_NoName_NoRoad => first | kit_is | rfl)
    (case yi_NoName_NoRow => first | kit_is | rfl)
    (case yi_NoName_NoText => first | kit_is | rfl)
    (case ya_NoNumber => k_is)
    (case yg_NoNumber => k_is)
    (case yc_NoNumber => k_is)
    (case ym_NoNumber => k_is)
    (case yv_NoNumber => first | kit_is | rfl)
    (case yi_NoNumber_GameError => first | kit_is | rfl)
    (case yi_NoNumber_NoBoard => first | kit_is | rfl)
    (case yi_NoNumber_NoGame => first | kit_is | rfl)
    (case yi_NoNumber_NoName => first | kit_is | rfl)
    (case yi_NoNumber_NoNumber => first | kit_is | rfl)
    (case yi_NoNumber_NoRoad => first | kit_is | rfl)
    (case yi_NoNumber_NoRow => first | kit_is | rfl)
    (case yi_NoNumber_NoText => first | kit_is | rfl)
    (case ya_NoRoad => k_is)
    (case yg_NoRoad => k_is)
    (case yc_NoRoad => k_is)
    (case ym_NoRoad => k_is)
    (case yv_NoRoad => first | kit_is | rfl)
    (case yi_NoRoad_GameError => first | kit_is | rfl)
    (case yi_NoRoad_NoBoard => first | kit_is | rfl)
    (case yi_NoRoad_NoGame => first | kit_is | rfl)
    (case yi_NoRoad_NoName => first | kit_is | rfl)
    (case yi_NoRoad_NoNumber => first | kit_is | rfl)
    (case yi_NoRoad_NoRoad => first | kit_is | rfl)
    (case yi_NoRoad_NoRow => first | kit_is | rfl)
    (case yi_NoRoad_NoText => first | kit_is | rfl)
    (case ya_NoRow => k_is)
    (case yg_NoRow => k_is)
    (case yc_NoRow => k_is)
    (case ym_NoRow => k_is)
    (case yv_NoRow => first | kit_is | rfl)
    (case yi_NoRow_GameError => first | kit_is | rfl)
    (case yi_NoRow_NoBoard => first | kit_is | rfl)
    (case yi_NoRow_NoGame => first | kit_is | rfl)
    (case yi_NoRow_NoName => first | kit_is | rfl)
    (case yi_NoRow_NoNumber => first | kit_is | rfl)
    (case yi_NoRow_NoRoad => first | kit_is | rfl)
    (case yi_NoRow_NoRow => first | kit_is | rfl)
    (case yi_NoRow_NoText => first | kit_is | rfl)
    (case ya_NoText => k_is)
    (case yg_NoText => k_is)
    (case yc_NoText => k_is)
    (case ym_NoText => k_is)
    (case yv_NoText => first | kit_is | rfl)
    (case yi_NoText_GameError => first | kit_is | rfl)
    (case yi_NoText_NoBoard => first | kit_is | rfl)
    (case yi_NoText_NoGame => first | kit_is | rfl)
    (case yi_NoText_NoName => first | kit_is | rfl)
    (case yi_NoText_NoNumber => first | kit_is | rfl)
    (case yi_NoText_NoRoad => first | kit_is | rfl)
    (case yi_NoText_NoRow => first | kit_is | rfl)
    (case yi_NoText_NoText => first | kit_is | rfl)
    (case n_ValueError => k_is)
    (case n_abs => k_is)
    (case n_bool => k_is)
    (case n_enumerate => k_is)
    (case n_int => k_is)
    (case n_isinstance => k_is)
    (case n_len => k_is)
    (case n_list => k_is)
    (case n_max => k_is)
    (case n_range => k_is)
    (case n_set => k_is)
    (case n_sorted => k_is)
    (case n_str => k_is)
    (case n_tuple => k_is)
    (case a_Book_need => k_is)
    (case i_Book_need => k_is)
    (case l_Book_need => k_is)
    (case c_Book_need => k_is)
    (case k_Book_need => k_is)
    (case a_Book_game => k_is)
    (case i_Book_game => k_is)
    (case l_Book_game => k_is)
    (case c_Book_game => k_is)
    (case k_Book_game => k_is)
    (case a_Book_init => k_is)
    (case i_Book_init => k_is)
    (case l_Book_init => k_is)
    (case c_Book_init => k_is)
    (case k_Book_init => k_is)
    (case a_Book_many => k_is)
    (case i_Book_many => k_is)
    (case l_Book_many => k_is)
    (case c_Book_many => k_is)
    (case k_Book_many => k_is)
    (case a_Book_lefts => k_is)
    (case i_Book_lefts => k_is)
    (case l_Book_lefts => k_is)
    (case c_Book_lefts => k_is)
    (case k_Book_lefts => k_is)
    (case a_Book_rights => k_is)
    (case i_Book_rights => k_is)
    (case l_Book_rights => k_is)
    (case c_Book_rights => k_is)
    (case k_Book_rights => k_is)
    (case a_Book_depth => k_is)
    (case i_Book_depth => k_is)
    (case l_Book_depth => k_is)
    (case c_Book_depth => k_is)
    (case k_Book_depth => k_is)
    (case a_reached => k_is)
    (case l_reached => k_is)
    (case c_reached => k_is)
    (case k_reached => k_is)
    (case a_moves_by => k_is)
    (case l_moves_by => k_is)
    (case c_moves_by => k_is)
    (case k_moves_by => k_is)
    (case a_pairs_by => k_is)
    (case l_pairs_by => k_is)
    (case c_pairs_by => k_is)
    (case k_pairs_by => k_is)
    (case a_no_less => k_is)
    (case l_no_less => k_is)
    (case c_no_less => k_is)
    (case k_no_less => k_is)
    (case a_compared => k_is)
    (case l_compared => k_is)
    (case c_compared => k_is)
    (case k_compared => k_is)
    (case a_pairs_right => k_is)
    (case l_pairs_right => k_is)
    (case c_pairs_right => k_is)
    (case k_pairs_right => k_is)
    (case a_pairs_left => k_is)
    (case l_pairs_left => k_is)
    (case c_pairs_left => k_is)
    (case k_pairs_left => k_is)
    (case a_holding => k_is)
    (case l_holding => k_is)
    (case c_holding => k_is)
    (case k_holding => k_is)
    (case a_barring => k_is)
    (case l_barring => k_is)
    (case c_barring => k_is)
    (case k_barring => k_is)
    (case a_paper => k_is)
    (case l_paper => k_is)
    (case c_paper => k_is)
    (case k_paper => k_is)
    (case a_all_in => k_is)
    (case l_all_in => k_is)
    (case c_all_in => k_is)
    (case k_all_in => k_is)
    (case a_pair_bars => k_is)
    (case l_pair_bars => k_is)
    (case c_pair_bars => k_is)
    (case k_pair_bars => k_is)
    (case a_is_game => k_is)
    (case l_is_game => k_is)
    (case c_is_game => k_is)
    (case k_is_game => k_is)
    (case a_moves_around => k_is)
    (case l_moves_around => k_is)
    (case c_moves_around => k_is)
    (case k_moves_around => k_is)
    (case a_shows => k_is)
    (case l_shows => k_is)
    (case c_shows => k_is)
    (case k_shows => k_is)
    (case a_Putting_init => k_is)
    (case i_Putting_init => k_is)
    (case l_Putting_init => k_is)
    (case c_Putting_init => k_is)
    (case k_Putting_init => k_is)
    (case a_Putting_turn => k_is)
    (case i_Putting_turn => k_is)
    (case l_Putting_turn => k_is)
    (case c_Putting_turn => k_is)
    (case k_Putting_turn => k_is)
    (case a_Putting_put => k_is)
    (case i_Putting_put => k_is)
    (case l_Putting_put => k_is)
    (case c_Putting_put => k_is)
    (case k_Putting_put => k_is)
    (case a_turned => k_is)
    (case l_turned => k_is)
    (case c_turned => k_is)
    (case k_turned => k_is)
    (case a_law_draws => k_is)
    (case l_law_draws => k_is)
    (case c_law_draws => k_is)
    (case k_law_draws => k_is)
    (case a_law_picked => k_is)
    (case l_law_picked => k_is)
    (case c_law_picked => k_is)
    (case k_law_picked => k_is)
    (case a_law_games => k_is)
    (case l_law_games => k_is)
    (case c_law_games => k_is)
    (case k_law_games => k_is)
    (case a_law_loses => k_is)
    (case l_law_loses => k_is)
    (case c_law_loses => k_is)
    (case k_law_loses => k_is)
    (case a_law_bad => k_is)
    (case l_law_bad => k_is)
    (case c_law_bad => k_is)
    (case k_law_bad => k_is)
    (case a_law_class => k_is)
    (case l_law_class => k_is)
    (case c_law_class => k_is)
    (case k_law_class => k_is)
    (case a_law_asked => k_is)
    (case l_law_asked => k_is)
    (case c_law_asked => k_is)
    (case k_law_asked => k_is)
    (case a_law_refused => k_is)
    (case l_law_refused => k_is)
    (case c_law_refused => k_is)
    (case k_law_refused => k_is)
    (case a_behind_right => k_is)
    (case l_behind_right => k_is)
    (case c_behind_right => k_is)
    (case k_behind_right => k_is)
    (case a_behind_left => k_is)
    (case l_behind_left => k_is)
    (case c_behind_left => k_is)
    (case k_behind_left => k_is)
    (case a_pair_holds => k_is)
    (case l_pair_holds => k_is)
    (case c_pair_holds => k_is)
    (case k_pair_holds => k_is)
    (case a_law => k_is)
    (case l_law => k_is)
    (case c_law => k_is)
    (case k_law => k_is)
