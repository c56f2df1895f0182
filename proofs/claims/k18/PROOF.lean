import PyProof.Rows.All
import Wide.All
import OpenK.AllK
import Wide.FinOn
import HandS.ForMost
import HandS.ForExc
import HandS.Strs
import HandS.SetFor
import HandS.SortInts
import HandS.Deep
import HandS.Style
import HandS.Conv
import HandS.NoneIn
import HandS.IsInst
import HandS.Wide
import HandS.Codes
import HandS.Walk
import HandS.Zip
import HandS.StrMore
import HandS.RevRange
import HandS.Rev
import HandS.TupAny
import HandS.TupLen
import HandS.Steps
import HandS.Remove
import HandS.CallSlots
import HandS.ExcIs
import HandS.ExcValue
import KE.KDictDisplayH
import KE.KeyNested
import HandS.RaiseMore
import HandS.SortRule
import PySem.Challenge.RW_hotmoves_k18_whole_no_paper_lies
set_option Elab.async false
set_option linter.all false
set_option maxRecDepth 100000
set_option maxHeartbeats 4000000
/-! F1: set(list of ints); sorted of a set of any size. -/
namespace Hm
open PySem PySem.Spec PyProof.Rows L2

/-- a set as it is made -/
abbrev emptySet (w : World) : Obj := { cls := .type "set", dict := none, data := .set #[] 0 (.fresh 0 0 (!w.params.followText "set-order")) }

section
variable {P : Program} {w : World} {A : Around} {E : Value → Shared → Prop} {s : Shared}

set_option maxHeartbeats 8000000 in
theorem set_of_list {l : Addr} {xs : Array Value} (ks : List Int) {Q : Value → Shared → Prop} (calm : A.handled = none) (isL : s.heap.IsList l xs) (are : IntsAre xs.toList ks) (few : ks.length + 1 < scanBound)
    (fin : ∀ (hp : Heap) (tk n : Nat), SetR w hp s.heap.objs.size (fun j => decide (j ∈ ks)) n → n ≤ ks.length → (∀ b o, s.heap.get? b = some o → hp.get? b = some o) → Q (.ref s.heap.objs.size) { s with heap := hp, toks := tk }) :
    wpAny (model P w) A (call (.type "set") [.ref l]) Q E s := by
  have sz : xs.size = ks.length := (Array.length_toList (xs := xs)).symm.trans (IntsAre.length are)
  have made := F.called_set.made
  have sub := F.called_set.sub
  obtain ⟨c, tl, mro⟩ := F.called_set.mro
  refine wpAny_call (codeAny_of_tree ?_)
  show wpAny _ _ (callAny (.type "set") _) _ _ _
  refine wpAny_pure ⟨Code.quiet_builtin _ (by decide +kernel), codeAny_builtin F.entry_type_call ?_⟩
  rw [Around.under_plain (weight_type_call_type "set" [.ref l] []) rfl]
  have f1 := F.called_set.notType
  have f2 := F.called_set.canCreate
  have f3 := F.typeCall_set_1 (.ref l)
  repeat (any_goals (first | assumption | wp_step))
  refine codeAny_mono (code_set_led1 (.ref l) (E := E) (Q₁ := fun v t => v = .ref s.heap.objs.size ∧ t = { s with heap := s.heap.push (emptySet w) }) ⟨rfl, rfl⟩) fun r t hr => ?_
  cases r with
  | error e => exact hr
  | ok fl =>
    cases fl with
    | next => exact hr.elim
    | brk => exact hr.elim
    | cont => exact hr.elim
    | ret v =>
      obtain ⟨rfl, rfl⟩ := hr
      have at0 : (s.heap.push (emptySet w)).get? s.heap.objs.size = some (emptySet w) := Heap.get?_push_size _ rfl
      have ty0 : Shared.TypeIs { s with heap := s.heap.push (emptySet w) } (.ref s.heap.objs.size) "set" := ⟨_, at0, rfl⟩
      have i1 := F.called_set.init.lookup
      have i2 := F.called_set.init.bind (.ref s.heap.objs.size)
      repeat (any_goals (first | assumption | wp_step))
      refine codeAny_mono (codeAny_call_builtin (R := wants (fun r t => r = .none ∧ ∃ hp tk n, t = { s with heap := hp, toks := tk } ∧ SetR w hp s.heap.objs.size (fun j => decide (j ∈ ks)) n ∧ n ≤ ks.length ∧ (∀ b o, s.heap.get? b = some o → hp.get? b = some o)) E)
        F.called_set.init.plain F.entry_set_init (check_set_init_1 ty0 ?_)) fun r t hr => ?_
      · obtain ⟨⟨oc, od, odt, osl⟩, got, e1, n0, e2⟩ := isL
        simp only at e1 e2
        subst e1 e2
        have got1 : (s.heap.push (emptySet w)).get? l = some { cls := .type "list", dict := od, data := .seq xs n0, slots := osl } := Heap.get?_push_of_some _ got
        have isL1 : (s.heap.push (emptySet w)).IsList l xs := ⟨_, got1, rfl, n0, rfl⟩
        have t1 := F.sub_list_set
        have t2 := F.sub_list_frozenset
        have t3 : (Value.type "list" == Value.type "dict") = false := by decide
        unfold Builtin.«set.__init__» noKeywords Builtin.Frozenset.updateFrom
        generalize eI : pyIter = I
        wp_walk
        subst eI
        refine wpAny_pyIter_list isL1 (wpAny_bind (wpAny_runValue ?_))
        have lt : l < s.heap.objs.size := Heap.lt_size got
        have calm3 : A.in1.in1.in1.handled = none := by simp [calm]
        have sz1 : (s.heap.push (emptySet w)).objs.size = s.heap.objs.size + 1 := Heap.size_push ..
        have neI : l ≠ (s.heap.push (emptySet w)).objs.size := by rw [sz1]; exact Nat.ne_of_lt (Nat.lt_succ_of_lt lt)
        have notS : s.heap.objs.size ∉ [(s.heap.push (emptySet w)).objs.size, l] := by
          rw [sz1]; intro z; simp only [List.mem_cons, List.not_mem_nil, or_false] at z
          rcases z with z | z
          · exact Nat.ne_of_lt (Nat.lt_succ_self _) z
          · exact Nat.ne_of_gt lt z
        have each : ∀ (i : Nat) (v : Value), xs[i]? = some v → ∃ k t, ks[i]? = some k ∧ v = .int k t := fun i v hv => by
          have hi : i < ks.length := by rw [← sz]; exact (Array.getElem?_eq_some_iff.mp hv).1
          obtain ⟨t, e⟩ := PyProof.Rows.IntsAre.int_at are i v (by rw [Array.getElem?_toList]; exact hv)
          exact ⟨ks[i], t, List.getElem?_eq_getElem hi, by rw [e, List.getD_eq_getElem?_getD, List.getElem?_eq_getElem hi]; rfl⟩
        refine set_update_ints ((Walks.list calm3 _ l neI xs).toS) s.heap.objs.size notS ks sz few each (xs.size - 0) 0 _ (by omega) (Nat.zero_le _)
          ⟨⟨_, Heap.get?_push_size _ rfl, rfl, rfl⟩, (isL1.push _)⟩ ?start ?done
        case start =>
          have g : ((s.heap.push (emptySet w)).push { cls := .type "list_iterator", data := .fields #[.ref l, .int 0 0] }).get? s.heap.objs.size = some (emptySet w) := Heap.get?_push_of_some _ at0
          exact ⟨0, Nat.le_refl 0, setR_new_at g⟩
        case done =>
          rintro ⟨hp, gs, dr, tk, os⟩ n mv nle R
          cases (show gs = s.gens from mv.gens)
          cases (show dr = s.drawn from mv.drawn)
          cases (show os = s.os from mv.os)
          show wpAny _ _ _ _ _ _
          refine wpAny_pure ?_
          show wpAny _ _ (ret Value.none) _ _ _
          rw [sz] at nle
          refine wpAny_pure ⟨rfl, hp, tk, n, rfl, R, nle, fun b o e => ?_⟩
          have b0 : b < s.heap.objs.size := Heap.lt_size e
          refine mv.heap b o (fun z => ?_) (Heap.get?_push_of_some _ (Heap.get?_push_of_some _ e))
          simp only [List.mem_cons, List.not_mem_nil, or_false] at z
          rw [sz1] at z
          rcases z with z | z
          · exact Nat.ne_of_lt b0 z
          · exact Nat.ne_of_lt (Nat.lt_succ_of_lt b0) z
      · cases r with
        | error e => exact hr
        | ok fl =>
          cases fl with
          | next => exact hr.elim
          | brk => exact hr.elim
          | cont => exact hr.elim
          | ret v =>
            obtain ⟨rfl, hp, tk, n, rfl, R, nle, keep⟩ := hr
            repeat (any_goals (first | assumption | wp_step))
            exact fin _ _ _ R nle keep

/-- sorted(s) of a set of ints of any size -/
theorem sorted_of_set {a : Addr} {S : Int → Bool} {n : Nat} {Q : Value → Shared → Prop} (R : SetR w s.heap a S n) (calm : A.handled = none)
    (fin : ∀ t p (out : Array Value) (c : Nat) (ns : List Int), (∀ b o, s.heap.get? b = some o → t.heap.get? b = some o) → t.gens = s.gens → t.os = s.os → s.heap.objs.size ≤ p →
      t.heap.get? p = some (seqObj "list" out c) → IntsAre out.toList ns → ns.Pairwise (· < ·) → (∀ k, k ∈ ns ↔ S k = true) → ns.length = n → Q (.ref p) t) :
    wpAny (model P w) A (call (.builtin "sorted") [.ref a]) Q E s := by
  obtain ⟨o, es, ep, t, ho, hex, hd, good, nd, mem, few, fits, num, ris, led⟩ := R
  refine Calls.call_function_entry kind_sorted plain_sorted entry_sorted (args_sorted1 _) ?_
  unfold Builtin.«sorted»
  refine wpAny_bind (m := checkCount "sorted" 1 1 _) (wpAny_pure ?_)
  refine wpAny_bind (collect_set (A := A.in1) calm ⟨o, ho, hex.1, hd⟩ fits few ris led fun s1 vs k1 big g1 o1 pm => ?_)
  have len : vs.length = n := by rw [pm.length_eq, List.length_map, Array.length_toList]; exact num
  have areI : IntsAre vs (vs.map Builtin.Re.reRawOf) := ints_of vs fun v hv => by
    obtain ⟨e, he, q⟩ := List.mem_map.mp (pm.mem_iff.mp hv)
    obtain ⟨k, tk, h1, _⟩ := good e he
    exact ⟨k, tk, q ▸ h1⟩
  have pk : (vs.map Builtin.Re.reRawOf).Perm (es.toList.map keyOf) := by
    have q := pm.map Builtin.Re.reRawOf
    rw [List.map_map] at q
    exact q
  have line : vs.length ≤ sizeLine := by
    rw [len, sizeLine_eq]; have : scanBound = 4096 := rfl; omega
  refine wpAny_bind (wpAny_newList ?_ line)
  have at1 : (s1.heap.push (seqObj "list" vs.toArray 0)).get? s1.heap.objs.size = some (seqObj "list" vs.toArray 0) := Heap.get?_push_size _ rfl
  refine wpAny_bind (wpAny_holding (wpAny_call_entry slot_list_sort ⟨_, at1, rfl⟩ entry_list_sort
    (SrtO.list_sort_ord SrtO.swo_int at1 line (fun h2 => SrtO.ints_sortable areI h2) fun out h1 h2 => ⟨_, rfl, ?_⟩) (args_list_sort _)))
  obtain ⟨j1, j2, j3⟩ := SrtO.ints_out areI h1 h2
  obtain ⟨c, hc⟩ := sortedHeap_at (vs := vs) (out := out.toArray) at1
  have pn : (out.map SrtO.iv).Perm (es.toList.map keyOf) := j2.trans pk
  refine wpAny_pure ⟨_, rfl, fin _ s1.heap.objs.size out.toArray c (out.map SrtO.iv) (fun b u e => ?_) g1 o1 big hc (by simpa using j1) (lt_of_le_nodup _ j3 (pn.nodup_iff.mpr nd)) (fun k => by rw [pn.mem_iff, ← mem k]) ?_⟩
  · have q := k1 b u e
    have lt := Heap.lt_size q
    show (sortedHeap (s1.heap.push (seqObj "list" vs.toArray 0)) s1.heap.objs.size vs out.toArray).get? b = some u
    rw [sortedHeap_old (Nat.ne_of_lt lt) (by rw [size_push']; exact Nat.lt_succ_of_lt lt)]
    exact Heap.get?_push_of_some _ q
  · rw [pn.length_eq, List.length_map, Array.length_toList]; exact num
end

section
variable {X : Cx}
/-- set(xs), xs a list of ints -/
def uSetI (K : PySem.W.Frag) (w : World) : List V → Hp → VK → Prop := fun xs H Q => ∃ (l : Addr) (ns : List Int), xs = [.ref l] ∧ SqL K H l (ns.map V.int) ∧ ns.length ≤ 4000 ∧
  ∀ (a : Addr) (n : Nat), H a = none → n ≤ ns.length → Q (.ref a) (upd H a (SetO w a (fun j => decide (j ∈ ns)) n))
theorem cu_setI (hc : X.calm = true) : CallR X (.type "set") (uSetI X.K X.w) := by
  intro pins s σ H xs us Q I r h
  obtain ⟨l, ns, rfl, hl, few, q⟩ := h
  rw [Vals.ref1 r]
  obtain ⟨its, rv, pl, hz⟩ := I.list hl
  have hs : scanBound = 4096 := rfl
  refine set_of_list ns (I.ok.hd hc) pl.isList (by simpa using rv.ints) (by omega) fun hp tk n R nle keep => ?_
  exact ⟨.ref _, upd H s.heap.objs.size (SetO X.w s.heap.objs.size (fun j => decide (j ∈ ns)) n), I.laid (t' := tk) keep (Nat.le_refl _) (setO_new R), rfl, q _ n (I.hok.fresh (Nat.le_refl _)) nle⟩
/-- sorted(s), s a set of ints -/
def uSortSet (w : World) : List V → Hp → VK → Prop := fun vs H Q => ∃ (a : Addr) (S : Int → Bool) (n : Nat), vs = [V.ref a] ∧ H a = some (SetO w a S n) ∧
  ∀ (ns : List Int) (p : Addr), ns.Pairwise (· < ·) → (∀ k : Int, k ∈ ns ↔ S k = true) → ns.length = n → H p = none → Q (.ref p) (upd H p (.lst (ns.map V.int)))
theorem cu_sortSet (hc : X.calm = true) : CallR X (.builtin "sorted") (uSortSet X.w) := by
  intro pins s σ H vs us Q I r h
  obtain ⟨a, S, n, rfl, ha, q⟩ := h
  have R := setO_get I ha
  have nb : n ≤ 4096 := by
    obtain ⟨_, es, _, _, _, _, _, _, _, _, few, _, num, _⟩ := R
    have hs : scanBound = 4096 := rfl
    omega
  rw [Vals.ref1 r]
  refine sorted_of_set R (I.ok.hd hc) fun s' p out c ns k g o big got areI up mem len => ?_
  have line : (ns.map V.int).length ≤ sizeLine := by rw [List.length_map, len, sizeLine_eq]; omega
  have new : H p = none := I.hok.fresh big
  have J : Inv X pins σ (upd H p (.lst (ns.map V.int))) { s with heap := s'.heap, gens := s'.gens, drawn := s'.drawn, toks := s'.toks } :=
    I.call (ch := []) (Un.laid k big new) (I.hok.laid k big ⟨line, out.toList, c, vals_of_ints areI, got⟩) (by rw [g]; exact I.bare) (fun _ z => nomatch z)
  have same : s' = { s with heap := s'.heap, gens := s'.gens, drawn := s'.drawn, toks := s'.toks } := by
    cases s'; cases s; cases o; rfl
  rw [same]
  exact ⟨.ref p, _, J, rfl, q ns p up mem len new⟩
end
end Hm

/-! F1b: dicts whose keys are nested tuples of ints and texts. -/
namespace Hm
open PySem PySem.Spec PyProof.Rows L2

mutual
/-- the value v is the key k, its tuples tracked -/
def NkV (H : Hp) : NestedKey → V → Prop
  | .none, v => v = .non
  | .num i, v => v = .int i
  | .text x, v => v = .str x
  | .tup ks, v => ∃ a vs, v = .ref a ∧ H a = some (.tup vs) ∧ NkVs H ks vs
def NkVs (H : Hp) : List NestedKey → List V → Prop
  | [], vs => vs = []
  | k :: ks, vs => ∃ v r, vs = v :: r ∧ NkV H k v ∧ NkVs H ks r
end
mutual
theorem NkV.keeps {H H' : Hp} (ht : ∀ b xs, H b = some (.tup xs) → H' b = some (.tup xs)) : ∀ (k : NestedKey) (v : V), NkV H k v → NkV H' k v
  | .none, _, h => by simpa only [NkV] using h
  | .num i, _, h => by simpa only [NkV] using h
  | .text x, _, h => by simpa only [NkV] using h
  | .tup ks, _, h => by
    simp only [NkV] at h ⊢
    obtain ⟨a, vs, e, ha, hs⟩ := h
    exact ⟨a, vs, e, ht _ _ ha, NkVs.keeps ht ks vs hs⟩
theorem NkVs.keeps {H H' : Hp} (ht : ∀ b xs, H b = some (.tup xs) → H' b = some (.tup xs)) : ∀ (ks : List NestedKey) (vs : List V), NkVs H ks vs → NkVs H' ks vs
  | [], _, h => by simpa only [NkVs] using h
  | k :: ks, _, h => by
    simp only [NkVs] at h ⊢
    obtain ⟨v, r, e, h1, h2⟩ := h
    exact ⟨v, r, e, NkV.keeps ht k v h1, NkVs.keeps ht ks r h2⟩
end
section
variable {P : Program} {w : World} {H : Hp} {h : Heap}
mutual
theorem nk_is (ok : HOk P w H h) : ∀ (k : NestedKey) (v : V) (u : Value), NkV H k v → RelV v u → NestedIs h k u
  | .none, _, _, e, r => by simp only [NkV] at e; subst e; cases r; exact .none
  | .num i, _, _, e, r => by simp only [NkV] at e; subst e; obtain ⟨t, rfl⟩ := r; exact .int i t
  | .text x, _, _, e, r => by simp only [NkV] at e; subst e; obtain ⟨t, rfl⟩ := r; exact .text x t
  | .tup ks, _, _, e, r => by
    simp only [NkV] at e
    obtain ⟨a, vs, rfl, ha, hs⟩ := e
    cases r
    obtain ⟨_, its, rv, o, h1, h2, n, h3⟩ := (show ObjOk P w H h a (.tup vs) from ok a _ ha)
    exact .tup h1 h2 h3 (by simpa using nks_are ok ks vs its hs rv)
theorem nks_are (ok : HOk P w H h) : ∀ (ks : List NestedKey) (vs : List V) (us : List Value), NkVs H ks vs → Vals vs us → NestedAll h ks us
  | [], _, _, e, r => by simp only [NkVs] at e; subst e; cases r; exact .nil
  | k :: ks, _, _, e, r => by
    simp only [NkVs] at e
    obtain ⟨v, rr, rfl, h1, h2⟩ := e
    cases r with
    | cons r1 r2 => exact .cons (nk_is ok k v _ h1 r1) (nks_are ok ks rr _ h2 r2)
end
end

/-- an entry: the key, its tuple's address, the value -/
abbrev NX := NestedKey × Addr × V
def NRel (p : NX) (q : NestedKey × Addr × Value) : Prop := p.1 = q.1 ∧ p.2.1 = q.2.1 ∧ RelV p.2.2 q.2.2
/-- the dict at a -/
def NdO (P : Program) (w : World) (a : Addr) (xs : List NX) : HO := .ext fun h => (a == sysModules) = false ∧ xs.length ≤ sizeLine ∧ ∃ ys, Paired NRel xs ys ∧
  ∃ o es ep, h.get? a = some o ∧ o.ExactDict ∧ o.data = .dict es ep ∧ es.toList = ys.map (entryOfKey (nestedKind P w)) ∧ (ys.map (·.1)).Nodup
structure NdAt (P : Program) (w : World) (H : Hp) (a : Addr) (xs : List NX) : Prop where
  here : H a = some (NdO P w a xs)
  keys : ∀ x ∈ xs, NkV H x.1 (.ref x.2.1) ∧ x.1.depth ≤ 8
def nval (xs : List NX) (k : NestedKey) : Option V := (xs.find? fun x => decide (x.1 = k)).map (·.2.2)
def nput (xs : List NX) (k : NestedKey) (a : Addr) (v : V) : List NX := if (nval xs k).isSome then xs.map fun x => if x.1 = k then (x.1, x.2.1, v) else x else xs ++ [(k, a, v)]

section
variable {P : Program} {w : World} {H H' : Hp} {h h' : Heap} {a : Addr} {xs : List NX}
theorem ndO_ok {ys : List (NestedKey × Addr × Value)} (z : (a == sysModules) = false) (l : xs.length ≤ sizeLine) (r : Paired NRel xs ys) (d : h.DictOfH (nestedKind P w) a ys) : ObjOk P w H h a (NdO P w a xs) := by
  obtain ⟨o, es, ep, e1, e2, e3, e4, e5, e6⟩ := d
  refine ⟨⟨z, l, ys, r, o, es, ep, e1, e2, e3, e4, e6⟩, ⟨o, e1⟩, fun h1 h2 q k => ?_⟩
  obtain ⟨z, l, ys, r, o, es, ep, f1, f⟩ := q
  exact ⟨z, l, ys, r, o, es, ep, k o f1, f⟩
theorem NdAt.get (ok : HOk P w H h) (N : NdAt P w H a xs) : (a == sysModules) = false ∧ xs.length ≤ sizeLine ∧ ∃ ys, Paired NRel xs ys ∧ h.DictOfH (nestedKind P w) a ys := by
  obtain ⟨⟨z, l, ys, r, o, es, ep, e1, e2, e3, e4, e6⟩, _, _⟩ := ok a _ N.here
  refine ⟨z, l, ys, r, o, es, ep, e1, e2, e3, e4, ?_, e6⟩
  have all : ∀ {l : List NX} {m : List (NestedKey × Addr × Value)}, Paired NRel l m → (∀ x ∈ l, NkV H x.1 (.ref x.2.1) ∧ x.1.depth ≤ 8) → ∀ y ∈ m, (nestedKind P w).is h y.1 y.2.1 := by
    intro l m q
    induction q with
    | nil => intro _ y hy; exact nomatch hy
    | @cons p q ps qs hq t ih =>
      intro hk y hy
      rcases List.mem_cons.mp hy with e | hy
      · subst e
        obtain ⟨k1, k2⟩ := hk p List.mem_cons_self
        rw [← hq.1, ← hq.2.1]
        exact ⟨nk_is ok p.1 _ _ k1 rfl, k2⟩
      · exact ih (fun x hx => hk x (List.mem_cons_of_mem _ hx)) y hy
  exact all r N.keys
theorem NRel.val {ys : List (NestedKey × Addr × Value)} (r : Paired NRel xs ys) (k : NestedKey) : RelO (nval xs k) ((atKey ys k).map (·.2)) := by
  induction r with
  | nil => exact True.intro
  | @cons p q ps qs hq t ih =>
    obtain ⟨h1, _, h3⟩ := hq
    by_cases e : p.1 = k
    · have e' : q.1 = k := h1.symm.trans e
      have b : atKey (q :: qs) k = some q.2 := by simp [atKey, List.find?_cons, e']
      have c : nval (p :: ps) k = some p.2.2 := by simp [nval, List.find?_cons, e]
      rw [c, b]; exact h3
    · have e' : ¬ q.1 = k := fun z => e (h1.trans z)
      have b : atKey (q :: qs) k = atKey qs k := by simp [atKey, List.find?_cons, e']
      have c : nval (p :: ps) k = nval ps k := by simp [nval, List.find?_cons, e]
      rw [c, b]; exact ih
theorem NRel.put {ys : List (NestedKey × Addr × Value)} (r : Paired NRel xs ys) (k : NestedKey) (b : Addr) {v : V} {u : Value} (rv : RelV v u) : Paired NRel (nput xs k b v) (storedH ys k b u) := by
  have e : (nval xs k).isSome = (atKey ys k).isSome := by rw [(NRel.val r k).isSome_eq, Option.isSome_map]
  unfold nput storedH
  rw [e]
  by_cases q : (atKey ys k).isSome = true
  · rw [if_pos q, if_pos q]
    clear e q
    induction r with
    | nil => exact .nil
    | @cons p q ps qs hq t ih =>
      rw [List.map_cons, List.map_cons]
      refine .cons ?_ ih
      obtain ⟨h1, h2, h3⟩ := hq
      unfold putAt
      by_cases e : p.1 = k
      · rw [if_pos e, if_pos (h1.symm.trans e)]; exact ⟨h1, h2, rv⟩
      · rw [if_neg e, if_neg (fun z => e (h1.trans z))]; exact ⟨h1, h2, h3⟩
  · rw [if_neg q, if_neg q]
    exact Paired.snoc r ⟨rfl, rfl, rv⟩
theorem nput_len (xs : List NX) (k : NestedKey) (b : Addr) (v : V) : (nput xs k b v).length ≤ xs.length + 1 := by
  unfold nput; split <;> simp
theorem nput_keys {k : NestedKey} {b : Addr} {v : V} (hk : ∀ x ∈ xs, NkV H x.1 (.ref x.2.1) ∧ x.1.depth ≤ 8) (hb : NkV H k (.ref b)) (d : k.depth ≤ 8) : ∀ x ∈ nput xs k b v, NkV H x.1 (.ref x.2.1) ∧ x.1.depth ≤ 8 := by
  intro x hx
  unfold nput at hx
  split at hx
  · obtain ⟨y, hy, e⟩ := List.mem_map.mp hx
    subst e
    split
    · exact hk y hy
    · exact hk y hy
  · rcases List.mem_append.mp hx with hx | hx
    · exact hk x hx
    · cases List.mem_singleton.mp hx; exact ⟨hb, d⟩
theorem NdAt.keep (N : NdAt P w H a xs) (ha : H' a = H a) (ht : ∀ b ys, H b = some (.tup ys) → H' b = some (.tup ys)) : NdAt P w H' a xs :=
  ⟨ha.trans N.here, fun x hx => ⟨NkV.keeps ht _ _ (N.keys x hx).1, (N.keys x hx).2⟩⟩
end

theorem nk_key {P : Program} {w : World} {H : Hp} {h : Heap} {k : NestedKey} {p : Addr} (ok : HOk P w H h) (kp : NkV H k (.ref p)) (d : k.depth ≤ 8) : (nestedKind P w).is h k p := ⟨nk_is ok k _ _ kp rfl, d⟩
section
variable {X : Cx}
/-- y in d -/
def uNIn (P : Program) (w : World) (neg : Bool) : R2 := fun y x H Q => ∃ a p k xs, x = .ref a ∧ y = .ref p ∧ NdAt P w H a xs ∧ NkV H k (.ref p) ∧ k.depth ≤ 8 ∧ Q (.bl (neg != (nval xs k).isSome)) H
theorem NdAt.isSome {P : Program} {w : World} {k : NestedKey} {xs : List NX} {ys : List (NestedKey × Addr × Value)} (r : Paired NRel xs ys) : (atKey ys k).isSome = (nval xs k).isSome := by
  rw [(NRel.val r k).isSome_eq, Option.isSome_map]
theorem ou_nin (hu : X.A.units + 64 < cLine) : OpR X (compareOp .In) (uNIn X.prog X.w false) := by
  intro pins s σ H y x v u Q I ry rx h
  obtain ⟨a, p, k, xs, rfl, rfl, N, kp, d, q⟩ := h
  cases rx; cases ry
  obtain ⟨z, l, ys, r, D⟩ := N.get I.hok
  refine wpAny_in_heap (show X.A.units + 1 + 8 < cLine by omega) (nk_key I.hok kp d) z D ?_
  rw [NdAt.isSome (P := X.prog) (w := X.w) r]
  exact ⟨.bl _, H, I.tok _, rfl, by simpa using q⟩
theorem ou_nnotin (hu : X.A.units + 64 < cLine) : OpR X (compareOp .NotIn) (uNIn X.prog X.w true) := by
  intro pins s σ H y x v u Q I ry rx h
  obtain ⟨a, p, k, xs, rfl, rfl, N, kp, d, q⟩ := h
  cases rx; cases ry
  obtain ⟨z, l, ys, r, D⟩ := N.get I.hok
  refine wpAny_notIn_heap (show X.A.units + 1 + 8 < cLine by omega) (nk_key I.hok kp d) z D ?_
  rw [NdAt.isSome (P := X.prog) (w := X.w) r]
  exact ⟨.bl _, H, I.tok _, rfl, by simpa using q⟩
/-- d[y] -/
def uNIx (P : Program) (w : World) : R2 := fun x y H Q => ∃ a p k xs v, x = .ref a ∧ y = .ref p ∧ NdAt P w H a xs ∧ NkV H k (.ref p) ∧ k.depth ≤ 8 ∧ nval xs k = some v ∧ Q v H
theorem ix_nd (hu : X.A.units + 64 < cLine) : IxR X (uNIx X.prog X.w) := by
  intro value slice pins s σ H x y v u Q I rx ry h hs
  obtain ⟨a, p, k, xs, z, rfl, rfl, N, kp, d, e, q⟩ := h
  cases rx; cases ry
  obtain ⟨_, l, ys, r, D⟩ := N.get I.hok
  obtain ⟨w', hw, rw'⟩ := RelO.some_of (v := z) (o := (atKey ys k).map (·.2)) (by rw [← e]; exact NRel.val r k)
  obtain ⟨q2, hq2, e2⟩ := Option.map_eq_some_iff.mp hw
  refine tail_any D.typeIs PySem.F.slot_dict_getitem.lookup (wpAny_getItem_heap (show X.A.units + 1 + 8 < cLine by omega) (nk_key I.hok kp d) D hq2 ?_) hs
  rw [e2]
  exact ⟨z, H, I.tok _, rw', q⟩
/-- a dict's item by int, text, or a flat tuple -/
def uDIx : R2 := fun x y H Q => ∃ a v, x = .ref a ∧ DGet H a y (some v) ∧ Q v H
theorem ix_d (hu : X.A.units + 64 < cLine) : IxR X uDIx := by
  intro value slice pins s σ H x y v u Q I rx ry h hs
  obtain ⟨a, z, rfl, g, q⟩ := h
  cases rx
  exact tail_any (dict_typeIs I g) PySem.F.slot_dict_getitem.lookup (d_getItem (by omega) I g ry fun w' s' I' rw' => ⟨z, H, I', rw', q⟩) hs
/-- y in d, keys ints, texts, flat tuples -/
def uDIn (neg : Bool) : R2 := fun y x H Q => ∃ a o, x = .ref a ∧ DGet H a y o ∧ Q (.bl (neg != o.isSome)) H
theorem ou_din (hu : X.A.units + 64 < cLine) : OpR X (compareOp .In) (uDIn false) := by
  intro pins s σ H y x v u Q I ry rx h
  obtain ⟨a, o, rfl, g, q⟩ := h
  cases rx
  exact d_in (by omega) I g ry fun s' I' => ⟨.bl _, H, I', rfl, by simpa using q⟩
theorem ou_dnotin (hu : X.A.units + 64 < cLine) : OpR X (compareOp .NotIn) (uDIn true) := by
  intro pins s σ H y x v u Q I ry rx h
  obtain ⟨a, o, rfl, g, q⟩ := h
  cases rx
  exact d_notIn (by omega) I g ry fun s' I' => ⟨.bl _, H, I', rfl, by simpa using q⟩
/-- d[y] = v -/
def uNSet (P : Program) (w : World) : V → V → V → Hp → (Hp → Prop) → Prop := fun o i v H Q => ∃ a p k xs, o = .ref a ∧ i = .ref p ∧ NdAt P w H a xs ∧ NkV H k (.ref p) ∧ k.depth ≤ 8 ∧ xs.length < sizeLine ∧ Q (upd H a (NdO P w a (nput xs k p v)))
theorem set_nd (hu : X.A.units + 64 < cLine) : PSet X (uNSet X.prog X.w) := by
  intro pins s σ H o i v ov iv u Q I ro ri rv h
  obtain ⟨a, p, k, xs, rfl, rfl, N, kp, d, few, q⟩ := h
  cases ro; cases ri
  obtain ⟨z, l, ys, r, D⟩ := N.get I.hok
  have hl : (nput xs k p v).length ≤ sizeLine := Nat.le_trans (nput_len xs k p v) few
  refine wpAny_setItem_heap (hsz := by rw [← Paired.length r]; exact l) (show X.A.units + 1 + 8 < cLine by omega) (nk_key I.hok kp d) D fun h' D' hs => ?_
  have he : ∃ q, h'.get? a = some q := let ⟨q, _, _, hq, _⟩ := D'; ⟨q, hq⟩
  exact ⟨_, d_write I (by rw [N.here]; exact True.intro) hs he (ndO_ok z hl (NRel.put r k p rv) D'), q⟩
def uDSet : V → V → V → Hp → (Hp → Prop) → Prop := fun o i v H Q => ∃ a H', o = .ref a ∧ DPut H a i v H' ∧ Q H'
theorem set_d (hu : X.A.units + 64 < cLine) : PSet X uDSet := by
  intro pins s σ H o i v ov iv u Q I ro ri rv h
  obtain ⟨a, H', rfl, g, q⟩ := h
  cases ro
  exact d_setItem (by omega) I g ri rv fun s' I' => ⟨H', I', q⟩
theorem PSet.or {X : Cx} {t t' : TSet} (h : PSet X t) (h' : PSet X t') : PSet X (fun o i v H Q => t o i v H Q ∨ t' o i v H Q) := by
  intro pins s σ H o i v ov iv u Q I ro ri rv q
  rcases q with q | q
  · exact h pins s σ H o i v ov iv u Q I ro ri rv q
  · exact h' pins s σ H o i v ov iv u Q I ro ri rv q
/-- {} with nested keys to come -/
theorem nd_empty {P : Program} {w : World} {H : Hp} (h : Heap) (hb : sysModules < h.objs.size) : ObjOk P w H (h.push { cls := .type "dict", data := .dict #[] }) h.objs.size (NdO P w h.objs.size []) :=
  ndO_ok (beq_eq_false_iff_ne.mpr (Ne.symm (Nat.ne_of_lt hb))) (Nat.zero_le _) .nil (Heap.DictOfH.new h)
def uDNew (P : Program) (w : World) : TE := fun _ H Q => (∃ kind : Bool, ∀ p, H p = none → Q (.ref p) (upd H p (if kind = true then .dK [] else NdO P w p []))) ∨ (∀ p, H p = none → Q (.ref p) (upd H p (.dT [])))
theorem pe_dnew {pos : Pos} : PE X (.Dict [] [] pos) (uDNew X.prog X.w) := ⟨fun pins s σ H Q I h => by
  rcases h with ⟨kind, q⟩ | q
  · cases kind with
    | true => exact wpAny_Dict_empty ⟨.ref s.heap.objs.size, _, I.laid (a := s.heap.objs.size) (o := .dK []) (t' := s.toks) (fun _ _ q => Heap.get?_push_of_some _ q) (Nat.le_refl _) (dk_empty s.heap I.big), rfl, q _ (I.hok.fresh (Nat.le_refl _))⟩
    | false => exact wpAny_Dict_empty ⟨.ref s.heap.objs.size, _, I.laid (a := s.heap.objs.size) (o := NdO X.prog X.w s.heap.objs.size []) (t' := s.toks) (fun _ _ q => Heap.get?_push_of_some _ q) (Nat.le_refl _) (nd_empty s.heap I.big), rfl, q _ (I.hok.fresh (Nat.le_refl _))⟩
  · exact pe_dnewT.run pins s σ H Q I q⟩
/-- {k: v} with one nested key -/
def uDisp1 (P : Program) (w : World) (tk tv : TE) : TE := fun σ H Q => ∀ p, H p = none → tk σ (upd H p (NdO P w p [])) fun x H1 => tv σ H1 fun y H2 =>
  ∃ k b, x = .ref b ∧ H2 p = some (NdO P w p []) ∧ NkV H2 k (.ref b) ∧ k.depth ≤ 8 ∧ Q (.ref p) (upd H2 p (NdO P w p [(k, b, y)]))
theorem pe_disp1 {ke ve : Expr} {tk tv : TE} {pos : Pos} (hu : X.A.units + 64 < cLine) (hk : PE X ke tk) (hv : PE X ve tv)
    (shape : (evalEachOpt [some ke] X.env).zip ((evalEach [ve] X.env).map fun v => do let x ← v; standAt pos; pure x) = [(eval ke X.env, (do let x ← eval ve X.env; standAt pos; pure x))].map fun p => (some p.1, p.2) := by rfl) :
    PE X (.Dict [some ke] [ve] pos) (uDisp1 X.prog X.w tk tv) := by
  refine ⟨fun pins s σ H Q I h => ?_⟩
  have hn := I.hok.fresh (Nat.le_refl s.heap.objs.size)
  have I1 := I.laid (a := s.heap.objs.size) (o := NdO X.prog X.w s.heap.objs.size []) (h' := s.heap.push { cls := .type "dict", data := .dict #[] }) (t' := s.toks) (fun _ _ q => Heap.get?_push_of_some _ q) (Nat.le_refl _) (nd_empty s.heap I.big)
  have h1 : PPs X pos [some ke] [ve] [(tk, tv)] := pps_cons hk hv pps_nil
  have trees : pairTrees [some ke] [ve] X.env pos = [(eval ke X.env, (do let x ← eval ve X.env; standAt pos; pure x))] := by rfl
  have run := h1.run pins _ σ _ (fun ps H2 => match ps with
    | [(x, y)] => ∃ k b, x = .ref b ∧ H2 s.heap.objs.size = some (NdO X.prog X.w s.heap.objs.size []) ∧ NkV H2 k (.ref b) ∧ k.depth ≤ 8 ∧ Q (.ref s.heap.objs.size) (upd H2 s.heap.objs.size (NdO X.prog X.w s.heap.objs.size [(k, b, y)]))
    | _ => False) I1 (h _ hn)
  rw [trees] at run
  rw [arm_eval_Dict, shape, dictDisplay_pairs _ (by simp) (by simp)]
  refine wpAny_bind (wpAny_standAt (wpAny_bind (wpAny_subDictH (knd := nestedKind X.prog X.w) (show X.A.units + 8 < cLine by omega) (by simp) (thn run fun vs s2 hh => ?_))))
  obtain ⟨ps, H2, I2, rel, q⟩ := hh
  split at q
  · rename_i x y
    obtain ⟨k, b, rfl, e, kb, d, q⟩ := q
    cases rel with
    | @cons p1 q1 ps qs rr t =>
    cases t
    obtain ⟨u1, u2⟩ := q1
    obtain ⟨r1, r2⟩ := rr
    cases (show u1 = Value.ref b from r1)
    obtain ⟨z, l, ys, rr, D⟩ := NdAt.get I2.hok (xs := []) ⟨e, fun _ hx => nomatch hx⟩
    cases rr
    refine ⟨[(k, b, u2)], ⟨rfl, rfl, nk_key I2.hok kb d, True.intro⟩, D, fun h' tk' D' hs => wpAny_pure ⟨.ref s.heap.objs.size, _, ?_, rfl, q⟩⟩
    have he : ∃ q, h'.get? s.heap.objs.size = some q := let ⟨q, _, _, hq, _⟩ := D'; ⟨q, hq⟩
    exact d_write I2 (by rw [e]; exact True.intro) hs he (ndO_ok (ys := [(k, b, u2)]) z (by rw [sizeLine_eq]; exact (by decide : (1 : Nat) ≤ 16777216)) (.cons ⟨rfl, rfl, r2⟩ .nil) D')
  · exact q.elim
end
/-! sorted(t), t a tuple of ints -/
section
open PyProof.Rows
variable {P : Program} {w : World} {A : Around} {E : Value → Shared → Prop} {s : Shared}
theorem collect_tup {l : Addr} {vs : List Value} {Q : List Value → Shared → Prop} (hl : s.heap.IsTuple l vs.toArray) (hsz : vs.length ≤ sizeLine)
    (h : Q vs { s with heap := (s.heap.push (seqObj "list" #[] 0)).update s.heap.objs.size (Obj.mapSeq (· ++ vs.toArray)) }) :
    wpAny (model P w) A (collect (.ref l)) Q E s := by
  obtain ⟨o, ho, hc, n, hd⟩ := id hl
  unfold collect
  refine wpAny_bind (wpAny_runValue (codeAny_builtin entry_proto_collect' ?_))
  show wpAny _ _ (do again (.builtin "list.__iadd__" ⟨[← newList [], .ref l], []⟩)) _ _ s
  refine wpAny_bind (wpAny_newList (wpAny_pure ⟨Code.quiet_builtin _ (by decide +kernel), codeAny_builtin entry_list_iadd' ?_⟩))
  show wpAny _ _ (Builtin.List.listExtendWith (.ref s.heap.objs.size) (.ref l) (.ref s.heap.objs.size)) _ _ { s with heap := s.heap.push (seqObj "list" #[] 0) }
  unfold Builtin.List.listExtendWith
  have ho' : (s.heap.push (seqObj "list" #[] 0)).get? l = some o := Heap.get?_push_of_some _ ho
  refine wpAny_bind (wpAny_typeOf (T := "tuple") ⟨o, ho', hc⟩ ?_)
  have ht : (Value.type "tuple" == Value.type "tuple") = true := by rfl
  rw [if_pos (by rw [ht]; simp)]
  refine wpAny_bind (listItems_at ho' hd ?_)
  refine wpAny_bind (listItems_at (xs := #[]) (n := 0) (Heap.get?_push_size _ rfl) rfl ?_)
  rw [if_neg (by simp)]
  refine wpAny_bind (listUpdate_at (xs := #[]) (n := 0) (Heap.get?_push_size _ rfl) rfl ?_ (Nat.zero_le _) (by show (#[] ++ vs.toArray).size ≤ sizeLine + 1; simp only [Array.size_append, List.size_toArray, List.length_nil]; omega))
  refine wpAny_pure ?_
  show wpAny (model P w) A (do
      let o ← load s.heap.objs.size
      match o.data with
      | .seq xs _ => pure xs.toList
      | _ => unsupported "internal:collect") Q E { s with heap := (s.heap.push (seqObj "list" #[] 0)).update s.heap.objs.size (Obj.mapSeq (· ++ vs.toArray)) }
  refine wpAny_bind (wpAny_load (get?_update_seq (Heap.get?_push_size _ rfl) _) ?_)
  show wpAny _ _ (pure ((#[] : Array Value) ++ vs.toArray).toList) Q E _
  rw [show ((#[] : Array Value) ++ vs.toArray).toList = vs by simp]
  exact wpAny_pure h
theorem sorted_of_tup {l : Addr} {vs : List Value} {ns : List Int} {Q : Value → Shared → Prop} (hl : s.heap.IsTuple l vs.toArray) (hsz : vs.length ≤ sizeLine) (areI : IntsAre vs ns)
    (fin : ∀ (h' : Heap) (p : Addr) (out : Array Value) (c : Nat) (ns' : List Int), (∀ b o, s.heap.get? b = some o → h'.get? b = some o) → s.heap.objs.size ≤ p → h'.get? p = some (seqObj "list" out c) → IntsAre out.toList ns' → ns'.Perm ns → ns'.Pairwise (· ≤ ·) → Q (.ref p) { s with heap := h' }) :
    wpAny (model P w) A (call (.builtin "sorted") [.ref l]) Q E s := by
  refine Calls.call_function_entry kind_sorted plain_sorted entry_sorted (args_sorted1 _) ?_
  unfold Builtin.«sorted»
  refine wpAny_bind (m := checkCount "sorted" 1 1 _) (wpAny_pure ?_)
  refine wpAny_bind (collect_tup hl hsz ?_)
  have k1 : ∀ b o, s.heap.get? b = some o → ((s.heap.push (seqObj "list" #[] 0)).update s.heap.objs.size (Obj.mapSeq (· ++ vs.toArray))).get? b = some o := fun b o q => by
    rw [Heap.get?_update_ne _ _ _ _ (Nat.ne_of_lt (Heap.lt_size q))]
    exact Heap.get?_push_of_some _ q
  have big : s.heap.objs.size ≤ ((s.heap.push (seqObj "list" #[] 0)).update s.heap.objs.size (Obj.mapSeq (· ++ vs.toArray))).objs.size := by
    rw [Heap.size_update, size_push']; omega
  generalize (s.heap.push (seqObj "list" #[] 0)).update s.heap.objs.size (Obj.mapSeq (· ++ vs.toArray)) = h1 at k1 big ⊢
  refine wpAny_bind (wpAny_newList ?_ hsz)
  have at1 : (h1.push (seqObj "list" vs.toArray 0)).get? h1.objs.size = some (seqObj "list" vs.toArray 0) := Heap.get?_push_size _ rfl
  refine wpAny_bind (wpAny_holding (wpAny_call_entry slot_list_sort ⟨_, at1, rfl⟩ entry_list_sort
    (SrtO.list_sort_ord SrtO.swo_int at1 hsz (fun h2 => SrtO.ints_sortable areI h2) fun out z1 z2 => ⟨_, rfl, ?_⟩) (args_list_sort _)))
  obtain ⟨j1, j2, j3⟩ := SrtO.ints_out areI z1 z2
  obtain ⟨c, hc⟩ := sortedHeap_at (vs := vs) (out := out.toArray) at1
  refine wpAny_pure ⟨_, rfl, fin _ h1.objs.size out.toArray c (out.map SrtO.iv) (fun b u e => ?_) big hc (by simpa using j1) j2 j3⟩
  have q := k1 b u e
  have lt := Heap.lt_size q
  rw [sortedHeap_old (Nat.ne_of_lt lt) (by rw [size_push']; exact Nat.lt_succ_of_lt lt)]
  exact Heap.get?_push_of_some _ q
end
section
variable {X : Cx}
def rSortTup (K : PySem.W.Frag) : List V → Hp → VK → Prop := fun xs H Q => ∃ (l : Addr) (ns : List Int), xs = [.ref l] ∧ SqT K H l (ns.map V.int) ∧
  ∀ (ns' : List Int) (p : Addr), ns'.Perm ns → ns'.Pairwise (· ≤ ·) → H p = none → Q (.ref p) (upd H p (.lst (ns'.map V.int)))
theorem cu_sortTup : CallR X (.builtin "sorted") (rSortTup X.K) := by
  intro pins s σ H vs us Q I r h
  obtain ⟨l, ns, rfl, hq, q⟩ := h
  rw [Vals.ref1 r]
  obtain ⟨its, rv, p, hz⟩ := I.tuple hq
  have areI : IntsAre its ns := rv.ints
  refine sorted_of_tup (show s.heap.IsTuple l its.toArray from p) (by rw [← rv.length]; exact hz) areI fun h' p' out c ns' k big got a1 a2 a3 => ?_
  have line : (ns'.map V.int).length ≤ sizeLine := by rw [List.length_map, a2.length_eq]; rw [List.length_map] at hz; exact hz
  have new : H p' = none := I.hok.fresh big
  exact ⟨.ref p', upd H p' (.lst (ns'.map V.int)), I.laid (t' := s.toks) k big ⟨line, out.toList, c, vals_of_ints a1, got⟩, rfl, q ns' p' a2 a3 new⟩
/-- sorted(d), d a dict whose keys are ints, of any size -/
def uSortDict : List V → Hp → VK → Prop := fun xs H Q => ∃ (a : Addr) (kvs : List (L2.Key × V)) (ks : List Int), xs = [.ref a] ∧ H a = some (.dK kvs) ∧ kvs.map (·.1) = ks.map Sum.inl ∧
  ∀ (ys : List Int) (p : Addr), ys.Perm ks → ys.Pairwise (· ≤ ·) → H p = none → Q (.ref p) (upd H p (.lst (ys.map V.int)))
theorem ints_each' : ∀ {us : List Value} {ks : List Int}, us.length = ks.length → (∀ (j : Nat) (v : Value), us[j]? = some v → ∃ (x : Int) (t : _), ks[j]? = some x ∧ v = .int x t) → IntsAre us ks
  | [], [], _, _ => .nil
  | u :: us, k :: ks, hl, h => by
    obtain ⟨x, t, e1, e2⟩ := h 0 u rfl
    have e1' : k = x := Option.some.inj e1
    subst e1'
    subst e2
    refine .cons _ _ (ints_each' (by simpa using hl) fun j v e => ?_)
    obtain ⟨x, t, a, b⟩ := h (j + 1) v (by simpa using e)
    exact ⟨x, t, by simpa using a, b⟩
  | [], _ :: _, hl, _ => by simp at hl
  | _ :: _, [], hl, _ => by simp at hl
theorem cu_sortDict (hcalm : X.calm = true) : CallR X (.builtin "sorted") uSortDict := by
  intro pins s σ H xs us Q I r q
  obtain ⟨a, kvs, ks, rfl, hd, hks, q⟩ := q
  rw [Vals.ref1 r]
  obtain ⟨z, lo, vs, rel, dd⟩ := dk_rd I.hok (.inl hd)
  obtain ⟨ep, hat⟩ := dd.dictAt
  have hkeys : vs.map (·.1) = ks.map Sum.inl := rel.keys.symm.trans hks
  have hl : vs.length = ks.length := by
    have e := congrArg List.length hkeys
    rw [List.length_map, List.length_map] at e
    exact e
  have h16 : vs.length ≤ sizeLine := by rw [← rel.length]; exact z
  refine Calls.call_function_entry kind_sorted plain_sorted entry_sorted (args_sorted1 _) ?_
  unfold Builtin.«sorted»
  refine wpAny_bind (m := checkCount "sorted" 1 1 _) (wpAny_pure ?_)
  refine wpAny_bind (PySem.W.kdu_collect (A := X.A.in1) (PySem.W.kdl_dict (knd := mixKind X.prog X.w) (kvs := vs) (ep := ep) lo) (I.ok.hd hcalm) hat h16 fun h' tk acc hk hacc => ?_)
  have hal : acc.toList.length = ks.length := by rw [Array.length_toList, hacc.1, hl]
  have areI : IntsAre acc.toList ks := ints_each' hal fun j v e => by
    obtain ⟨k, x, e1, e2⟩ := hacc.2 j v (by rw [← Array.getElem?_toList]; exact e)
    have e3 : (vs.map (·.1))[j]? = some k := by rw [List.getElem?_map, e1]; rfl
    rw [hkeys, List.getElem?_map] at e3
    cases e4 : ks[j]? with
    | none => rw [e4] at e3; cases e3
    | some y =>
      rw [e4] at e3
      have e5 : Sum.inl y = k := Option.some.inj e3
      subst e5
      rcases keyIs_shape (show keyIs (Sum.inl y) v = true from e2) with ⟨i, t, ek, ev⟩ | ⟨z, t, ek, ev⟩
      · cases ek
        exact ⟨y, t, rfl, ev⟩
      · cases ek
  have I1 : Inv X pins σ H { s with heap := h', toks := tk } := I.kept hk
  have hal2 : acc.toList.length ≤ sizeLine := by rw [hal, ← hl]; exact h16
  refine wpAny_bind (wpAny_newList ?_ hal2)
  have at1 : (h'.push (seqObj "list" acc.toList.toArray 0)).get? h'.objs.size = some (seqObj "list" acc.toList.toArray 0) := Heap.get?_push_size _ rfl
  show wpAny _ _ _ _ _ { s with heap := h'.push (seqObj "list" acc.toList.toArray 0), toks := tk }
  refine wpAny_bind (wpAny_holding (wpAny_call_entry slot_list_sort ⟨_, at1, rfl⟩ entry_list_sort
    (SrtO.list_sort_ord SrtO.swo_int (s := { s with heap := h'.push (seqObj "list" acc.toList.toArray 0), toks := tk }) at1 hal2 (fun h2 => SrtO.ints_sortable areI h2) fun out z1 z2 => ⟨_, rfl, ?_⟩) (args_list_sort _)))
  obtain ⟨j1, j2, j3⟩ := SrtO.ints_out areI z1 z2
  obtain ⟨c, hc⟩ := sortedHeap_at (vs := acc.toList) (out := out.toArray) at1
  have hlen : ((out.map SrtO.iv).map V.int).length ≤ sizeLine := by
    rw [List.length_map, j2.length_eq, ← hl]; exact h16
  refine wpAny_pure ⟨_, rfl, .ref h'.objs.size, upd H h'.objs.size (.lst ((out.map SrtO.iv).map V.int)), I1.laid (t' := tk) (fun b u e => ?_) (Nat.le_refl _)
    (show ObjOk X.prog X.w _ _ _ (.lst ((out.map SrtO.iv).map V.int)) from ⟨hlen, out, c, vals_of_ints j1, hc⟩), rfl, q _ _ j2 j3 (I1.hok.fresh (Nat.le_refl _))⟩
  have hb : b < h'.objs.size := Heap.lt_size e
  rw [sortedHeap_old (Nat.ne_of_lt hb) (by rw [size_push']; exact Nat.lt_succ_of_lt hb)]
  exact Heap.get?_push_of_some _ e
end
end Hm

/-! F2: rules by syntax alone (each a choice by values), and their readings. -/
namespace Hm
open PySem PySem.Spec PyProof.Rows L2

/-! ### choices by values -/
def bAdd (K : PySem.W.Frag) : R2 := fun x y H Q => rI0 (fun i j => .int (i + j)) x y H Q ∨ rCat x y H Q ∨
  (∃ i j, x = .str i ∧ y = .str j ∧ i.length + j.length ≤ sizeLine ∧ Q (.str (i ++ j)) H) ∨ rCatA K x y H Q
def bSub : R2 := rI0 fun i j => .int (i - j)
def bMul : R2 := fun x y H Q => rI CMul (fun i j => .int (i * j)) x y H Q ∨ rI CMulW (fun i j => .int (i * j)) x y H Q ∨ rRep x y H Q
def bMod : R2 := rI (fun _ j => 0 < j) fun i j => .int (i % j)
def bDiv : R2 := fun x y H Q => rI CDiv (fun i j => .int (i / j)) x y H Q ∨ rI CDivW (fun i j => .int (i / j)) x y H Q
def bPow : R2 := rI CPow fun i j => .int (i ^ j.toNat)
def bAnd : R2 := rI0 fun i j => .int (Builtin.bitAnd i j)
def bXor : R2 := rI0 fun i j => .int (Builtin.bitXor i j)
def cEq (K : PySem.W.Frag) : R2 := fun x y H Q => rEq x y H Q ∨ rEqD K x y H Q
def cNe (K : PySem.W.Frag) : R2 := fun x y H Q => rNe x y H Q ∨ rNeD K x y H Q
def cLt (K : PySem.W.Frag) : R2 := fun x y H Q => rI0 (fun i j => .bl (decide (i < j))) x y H Q ∨
  (∃ i j, x = .str i ∧ y = .str j ∧ Q (.bl (decide (i.cps.toList < j.cps.toList))) H) ∨ rLtT K x y H Q
def cLe : R2 := rI0 fun i j => .bl (decide (i ≤ j))
def cGt : R2 := rI0 fun i j => .bl (decide (j < i))
def cGe : R2 := rI0 fun i j => .bl (decide (j ≤ i))
def cIs : R2 := fun x y H Q => (y = .non ∧ Q (.bl (decide (x = .non))) H) ∨ rIsB x y H Q
def cIsNot : R2 := fun x y H Q => (y = .non ∧ Q (.bl (!decide (x = .non))) H) ∨ rNotB x y H Q
def cIn (P : Program) (w : World) (K : PySem.W.Frag) : R2 := fun x y H Q => rIn K false x y H Q ∨ rInD K x y H Q ∨ rInS x y H Q ∨ uDIn false x y H Q ∨ uNIn P w false x y H Q
def cNotIn (P : Program) (w : World) (K : PySem.W.Frag) : R2 := fun x y H Q => rIn K true x y H Q ∨ rNotInD K x y H Q ∨ rNotInS x y H Q ∨ uDIn true x y H Q ∨ uNIn P w true x y H Q
def bIx (P : Program) (w : World) (K : PySem.W.Frag) : R2 := fun x y H Q => rIxL K x y H Q ∨ rIxT K x y H Q ∨ rIxS x y H Q ∨ uDIx x y H Q ∨ uNIx P w x y H Q
def bSet (P : Program) (w : World) : TSet := fun o i v H Q => rSetL o i v H Q ∨ uDSet o i v H Q ∨ uNSet P w o i v H Q
def kLen (K : PySem.W.Frag) : List V → Hp → VK → Prop := fun xs H Q => (∃ x n, xs = [x] ∧ LenV K x H n ∧ Q (.int n) H) ∨ (∃ a kvs, xs = [V.ref a] ∧ H a = some (.dK kvs) ∧ Q (.int kvs.length) H)
def kList (K : PySem.W.Frag) : List V → Hp → VK → Prop := fun xs H Q => (∃ p ys, xs = [.ref p] ∧ (SqL K H p ys ∨ SqT K H p ys) ∧ ∀ l, H l = none → Q (.ref l) (upd H l (.lst ys))) ∨ rListD xs H Q
def kTuple (K : PySem.W.Frag) : List V → Hp → VK → Prop := fun xs H Q => ∃ p ys, xs = [.ref p] ∧ ((SqL K H p ys ∧ ∀ l, H l = none → Q (.ref l) (upd H l (.tup ys))) ∨ (SqT K H p ys ∧ Q (.ref p) H))
def kSorted (K : PySem.W.Frag) (w : World) : List V → Hp → VK → Prop := fun xs H Q => rSortedI K xs H Q ∨ uSortSet w xs H Q ∨ rSortTup K xs H Q ∨ uSortDict xs H Q
def kMax (K : PySem.W.Frag) : List V → Hp → VK → Prop := fun xs H Q => (∃ i j, xs = [.int i, .int j] ∧ Q (.int (if j > i then j else i)) H) ∨ rMax K xs H Q
def kMin (K : PySem.W.Frag) : List V → Hp → VK → Prop := fun xs H Q => (∃ i j, xs = [.int i, .int j] ∧ Q (.int (if j < i then j else i)) H) ∨ rMin K xs H Q
def kAbs : List V → Hp → VK → Prop := fun xs H Q => ∃ i, xs = [.int i] ∧ Q (.int (if i < 0 then -i else i)) H
def kInt : List V → Hp → VK → Prop := fun xs H Q => (∃ i, xs = [.int i] ∧ Q (.int i) H) ∨ ∃ k, xs = [.bl k] ∧ Q (.int (if k then 1 else 0)) H
def tTru (K : PySem.W.Frag) (ta : TE) : TT := fun σ H Q => ta σ H fun x H' => ∃ k, TruV K x H' k ∧ Q k H'
def bSl (K : PySem.W.Frag) : V → Option Int → Option Int → Hp → VK → Prop := fun x lo hi H Q => rSlL K x lo hi H Q ∨ rSlA K x lo hi H Q
/-- (a, b) = a tuple or a list of that length -/
def gSeq (K : PySem.W.Frag) (n : Nat) (t : TGs) : TG := fun v σ H Q => gTup K n t v σ H Q ∨ gUnl K n t v σ H Q
def kInsert : V → List V → Hp → VK → Prop := fun x vs H Q => ∃ (l : Addr) (xs : List V) (i : Int) (y : V), x = .ref l ∧ vs = [.int i, y] ∧ H l = some (.lst xs) ∧ xs.length < sizeLine ∧ 0 ≤ i ∧ i < 2 ^ 63 ∧
    Q .non (upd H l (.lst (xs.take i.toNat ++ [y] ++ xs.drop i.toNat)))
def kIndex (K : PySem.W.Frag) : V → List V → Hp → VK → Prop := fun x xs H Q => rIndex K x xs H Q ∨ rIndexD K x xs H Q

def rTupIndex (K : PySem.W.Frag) : V → List V → Hp → VK → Prop := fun x xs H Q => ∃ p, ∃ ys : List Str, ∃ z j, x = .ref p ∧ xs = [.str z] ∧ SqT K H p (ys.map V.str) ∧ ys[j]? = some z ∧ (∀ m, m < j → ys[m]? ≠ some z) ∧ Q (.int (j : Nat)) H

section
variable {X : Cx}
theorem hu64 {k : Nat} {A : Around} (hr : Room k A) : A.units + 64 < cLine := hr.units
theorem hu1 {k : Nat} {A : Around} (hr : Room k A) : A.units + 1 < cLine := by have := hr.un; omega
theorem hu65 {k : Nat} {A : Around} (hr : Room k A) : A.units + 65 < cLine := by have := hr.un; omega
theorem o_add : OpR X (binaryOp .Add) (bAdd X.K) := op_add.or (op_cat.or (op_add_str.or op_catA))
theorem o_sub : OpR X (binaryOp .Sub) bSub := op_sub
theorem o_mul : OpR X (binaryOp .Mult) bMul := op_mul.or (op_mulW.or op_rep)
theorem o_mod : OpR X (binaryOp .Mod) bMod := op_mod
theorem o_div : OpR X (binaryOp .FloorDiv) bDiv := op_fdiv.or op_fdivW
theorem o_pow : OpR X (binaryOp .Pow) bPow := op_pow
theorem o_and : OpR X (binaryOp .BitAnd) bAnd := op_and
theorem o_xor : OpR X (binaryOp .BitXor) bXor := op_xor
theorem o_eq (hu : X.A.units + 64 < cLine) : OpR X (compareOp .Eq) (cEq X.K) := op_eq.or (op_eqD hu)
theorem o_ne (hu : X.A.units + 64 < cLine) : OpR X (compareOp .NotEq) (cNe X.K) := op_ne.or (op_neD hu)
theorem o_lt (hu : X.A.units + 64 < cLine) : OpR X (compareOp .Lt) (cLt X.K) := op_lt.or (op_lt_str.or (op_ltT (by omega)))
theorem o_le : OpR X (compareOp .LtE) cLe := op_le
theorem o_gt : OpR X (compareOp .Gt) cGt := op_gt
theorem o_ge : OpR X (compareOp .GtE) cGe := op_ge
theorem o_is : OpR X (compareOp .Is) cIs := op_isN.or op_isBl
theorem o_isnot : OpR X (compareOp .IsNot) cIsNot := op_notN.or op_notBl
theorem o_in (hu : X.A.units + 65 < cLine) : OpR X (compareOp .In) (cIn X.prog X.w X.K) := op_in_seq.or ((op_inD hu).or (op_inS.or ((ou_din (by omega)).or (ou_nin (by omega)))))
theorem o_notin (hu : X.A.units + 65 < cLine) : OpR X (compareOp .NotIn) (cNotIn X.prog X.w X.K) := op_notIn_seq.or ((op_notInD hu).or (op_notInS.or ((ou_dnotin (by omega)).or (ou_nnotin (by omega)))))
theorem x_ix (hu : X.A.units + 64 < cLine) : IxR X (bIx X.prog X.w X.K) := ix_list.or (ix_tup.or (ix_str.or ((ix_d hu).or (ix_nd hu))))
theorem s_set (hu : X.A.units + 64 < cLine) : PSet X (bSet X.prog X.w) := PSet.or set_list (PSet.or (set_d hu) (set_nd hu))
theorem k_len : CallR X (.builtin "len") (kLen X.K) := call_len.or call_lenD
theorem k_list (hc : X.calm = true) : CallR X (.type "list") (kList X.K) := call_list_of.or (call_list_dK hc)
theorem k_tuple : CallR X (.type "tuple") (kTuple X.K) := call_tuple_of
theorem k_sorted (hc : X.calm = true) : CallR X (.builtin "sorted") (kSorted X.K X.w) := cr_sortedI.or ((cu_sortSet hc).or (cu_sortTup.or (cu_sortDict hc)))
theorem k_set (hc : X.calm = true) : CallR X (.type "set") (uSetI X.K X.w) := cu_setI hc
theorem k_max (hc : X.calm = true) : CallR X (.builtin "max") (kMax X.K) := (call_max2 hc).or (cr_max hc)
theorem k_min (hc : X.calm = true) : CallR X (.builtin "min") (kMin X.K) := (call_min2 hc).or (cr_min hc)
theorem k_abs : CallR X (.builtin "abs") kAbs := call_abs
theorem k_int : CallR X (.type "int") kInt := call_int1
theorem k_isi : CallR X (.builtin "isinstance") (rIsi X.K) := call_isi
theorem p_tru {a : Expr} {ta : TE} (ha : PE X a ta) (he : ∀ whole, isTrue a X.env whole = (do let v ← whole; standAt a.pos; holding [v] (truthy v)) := by intro _; rfl) : PT X a (tTru X.K ta) := pt_truth ha he
theorem s_sl : SlR X (bSl X.K) := sl_list.or sl_tupA
theorem g_seq {es : List Expr} {k : Nat} {t : TGs} {n : Nat} {pos : Pos} (hc : X.calm = true) (h : PGs X es t)
    (hn : (assignEach es X.env).length = n := by rfl) (hst : (assignEach es X.env).findIdx? (·.1) = none := by rfl) : PG X (.Tuple es k pos) (gSeq X.K n t) := by
  refine ⟨fun pins s σ H v u Q I r hw => ?_⟩
  rcases hw with hw | hw
  · exact (pg_tup hc h hn hst).run pins s σ H v u Q I r hw
  · exact (pg_unl hc h hn hst).run pins s σ H v u Q I r hw
/-- what a for walks, by its value -/
def kIter (K : PySem.W.Frag) (x : V) (H : Hp) (R : It → Hp → Prop) : Prop := (∃ a, x = .ref a ∧ (∃ xs, SqL K H a xs) ∧ R (Itl K a) H) ∨ (∃ a, x = .ref a ∧ (∃ xs, SqT K H a xs) ∧ R (Itt K a) H) ∨ ∃ z, x = .str z ∧ R (Its z) H
def iAny (K : PySem.W.Frag) (tl : TE) : TI := fun σ H R => tl σ H fun x H1 => kIter K x H1 R
theorem pi_any {tg l : Expr} {tl : TE} (hl : PE X l tl) : PI X tg l (iAny X.K tl) := by
  refine ⟨fun pins s σ H R I h => thn (hl.run pins s σ H _ I h) fun v s1 ⟨x, H1, I1, r1, q1⟩ => ?_⟩
  have own : ∀ {Q : Hp}, Inv X pins σ Q s1 → ∀ b ∈ [s1.heap.objs.size], FpOk X pins Q b := fun J b hb => by
    cases List.mem_singleton.mp hb
    exact J.fpOk (Nat.le_refl _) (J.hok.fresh (Nat.le_refl _))
  rcases q1 with ⟨a, rfl, ⟨xs, hq⟩, q⟩ | ⟨a, rfl, ⟨xs, hq⟩, q⟩ | ⟨z, rfl, q⟩
  · cases r1
    obtain ⟨its, rv, p, hz⟩ := I1.list hq
    exact wpAny_pyIter_list p.isList ⟨_, [s1.heap.objs.size], _, _, H1, rfl, I1.kept (t' := s1.toks) fun b o e => Heap.get?_push_of_some _ e, turn_list a _, ⟨_, Heap.get?_push_size _ rfl, rfl, rfl⟩, own I1, q⟩
  · cases r1
    obtain ⟨its, rv, p, hz⟩ := I1.tuple hq
    exact wpAny_pyIter_tuple (show s1.heap.IsTuple a its.toArray from p) ⟨_, [s1.heap.objs.size], _, _, H1, rfl, I1.kept (t' := s1.toks) fun b o e => Heap.get?_push_of_some _ e, turn_tuple a _, ⟨_, Heap.get?_push_size _ rfl, rfl, rfl⟩, own I1, q⟩
  · obtain ⟨t, rfl⟩ := r1
    cases ha : z.cps.all (· < 128)
    · exact wpAny_pyIter_wide ha (pi_one (tk := s1.toks) I1 _ (turn_str _ z t "str_iterator" (.inr rfl)) ⟨_, Heap.get?_push_size _ rfl, rfl, rfl⟩ q)
    · exact wpAny_pyIter_ascii ha (pi_one (tk := s1.toks) I1 _ (turn_str _ z t "str_ascii_iterator" (.inl rfl)) ⟨_, Heap.get?_push_size _ rfl, rfl, rfl⟩ q)
theorem mt_kindex (hu : X.A.units + 65 < cLine) : MtR X "list.index" (kIndex X.K) := mt_index.or (mt_indexD hu)
end
/-! ### defs, methods, classes of the text, by their promises -/
structure Cal (P : Program) (w : World) (K : PySem.W.Frag) (mg : Str → Option Value) (base : Heap) (CX : CXT) (k : Nat) (x : Str) (sp : Sp) : Prop where
  ex : ∃ (f : Addr) (fd : FuncData) (ps : List Str), FnOk P w K mg base CX k f fd ps sp ∧ mg x = some (.ref f) ∧ PySem.W.keepIn K (.ref f) = true ∧ Binds K fd ps []
structure Met (P : Program) (w : World) (K : PySem.W.Frag) (mg : Str → Option Value) (base : Heap) (CX : CXT) (k : Nat) (C : Addr) (m : Str) (sp : Sp) : Prop where
  ex : ∃ (f : Addr) (fd : FuncData) (ps : List Str), Cls K C ∧ Meth K C m f ∧ FnOk P w K mg base CX k f fd ps sp ∧ Binds K fd ps []
structure Mak (P : Program) (w : World) (K : PySem.W.Frag) (mg : Str → Option Value) (base : Heap) (CX : CXT) (k : Nat) (x : Str) (C : Addr) (sp : Sp) : Prop where
  ex : ∃ (f : Addr) (fd : FuncData) (ps : List Str), Mk K C f ∧ FnOk P w K mg base CX k f fd ps sp ∧ mg x = some (.ref C) ∧ Binds K fd ps []
section
variable {X : Cx} {CX : CXT} {E : XK} {k j : Nat} {C : Addr} {x m : Str} {sp : Sp} {p pos apos : Pos} {e o : Expr} {es : List Expr} {ta : TE} {t : TA}
theorem e_call (c : Cal X.prog X.w X.K X.mg X.base CX k x sp) (hr : Room j X.A) (hk : k ≤ j) (hx : Passes CX X E) (hg : Gl X x) (ha : PA X (e :: es) t)
    (hdb : (x == ("__debug__" : Str)) = false := by decide) (he : starEach (e :: es) X.env = (false, eval e X.env) :: starEach es X.env := by rfl) (hpl : (backTo pos (starEach es X.env)).any (·.1) = false := by rfl) :
    PE X (.Call (.Name x p) (e :: es) [] pos) (tCall sp [] E t) := by
  obtain ⟨f, fd, ps, F, hm, kp, b⟩ := c.ex
  exact pe_call F (hr.mono hk) hg hm kp b .nil hx ha hdb he hpl
theorem e_call0 (c : Cal X.prog X.w X.K X.mg X.base CX k x sp) (hr : Room j X.A) (hk : k ≤ j) (hx : Passes CX X E) (hg : Gl X x) (hdb : (x == ("__debug__" : Str)) = false := by decide) :
    PE X (.Call (.Name x p) [] [] pos) (tCall sp [] E tNil) := by
  obtain ⟨f, fd, ps, F, hm, kp, b⟩ := c.ex
  exact pe_call0 F (hr.mono hk) hg hm kp b .nil hx hdb
theorem e_make (c : Mak X.prog X.w X.K X.mg X.base CX k x C sp) (hr : Room j X.A) (hk : k + 1 ≤ j) (hx : Passes CX X E) (hg : Gl X x) (ha : PA X (e :: es) t)
    (hdb : (x == ("__debug__" : Str)) = false := by decide) (he : starEach (e :: es) X.env = (false, eval e X.env) :: starEach es X.env := by rfl) (hpl : (backTo pos (starEach es X.env)).any (·.1) = false := by rfl) :
    PE X (.Call (.Name x p) (e :: es) [] pos) (tMake C sp [] E t) := by
  obtain ⟨f, fd, ps, M, F, hm, b⟩ := c.ex
  exact pe_make M F (hr.mono hk) hg hm b .nil hx ha hdb he hpl
theorem e_make0 (c : Mak X.prog X.w X.K X.mg X.base CX k x C sp) (hr : Room j X.A) (hk : k + 1 ≤ j) (hx : Passes CX X E) (hg : Gl X x) (hdb : (x == ("__debug__" : Str)) = false := by decide) :
    PE X (.Call (.Name x p) [] [] pos) (tMake C sp [] E tNil) := by
  obtain ⟨f, fd, ps, M, F, hm, b⟩ := c.ex
  exact pe_make0 M F (hr.mono hk) hg hm b .nil hx hdb
theorem e_meth {pl : Sem Bool} (c : Met X.prog X.w X.K X.mg X.base CX k C m sp) (hr : Room j X.A) (hk : k ≤ j) (hx : Passes CX X E) (he : PE X o ta) (ha : PA X (e :: es) t)
    (h1 : starEach (e :: es) X.env = (false, eval e X.env) :: starEach es X.env := by rfl) (h2 : (backTo pos (starEach es X.env)).any (·.1) = false := by rfl)
    (h3 : eval (.Call (.Attribute o m apos) (e :: es) [] pos) X.env = (do let ov ← eval o X.env; standAt apos.atName; let (f, first) ← holding [ov] (getMethod ov m pl)
                                                                          callWith pos f first (backTo pos (starEach (e :: es) X.env)) (backToKw pos (keywordEach [] X.env))) := by rfl) :
    PE X (.Call (.Attribute o m apos) (e :: es) [] pos) (tMeth C m sp [] E ta t) := by
  obtain ⟨f, fd, ps, hc, hm, F, b⟩ := c.ex
  exact pe_meth (pl := pl) he hc hm F (hr.mono hk) b .nil hx ha h1 h2 h3
theorem e_meth0 {pl : Sem Bool} (c : Met X.prog X.w X.K X.mg X.base CX k C m sp) (hr : Room j X.A) (hk : k ≤ j) (hx : Passes CX X E) (he : PE X o ta)
    (h3 : eval (.Call (.Attribute o m apos) [] [] pos) X.env = (do let ov ← eval o X.env; standAt apos.atName; let (f, first) ← holding [ov] (getMethod ov m pl)
                                                                   callWith pos f first (backTo pos (starEach [] X.env)) (backToKw pos (keywordEach [] X.env))) := by rfl) :
    PE X (.Call (.Attribute o m apos) [] [] pos) (tMeth C m sp [] E ta tNil) := by
  obtain ⟨f, fd, ps, hc, hm, F, b⟩ := c.ex
  exact pe_meth0 (pl := pl) he hc hm F (hr.mono hk) b .nil hx h3
end
end Hm

/-! F3: readings, one lemma a head. -/
namespace Hm
open PySem L2

/-! ### heaps -/
/-- what stood stands, but for the cells of M -/
def Keep (M : Addr → Prop) (H H' : Hp) : Prop := ∀ a o, ¬ M a → H a = some o → H' a = some o
abbrev Nil : Addr → Prop := fun _ => False
theorem Keep.refl {M : Addr → Prop} {H : Hp} : Keep M H H := fun _ _ _ h => h
theorem Keep.trans {M : Addr → Prop} {H H1 H2 : Hp} (a : Keep M H H1) (b : Keep M H1 H2) : Keep M H H2 := fun c o n h => b c o n (a c o n h)
theorem Keep.mono {M N : Addr → Prop} {H H' : Hp} (k : Keep M H H') (s : ∀ a, M a → N a) : Keep N H H' := fun a o n h => k a o (fun z => n (s a z)) h
theorem Keep.weak {M : Addr → Prop} {H H' : Hp} (k : Keep Nil H H') : Keep M H H' := k.mono fun _ z => z.elim
theorem Keep.new {M : Addr → Prop} {H H' : Hp} {p : Addr} {o : HO} (k : Keep M H H') (hp : H' p = none) : Keep M H (upd H' p o) := fun a u n h => by
  rw [upd_ne (ne_of_none (k a u n h) hp)]; exact k a u n h
theorem Keep.alloc {M : Addr → Prop} {H : Hp} {p : Addr} {o : HO} (hp : H p = none) : Keep M H (upd H p o) := Keep.refl.new hp
theorem Keep.set {M : Addr → Prop} {H H' : Hp} {p : Addr} {o : HO} (k : Keep M H H') (hp : M p) : Keep M H (upd H' p o) := fun a u n h => by
  rw [upd_ne (fun z => n (by rw [z]; exact hp))]; exact k a u n h
/-- a cell that was new at the start may be forgotten -/
theorem Keep.hide {M : Addr → Prop} {H H' : Hp} {l : Addr} (k : Keep (fun a => M a ∨ a = l) H H') (hl : H l = none) : Keep M H H' := fun a o n h =>
  k a o (fun z => z.elim n fun e => by rw [e, hl] at h; cases h) h
theorem Keep.setN {M : Addr → Prop} {H H' : Hp} {p : Addr} {o : HO} (k : Keep M H H') (hp : H p = none) : Keep M H (upd H' p o) := fun a u n h => by
  rw [upd_ne (fun z => by rw [z, hp] at h; cases h)]; exact k a u n h
theorem Keep.get {M : Addr → Prop} {H H' : Hp} {a : Addr} {o : HO} (k : Keep M H H') (n : ¬ M a) (h : H a = some o) : H' a = some o := k a o n h
theorem is_upd {H : Hp} {p a : Addr} {o : HO} {v : Option HO} (e : upd H p o a = v) : upd H p o a = v := e
theorem upd_at {H : Hp} {p : Addr} {o o' : HO} (e : o = o') : upd H p o p = some o' := by rw [upd_same, e]
theorem get_new {H : Hp} {a p : Addr} {o u : HO} (hp : H p = none) (h : H a = some o) : upd H p u a = some o := by rw [upd_ne (ne_of_none h hp)]; exact h
theorem get_set {H : Hp} {a p : Addr} {o u : HO} (n : a ≠ p) (h : H a = some o) : upd H p u a = some o := by rw [upd_ne n]; exact h
theorem get_setK {H : Hp} {a p : Addr} {o u u0 : HO} (hp : H p = some u0) (h : H a = some o) (d : o ≠ u0) : upd H p u a = some o := get_set (ne_of h hp d) h
theorem ne_old {H : Hp} {a p : Addr} {o : HO} (hp : H p = none) (h : H a = some o) : a ≠ p := ne_of_none h hp
theorem ne_new {H : Hp} {a p : Addr} {o : HO} (hp : H p = none) (h : H a = some o) : p ≠ a := (ne_of_none h hp).symm
theorem none_of_upd {H : Hp} {a p : Addr} {o : HO} (h : upd H p o a = none) : H a = none := by
  unfold upd at h; split at h
  · cases h
  · exact h
theorem none_ne {H : Hp} {a p : Addr} {o : HO} (h : upd H p o a = none) : a ≠ p := fun z => by rw [z, upd_same] at h; cases h
theorem none_ne' {H : Hp} {a p : Addr} {o : HO} (h : upd H p o a = none) : p ≠ a := (none_ne h).symm

theorem seq_keep {K : PySem.W.Frag} {H H' : Hp} {a : Addr} {xs : List V} (k : Keep Nil H H') (h : SqL K H a xs) : SqL K H' a xs := Same.seq (fun b o e => k b o (fun z => z) e) h
theorem seq_new {K : PySem.W.Frag} {H : Hp} {a p : Addr} {o : HO} {xs : List V} (hp : H p = none) (h : SqL K H a xs) : SqL K (upd H p o) a xs := seq_keep (Keep.alloc hp) h
theorem keep_none {H H' : Hp} {p : Addr} (k : Keep Nil H H') (h : H' p = none) : H p = none := by
  cases e : H p with
  | none => rfl
  | some o => rw [k p o (fun z => z) e] at h; cases h
section
variable {P : Program} {w : World} {K : PySem.W.Frag} {σ : St} {H : Hp} {Q : VK} {D : Ends} {C : Addr} {E : XK} {sp : Sp} {f m : Str}
variable {t u tb : TS} {te ta td tv : TE} {tt : TT} {tr : TA} {g : TG} {i j : Nat} {v x y : V} {r : R2}

/-! ### constants of the text -/
theorem gint {mg : Str → Option Value} {x : Str} {i : Int} (h : ∃ t, mg x = some (.int i t)) : ∃ u, mg x = some u ∧ RelV (.int i) u := by
  obtain ⟨t, e⟩ := h
  exact ⟨_, e, t, rfl⟩
theorem gstr {mg : Str → Option Value} {x z : Str} (h : ∃ t, mg x = some (.str z t)) : ∃ u, mg x = some u ∧ RelV (.str z) u := by
  obtain ⟨t, e⟩ := h
  exact ⟨_, e, t, rfl⟩
/-! ### statements -/
theorem absQ {S : Hp → Prop} {v : V} (h : S H) (k : ∀ HT, S HT → Q v HT) : Q v H := k H h
theorem absS {S : Hp → Prop} (h : S H) (k : ∀ HT, S HT → t D σ HT) : t D σ H := k H h

theorem absT {S : Hp → Prop} {R : Bool → Hp → Prop} (h : S H) (k : ∀ HT, S HT → tt σ HT R) : tt σ H R := k H h
theorem absE {S : Hp → Prop} (h : S H) (k : ∀ HT, S HT → te σ HT Q) : te σ H Q := k H h
theorem r_seq (h : t { D with nx := u D } σ H) : tSeq t u D σ H := h
theorem r_nx {n b c : L2.St → Hp → Prop} {rt : VK} (h : n σ H) : (Ends.mk n rt b c).nx σ H := h
theorem r_rt {n b c : L2.St → Hp → Prop} {rt : VK} (h : rt v H) : (Ends.mk n rt b c).rt v H := h
theorem r_bk {n b c : L2.St → Hp → Prop} {rt : VK} (h : b σ H) : (Ends.mk n rt b c).bk σ H := h
theorem r_ct {n b c : L2.St → Hp → Prop} {rt : VK} (h : c σ H) : (Ends.mk n rt b c).ct σ H := h
theorem r_next (h : D.nx σ H) : tNext D σ H := h
theorem r_asg (h : te σ H fun x H1 => g x σ H1 D.nx) : tAsg te g D σ H := h
theorem r_gname {Q : St → Hp → Prop} (h : Q (σ.set i (some v)) H) : gName i v σ H Q := h
theorem r_drop (h : te σ H fun _ H1 => D.nx σ H1) : tDrop te D σ H := h
theorem r_ret (h : te σ H D.rt) : tRet te D σ H := h
theorem r_if (h : tt σ H fun b H1 => if b = true then t D σ H1 else u D σ H1) : tIfS tt t u D σ H := h
theorem r_brk (h : D.bk σ H) : tBreak D σ H := h
theorem r_cont (h : D.ct σ H) : tCont D σ H := h
theorem r_par {tas : TA} (h : tas σ H fun vs H1 => ∃ v w, vs = [v, w] ∧ D.nx ((σ.set i (some v)).set j (some w)) H1) : tPar i j tas D σ H := h
theorem r_par2 {v w : V} {R : V → V → Prop} (h : R v w) : ∃ v' w', [v, w] = [v', w'] ∧ R v' w' := ⟨v, w, rfl, h⟩
/-! ### tests -/
def kB (x : V) (R : Bool → Prop) : Prop := ∃ k, x = .bl k ∧ R k
theorem r_test {R : Bool → Hp → Prop} (h : te σ H fun x H' => kB x fun k => R k H') : tTest te σ H R := h
theorem r_kB {b : Bool} {R : Bool → Prop} (h : R b) : kB (.bl b) R := ⟨b, rfl, h⟩
theorem r_and {t1 t2 : TT} {R : Bool → Hp → Prop} (h : t1 σ H fun c H1 => if c = true then t2 σ H1 R else R false H1) : tAnd t1 t2 σ H R := h
theorem r_or {t1 t2 : TT} {R : Bool → Hp → Prop} (h : t1 σ H fun c H1 => if c = true then R true H1 else t2 σ H1 R) : tOr t1 t2 σ H R := h
theorem r_not {t1 : TT} {R : Bool → Hp → Prop} (h : t1 σ H fun c H1 => R (!c) H1) : tNot t1 σ H R := h
theorem r_tru {R : Bool → Hp → Prop} (h : te σ H fun x H' => ∃ k, TruV K x H' k ∧ R k H') : tTru K te σ H R := h
theorem r_tru_bl {b : Bool} {R : Bool → Prop} (h : R b) : ∃ k, TruV K (.bl b) H k ∧ R k := ⟨b, rfl, h⟩
theorem r_ite_tt {A B : Prop} (h : A) : if true = true then A else B := by rw [if_pos rfl]; exact h
theorem r_ite_ff {A B : Prop} (h : B) : if false = true then A else B := by rw [if_neg Bool.false_ne_true]; exact h
theorem r_ite {p A B : Prop} [Decidable p] (h1 : p → A) (h2 : ¬ p → B) : if decide p = true then A else B := by
  by_cases h : p
  · rw [if_pos (decide_eq_true h)]; exact h1 h
  · rw [if_neg (by simp [h])]; exact h2 h
theorem r_iteT' {p A B : Prop} [Decidable p] (c : p) (h : A) : if decide p = true then A else B := by rw [if_pos (decide_eq_true c)]; exact h
theorem r_iteF' {p A B : Prop} [Decidable p] (c : ¬ p) (h : B) : if decide p = true then A else B := by rw [if_neg (by simp [c])]; exact h
theorem r_iteNT' {p A B : Prop} [Decidable p] (c : ¬ p) (h : A) : if (!decide p) = true then A else B := by rw [if_pos (by simp [c])]; exact h
theorem r_iteNF' {p A B : Prop} [Decidable p] (c : p) (h : B) : if (!decide p) = true then A else B := by rw [if_neg (by simp [c])]; exact h
theorem r_ite_nt {A B : Prop} (h : B) : if (!true) = true then A else B := by rw [if_neg (by simp)]; exact h
theorem r_ite_nf {A B : Prop} (h : A) : if (!false) = true then A else B := by rw [if_pos (by simp)]; exact h
theorem r_iteN {p A B : Prop} [Decidable p] (h1 : ¬ p → A) (h2 : p → B) : if (!decide p) = true then A else B := by
  by_cases h : p
  · rw [if_neg (by simp [h])]; exact h2 h
  · rw [if_pos (by simp [h])]; exact h1 h
theorem r_iteB {b : Bool} {A B : Prop} (h1 : b = true → A) (h2 : b = false → B) : if b = true then A else B := by
  cases b
  · exact r_ite_ff (h2 rfl)
  · exact r_ite_tt (h1 rfl)
theorem r_iteNB {b : Bool} {A B : Prop} (h1 : b = false → A) (h2 : b = true → B) : if (!b) = true then A else B := by
  cases b
  · exact r_ite_tt (h1 rfl)
  · exact r_ite_ff (h2 rfl)
theorem r_ite_if {b : Bool} {A B : Prop} (hb : b = true) (h : A) : if b = true then A else B := by rw [if_pos hb]; exact h
theorem r_ite_else {b : Bool} {A B : Prop} (hb : b = false) (h : B) : if b = true then A else B := by rw [hb, if_neg Bool.false_ne_true]; exact h
/-! ### values -/
theorem r_var (h : σ[i]? = some (some v)) (k : Q v H) : tVar i σ H Q := ⟨v, h, k⟩
theorem r_c (k : Q v H) : tC v σ H Q := k
theorem r_op (k : ta σ H fun x H1 => te σ H1 fun y H2 => r x y H2 Q) : tOp r ta te σ H Q := k
theorem r_un {q : V → Hp → VK → Prop} (k : ta σ H fun x H1 => q x H1 Q) : tUn q ta σ H Q := k
theorem r_rU {gI : Int → V} {z : Int} (k : Q (gI z) H) : rU gI (.int z) H Q := ⟨z, rfl, k⟩
theorem r_nil {R : List V → Hp → Prop} (k : R [] H) : tNil σ H R := k
theorem r_cons {R : List V → Hp → Prop} (k : te σ H fun x H1 => tr σ H1 fun xs H2 => R (x :: xs) H2) : tCons te tr σ H R := k
theorem r_cb {q : List V → Hp → VK → Prop} (k : tr σ H fun vs H1 => q vs H1 Q) : tCB q tr σ H Q := k
theorem r_call (k : tr σ H fun vs H1 => sp vs H1 Q E) : tCall sp [] E tr σ H Q := by
  have e : (fun vs H1 => sp (vs ++ []) H1 Q E) = fun vs H1 => sp vs H1 Q E := by funext vs H1; rw [List.append_nil]
  show tr σ H fun vs H1 => sp (vs ++ []) H1 Q E
  rw [e]; exact k
def kMeth (C : Addr) (m : Str) (sp : Sp) (E : XK) (tr : TA) (σ : St) (x : V) (H : Hp) (Q : VK) : Prop := ∃ a dx fs, x = .ref a ∧ H a = some (.ins C dx fs) ∧ fs.lookup m = none ∧ tr σ H fun vs H2 => sp (x :: vs) H2 Q E
theorem r_meth (k : ta σ H fun x H1 => kMeth C m sp E tr σ x H1 Q) : tMeth C m sp [] E ta tr σ H Q := by
  have e : ∀ x, (fun vs H1 => sp (x :: (vs ++ [])) H1 Q E) = fun vs H1 => sp (x :: vs) H1 Q E := fun x => by funext vs H1; rw [List.append_nil]
  show ta σ H fun x H1 => ∃ a dx fs, x = .ref a ∧ H1 a = some (.ins C dx fs) ∧ fs.lookup m = none ∧ tr σ H1 fun vs H2 => sp (x :: (vs ++ [])) H2 Q E
  simp only [e]; exact k
theorem r_kmeth {a dx : Addr} {fs : List (Str × V)} (h : H a = some (.ins C dx fs)) (l : fs.lookup m = none) (k : tr σ H fun vs H2 => sp (.ref a :: vs) H2 Q E) : kMeth C m sp E tr σ (.ref a) H Q := ⟨a, dx, fs, rfl, h, l, k⟩
theorem r_make (k : tr σ H fun vs H1 => ∀ x dx, H1 x = none → H1 dx = none → dx ≠ x → sp (.ref x :: vs) (upd (upd H1 dx (.own x)) x (.ins C dx [])) (fun v H2 => v = .non ∧ Q (.ref x) H2) E) : tMake C sp [] E tr σ H Q := by
  have e : ∀ (x : Addr) (S : VK), (fun vs H1 => sp (.ref x :: (vs ++ [])) H1 S E) = fun vs H1 => sp (.ref x :: vs) H1 S E := fun x S => by funext vs H1; rw [List.append_nil]
  show tr σ H fun vs H1 => ∀ x dx, H1 x = none → H1 dx = none → dx ≠ x → sp (.ref x :: (vs ++ [])) (upd (upd H1 dx (.own x)) x (.ins C dx [])) (fun v H2 => v = .non ∧ Q (.ref x) H2) E
  simp only [List.append_nil]; exact k
def kFld (K : PySem.W.Frag) (f : Str) (x : V) (H : Hp) (Q : VK) : Prop := ∃ a C dx fs v, x = .ref a ∧ H a = some (.ins C dx fs) ∧ Cls K C ∧ NoAttr K C f ∧ fs.lookup f = some v ∧ Q v H
theorem r_fld (k : ta σ H fun x H1 => kFld K f x H1 Q) : tFld K ta f σ H Q := k
theorem r_kfld {a dx : Addr} {fs : List (Str × V)} (h : H a = some (.ins C dx fs)) (c : Cls K C) (n : NoAttr K C f) (l : fs.lookup f = some v) (k : Q v H) : kFld K f (.ref a) H Q := ⟨a, C, dx, fs, v, rfl, h, c, n, l, k⟩
def kSFld (K : PySem.W.Frag) (f : Str) (x y : V) (H : Hp) (R : Hp → Prop) : Prop := ∃ a C dx fs, x = .ref a ∧ H a = some (.ins C dx fs) ∧ Cls K C ∧ NoAttr K C f ∧ fs.length < 1000 ∧ R (upd H a (.ins C dx (putF f y fs)))
theorem r_sfld (k : tv σ H fun y H1 => ta σ H1 fun x H2 => kSFld K f x y H2 fun H3 => D.nx σ H3) : sFld K ta tv f D σ H := k
theorem r_ksfld {a dx : Addr} {fs : List (Str × V)} {R : Hp → Prop} (h : H a = some (.ins C dx fs)) (c : Cls K C) (n : NoAttr K C f) (l : fs.length < 1000) (k : R (upd H a (.ins C dx (putF f y fs)))) : kSFld K f (.ref a) y H R := ⟨a, C, dx, fs, rfl, h, c, n, l, k⟩
def kTup (xs : List V) (H : Hp) (Q : VK) : Prop := xs.length ≤ sizeLine ∧ ∀ p, H p = none → Q (.ref p) (upd H p (.tup xs))
def kLst (xs : List V) (H : Hp) (Q : VK) : Prop := xs.length ≤ sizeLine ∧ ∀ p, H p = none → Q (.ref p) (upd H p (.lst xs))
theorem r_tup (k : tr σ H fun xs H1 => kTup xs H1 Q) : tTup tr σ H Q := k
theorem r_lst (k : tr σ H fun xs H1 => kLst xs H1 Q) : tLst tr σ H Q := k
theorem few {n : Nat} (h : n ≤ 100) : n ≤ sizeLine := by rw [sizeLine_eq]; omega
theorem few1 {n : Nat} (h : n ≤ 100000) : n < sizeLine := by rw [sizeLine_eq]; omega
theorem few2 {n : Nat} (h : n ≤ 100000) : n ≤ sizeLine := by rw [sizeLine_eq]; omega
theorem r_ktup {xs : List V} (l : xs.length ≤ 100) (k : ∀ p, H p = none → Q (.ref p) (upd H p (.tup xs))) : kTup xs H Q := ⟨few l, k⟩
theorem r_klst {xs : List V} (l : xs.length ≤ 100) (k : ∀ p, H p = none → Q (.ref p) (upd H p (.lst xs))) : kLst xs H Q := ⟨few l, k⟩
theorem r_sl {q : V → Option Int → Option Int → Hp → VK → Prop} {tl th : TO} (k : te σ H fun x H1 => tl σ H1 fun l H2 => th σ H2 fun u H3 => q x l u H3 Q) : tSl q te tl th σ H Q := k
theorem r_nopart {R : Option Int → Hp → Prop} (k : R none H) : tNoPart σ H R := k
def kI (x : V) (R : Int → Prop) : Prop := ∃ i, x = .int i ∧ R i
theorem r_part {R : Option Int → Hp → Prop} (k : te σ H fun x H1 => kI x fun i => R (some i) H1) : tPart te σ H R := k
theorem r_kI {z : Int} {R : Int → Prop} (h : R z) : kI (.int z) R := ⟨z, rfl, h⟩
def kBM (K : PySem.W.Frag) (T : String) (q : V → List V → Hp → VK → Prop) (tr : TA) (σ : St) (x : V) (H : Hp) (Q : VK) : Prop := tyV K T x H ∧ tr σ H fun xs H2 => q x xs H2 Q
theorem r_bm {T : String} {q : V → List V → Hp → VK → Prop} (k : ta σ H fun x H1 => kBM K T q tr σ x H1 Q) : tBM K T q ta tr σ H Q := k
theorem r_bm0 {T : String} {q : V → List V → Hp → VK → Prop} (k : ta σ H fun x H1 => kBM K T q tNil σ x H1 Q) : tBM0 K T q ta σ H Q := k
theorem r_kbm_l {q : V → List V → Hp → VK → Prop} {l : Addr} {xs : List V} (h : H l = some (.lst xs)) (k : tr σ H fun xs H2 => q (.ref l) xs H2 Q) : kBM K "list" q tr σ (.ref l) H Q := ⟨.inl ⟨rfl, xs, SqL.of h⟩, k⟩
theorem r_revL {l : Addr} {xs : List V} (k : te σ H fun x H1 => x = .ref l ∧ H1 l = some (.lst xs) ∧ ∀ p, H1 p = none → Q (.ref p) (upd H1 p (.lst xs.reverse))) (mono : ∀ S S' : VK, (∀ x H, S x H → S' x H) → te σ H S → te σ H S') : tRevL K te σ H Q :=
  mono _ _ (fun x H1 h => ⟨l, xs, h.1, SqL.of h.2.1, h.2.2⟩) k
def kRev (K : PySem.W.Frag) (x : V) (H : Hp) (Q : VK) : Prop := ∃ a xs, x = .ref a ∧ SqL K H a xs ∧ ∀ p, H p = none → Q (.ref p) (upd H p (.lst xs.reverse))
theorem r_rev (k : te σ H fun x H1 => kRev K x H1 Q) : tRevL K te σ H Q := k
theorem r_krev {l : Addr} {xs : List V} (h : H l = some (.lst xs)) (k : ∀ p, H p = none → Q (.ref p) (upd H p (.lst xs.reverse))) : kRev K (.ref l) H Q := ⟨l, xs, rfl, SqL.of h, k⟩
def kNotV (x : V) (R : Bool → Prop) : Prop := kB x R
theorem r_notV (k : ta σ H fun x H1 => kB x fun b => Q (.bl (!b)) H1) : tNotV ta σ H Q := k
theorem r_andV (k : ta σ H fun x H1 => kB x fun b => if b = true then te σ H1 Q else Q (.bl false) H1) : tAndV ta te σ H Q := k
theorem r_orV (k : ta σ H fun x H1 => kB x fun b => if b = true then Q (.bl true) H1 else te σ H1 Q) : tOrV ta te σ H Q := k
theorem r_chain {r' : R2} {tc : TE} (k : ta σ H fun x H1 => te σ H1 fun y H2 => r x y H2 fun z H3 => kB z fun b => if b = true then tc σ H3 fun w' H4 => r' y w' H4 Q else Q (.bl false) H3) : tChain r r' ta te tc σ H Q := k
theorem r_gsub {tsv : TSet} {R : St → Hp → Prop} (k : ta σ H fun o H1 => te σ H1 fun i H2 => tsv o i v H2 fun H3 => R σ H3) : gSub ta te tsv v σ H R := k
/-! ### operators by values -/
variable {a b : Int} {l l' p q : Addr} {xs zs : List V}
theorem v_add (k : Q (.int (a + b)) H) : bAdd K (.int a) (.int b) H Q := .inl ⟨a, b, rfl, rfl, k⟩
theorem v_addL (h1 : H l = some (.lst xs)) (h2 : H l' = some (.lst zs)) (n : xs.length + zs.length ≤ sizeLine) (k : ∀ p, H p = none → Q (.ref p) (upd H p (.lst (xs ++ zs)))) : bAdd K (.ref l) (.ref l') H Q := .inr (.inl ⟨l, l', xs, zs, rfl, rfl, h1, h2, n, k⟩)
theorem v_addS {s z : Str} (n : s.length + z.length ≤ sizeLine) (k : Q (.str (s ++ z)) H) : bAdd K (.str s) (.str z) H Q := .inr (.inr (.inl ⟨s, z, rfl, rfl, n, k⟩))
theorem v_addT (h1 : H l = some (.tup xs)) (h2 : H l' = some (.tup zs)) (n : xs.length + zs.length ≤ sizeLine) (k : ∀ p H', H' p = some (.tup (xs ++ zs)) → Keep Nil H H' → Q (.ref p) H') : bAdd K (.ref l) (.ref l') H Q := by
  refine .inr (.inr (.inr ⟨l, l', xs, zs, rfl, rfl, SqT.of h1, SqT.of h2, n, fun e => ?_, fun _ e => ?_, fun _ _ p hp => k p _ upd_same (Keep.alloc hp)⟩))
  · subst e; exact k l' H (by simpa using h2) Keep.refl
  · subst e; exact k l H (by simpa using h1) Keep.refl
theorem v_sub (k : Q (.int (a - b)) H) : bSub (.int a) (.int b) H Q := ⟨a, b, rfl, rfl, k⟩
theorem v_mul (n : -(2 ^ 64) < a ∧ a < 2 ^ 64) (k : Q (.int (a * b)) H) : bMul (.int a) (.int b) H Q := .inl ⟨a, b, rfl, rfl, .inl n, k⟩
theorem v_mulR (n : -(2 ^ 64) < b ∧ b < 2 ^ 64) (k : Q (.int (a * b)) H) : bMul (.int a) (.int b) H Q := .inl ⟨a, b, rfl, rfl, .inr n, k⟩
theorem v_mulW (n : CMulW a b) (k : Q (.int (a * b)) H) : bMul (.int a) (.int b) H Q := .inr (.inl ⟨a, b, rfl, rfl, n, k⟩)
theorem v_mulL (h : H l = some (.lst xs)) (n : -(2 ^ 63) ≤ a ∧ a < 2 ^ 63 ∧ xs.length * a.toNat ≤ sizeLine) (k : ∀ p, H p = none → Q (.ref p) (upd H p (.lst (List.replicate a.toNat xs).flatten))) : bMul (.ref l) (.int a) H Q :=
  .inr (.inr ⟨l, a, xs, rfl, rfl, h, n.1, n.2.1, n.2.2, k⟩)
theorem v_mod (n : 0 < b) (k : Q (.int (a % b)) H) : bMod (.int a) (.int b) H Q := ⟨a, b, rfl, rfl, n, k⟩
theorem v_div (n : 0 < b ∧ b < 1073741824) (k : Q (.int (a / b)) H) : bDiv (.int a) (.int b) H Q := .inl ⟨a, b, rfl, rfl, n, k⟩
theorem v_divW (n : CDivW a b) (k : Q (.int (a / b)) H) : bDiv (.int a) (.int b) H Q := .inr ⟨a, b, rfl, rfl, n, k⟩
theorem v_pow (n : CPow a b) (k : Q (.int (a ^ b.toNat)) H) : bPow (.int a) (.int b) H Q := ⟨a, b, rfl, rfl, n, k⟩
theorem v_eq (k : Q (.bl (decide (a = b))) H) : cEq K (.int a) (.int b) H Q := .inl ⟨rfl, by
  have e : decide (V.int a = V.int b) = decide (a = b) := by
    by_cases h : a = b
    · subst h; simp
    · rw [decide_eq_false h, decide_eq_false (fun z => h (V.int.inj z))]
  rw [e]; exact k⟩
theorem v_eqS {s z : Str} (k : Q (.bl (decide (s = z))) H) : cEq K (.str s) (.str z) H Q := .inl ⟨rfl, by
  have e : decide (V.str s = V.str z) = decide (s = z) := by
    by_cases h : s = z
    · subst h; simp
    · rw [decide_eq_false h, decide_eq_false (fun z => h (V.str.inj z))]
  rw [e]; exact k⟩
theorem v_ne (k : Q (.bl (!decide (a = b))) H) : cNe K (.int a) (.int b) H Q := .inl ⟨rfl, by
  have e : decide (V.int a = V.int b) = decide (a = b) := by
    by_cases h : a = b
    · subst h; simp
    · rw [decide_eq_false h, decide_eq_false (fun z => h (V.int.inj z))]
  rw [e]; exact k⟩
theorem v_neS {s z : Str} (k : Q (.bl (!decide (s = z))) H) : cNe K (.str s) (.str z) H Q := .inl ⟨rfl, by
  have e : decide (V.str s = V.str z) = decide (s = z) := by
    by_cases h : s = z
    · subst h; simp
    · rw [decide_eq_false h, decide_eq_false (fun z => h (V.str.inj z))]
  rw [e]; exact k⟩
theorem v_eqD {d e : PyData} (h1 : Dp K H x d) (h2 : Dp K H y e) (s1 : SeqAt.shaped d = true) (s2 : SeqAt.shaped e = true) (k : Q (.bl (PyData.eqv d e)) H) : cEq K x y H Q := .inr ⟨d, e, h1, h2, s1, s2, k⟩
theorem v_neD {d e : PyData} (h1 : Dp K H x d) (h2 : Dp K H y e) (s1 : SeqAt.shaped d = true) (s2 : SeqAt.shaped e = true) (k : Q (.bl (!PyData.eqv d e)) H) : cNe K x y H Q := .inr ⟨d, e, h1, h2, s1, s2, k⟩
theorem v_lt (k : Q (.bl (decide (a < b))) H) : cLt K (.int a) (.int b) H Q := .inl ⟨a, b, rfl, rfl, k⟩
theorem v_le (k : Q (.bl (decide (a ≤ b))) H) : cLe (.int a) (.int b) H Q := ⟨a, b, rfl, rfl, k⟩
theorem v_gt (k : Q (.bl (decide (b < a))) H) : cGt (.int a) (.int b) H Q := ⟨a, b, rfl, rfl, k⟩
theorem v_ge (k : Q (.bl (decide (b ≤ a))) H) : cGe (.int a) (.int b) H Q := ⟨a, b, rfl, rfl, k⟩
theorem v_isN (k : Q (.bl (decide (x = .non))) H) : cIs x .non H Q := .inl ⟨rfl, k⟩
theorem v_notN (k : Q (.bl (!decide (x = .non))) H) : cIsNot x .non H Q := .inl ⟨rfl, k⟩
theorem v_isB {c d : Bool} (k : Q (.bl (decide (c = d))) H) : cIs (.bl c) (.bl d) H Q := .inr ⟨c, d, rfl, rfl, k⟩
theorem v_notB {c d : Bool} (k : Q (.bl (!decide (c = d))) H) : cIsNot (.bl c) (.bl d) H Q := .inr ⟨c, d, rfl, rfl, k⟩
theorem v_ixL (h : H l = some (.lst xs)) (n : atI xs a = some v) (k : Q v H) : bIx P w K (.ref l) (.int a) H Q := .inl ⟨l, xs, a, v, rfl, rfl, SqL.of h, n, k⟩
theorem v_ixK (h : SqL K H l xs) (n : atI xs a = some v) (k : Q v H) : bIx P w K (.ref l) (.int a) H Q := .inl ⟨l, xs, a, v, rfl, rfl, h, n, k⟩
theorem v_ixT (h : H l = some (.tup xs)) (n : atI xs a = some v) (k : Q v H) : bIx P w K (.ref l) (.int a) H Q := .inr (.inl ⟨l, xs, a, v, rfl, rfl, SqT.of h, n, k⟩)
theorem v_setL {R : Hp → Prop} {jj : Nat} (h : H l = some (.lst xs)) (n : ixN xs.length a = some jj) (k : R (upd H l (.lst (xs.set jj v)))) : bSet P w (.ref l) (.int a) v H R := .inl ⟨l, xs, a, jj, rfl, rfl, h, n, k⟩
theorem v_lenL (h : H l = some (.lst xs)) (k : Q (.int xs.length) H) : kLen K [.ref l] H Q := .inl ⟨.ref l, xs.length, rfl, .inl ⟨xs, SqL.of h, rfl⟩, k⟩
theorem v_lenK (h : SqL K H l xs) (k : Q (.int xs.length) H) : kLen K [.ref l] H Q := .inl ⟨.ref l, xs.length, rfl, .inl ⟨xs, h, rfl⟩, k⟩
theorem v_lenT (h : H l = some (.tup xs)) (k : Q (.int xs.length) H) : kLen K [.ref l] H Q := .inl ⟨.ref l, xs.length, rfl, .inr ⟨xs, SqT.of h, rfl⟩, k⟩
theorem v_int (k : Q (.int a) H) : kInt [.int a] H Q := .inl ⟨a, rfl, k⟩
theorem v_intB {c : Bool} (k : Q (.int (if c then 1 else 0)) H) : kInt [.bl c] H Q := .inr ⟨c, rfl, k⟩
theorem v_max (k : Q (.int (if b > a then b else a)) H) : kMax K [.int a, .int b] H Q := .inl ⟨a, b, rfl, k⟩
theorem v_min (k : Q (.int (if b < a then b else a)) H) : kMin K [.int a, .int b] H Q := .inl ⟨a, b, rfl, k⟩
theorem v_maxL {ns : List Int} (h : H l = some (.lst (ns.map V.int))) (n : 0 < ns.length) (k : ∀ m, m ∈ ns → (∀ y, y ∈ ns → y ≤ m) → Q (.int m) H) : kMax K [.ref l] H Q := .inr ⟨l, ns, rfl, SqL.of h, n, k⟩
theorem v_abs (k : Q (.int (if a < 0 then -a else a)) H) : kAbs [.int a] H Q := ⟨a, rfl, k⟩
theorem v_listL (h : H l = some (.lst xs)) (k : ∀ p, H p = none → Q (.ref p) (upd H p (.lst xs))) : kList K [.ref l] H Q := .inl ⟨l, xs, rfl, .inl (SqL.of h), k⟩
theorem v_listT (h : H l = some (.tup xs)) (k : ∀ p, H p = none → Q (.ref p) (upd H p (.lst xs))) : kList K [.ref l] H Q := .inl ⟨l, xs, rfl, .inr (SqT.of h), k⟩
theorem v_tupleL (h : H l = some (.lst xs)) (k : ∀ p, H p = none → Q (.ref p) (upd H p (.tup xs))) : kTuple K [.ref l] H Q := ⟨l, xs, rfl, .inl ⟨SqL.of h, k⟩⟩
theorem v_sortedL {ns : List Int} (h : H l = some (.lst (ns.map V.int))) (k : ∀ (ns' : List Int) (p : Addr), ns'.Perm ns → ns'.Pairwise (· ≤ ·) → H p = none → Q (.ref p) (upd H p (.lst (ns'.map V.int)))) : kSorted K w [.ref l] H Q := .inl ⟨l, ns, rfl, SqL.of h, k⟩
theorem v_sortedS {S : Int → Bool} {n : Nat} (h : H l = some (SetO w l S n)) (k : ∀ (ns : List Int) (p : Addr), ns.Pairwise (· < ·) → (∀ z : Int, z ∈ ns ↔ S z = true) → ns.length = n → H p = none → Q (.ref p) (upd H p (.lst (ns.map V.int)))) : kSorted K w [.ref l] H Q := .inr (.inl ⟨l, S, n, rfl, h, k⟩)
theorem v_sortedT {ns : List Int} (h : H l = some (.tup (ns.map V.int))) (k : ∀ (ns' : List Int) (p : Addr), ns'.Perm ns → ns'.Pairwise (· ≤ ·) → H p = none → Q (.ref p) (upd H p (.lst (ns'.map V.int)))) : kSorted K w [.ref l] H Q := .inr (.inr (.inl ⟨l, ns, rfl, SqT.of h, k⟩))
theorem v_sortedD {kvs : List (L2.Key × V)} {ks : List Int} (h : H l = some (.dK kvs)) (e : kvs.map (·.1) = ks.map Sum.inl) (k : ∀ (ns' : List Int) (p : Addr), ns'.Perm ks → ns'.Pairwise (· ≤ ·) → H p = none → Q (.ref p) (upd H p (.lst (ns'.map V.int)))) : kSorted K w [.ref l] H Q := .inr (.inr (.inr ⟨l, kvs, ks, rfl, h, e, k⟩))
theorem v_set {ns : List Int} (h : H l = some (.lst (ns.map V.int))) (n : ns.length ≤ 4000) (k : ∀ (p : Addr) (c : Nat), H p = none → c ≤ ns.length → Q (.ref p) (upd H p (SetO w p (fun j => decide (j ∈ ns)) c))) : uSetI K w [.ref l] H Q := ⟨l, ns, rfl, SqL.of h, n, k⟩
theorem v_append (h : H l = some (.lst xs)) (n : xs.length < sizeLine) (k : Q .non (upd H l (.lst (xs ++ [v])))) : rAppend (.ref l) [v] H Q := ⟨l, xs, v, rfl, rfl, h, n, k⟩
theorem v_clear (h : H l = some (.lst xs)) (k : Q .non (upd H l (.lst []))) : rClear (.ref l) [] H Q := ⟨l, xs, rfl, rfl, h, k⟩
theorem v_insert (h : H l = some (.lst xs)) (n : xs.length < sizeLine) (z : 0 ≤ a ∧ a < 2 ^ 63) (k : Q .non (upd H l (.lst (xs.take a.toNat ++ [v] ++ xs.drop a.toNat)))) : kInsert (.ref l) [.int a, v] H Q := ⟨l, xs, a, v, rfl, rfl, h, n, z.1, z.2, k⟩
theorem v_slL {lo hi : Option Int} (h : H l = some (.lst xs)) (k : ∀ p, H p = none → Q (.ref p) (upd H p (.lst (cutV xs lo hi)))) : bSl K (.ref l) lo hi H Q := .inl ⟨l, xs, rfl, SqL.of h, k⟩
theorem v_isi {t u : Value} {c : V} {b : Bool} (c1 : ClsV c u) (c2 : TyX K H x t) (e : PySem.W.kitOne K t u = some b) (k : Q (.bl b) H) : rIsi K [x, c] H Q := ⟨x, c, t, u, b, rfl, c1, c2, e, k⟩
theorem v_isiI {n : String} {b : Bool} (e : kitB "int" n = some b) (k : Q (.bl b) H) : rIsi K [.int a, .ty n] H Q := v_isi (.ty n) (.base (.int _)) (kit_ty e) k
theorem v_isiB {n : String} {c b : Bool} (e : kitB "bool" n = some b) (k : Q (.bl b) H) : rIsi K [.bl c, .ty n] H Q := v_isi (.ty n) (.base (.bl _)) (kit_ty e) k
theorem v_isiL {n : String} {b : Bool} (h : H l = some (.lst xs)) (e : kitB "list" n = some b) (k : Q (.bl b) H) : rIsi K [.ref l, .ty n] H Q := v_isi (.ty n) (.base (.lst h)) (kit_ty e) k
theorem v_isiT {n : String} {b : Bool} (h : H l = some (.tup xs)) (e : kitB "tuple" n = some b) (k : Q (.bl b) H) : rIsi K [.ref l, .ty n] H Q := v_isi (.ty n) (.base (.tup h)) (kit_ty e) k
theorem v_isiS {n : String} {s : Str} {b : Bool} (e : kitB "str" n = some b) (k : Q (.bl b) H) : rIsi K [.str s, .ty n] H Q := v_isi (.ty n) (.base (.str _)) (kit_ty e) k
theorem kit_int_int : kitB "int" "int" = some true := by decide +kernel
theorem kit_int_bool : kitB "int" "bool" = some false := by decide +kernel
theorem kit_int_list : kitB "int" "list" = some false := by decide +kernel
theorem kit_int_tuple : kitB "int" "tuple" = some false := by decide +kernel
theorem kit_int_str : kitB "int" "str" = some false := by decide +kernel
theorem kit_bool_int : kitB "bool" "int" = some true := by decide +kernel
theorem kit_bool_bool : kitB "bool" "bool" = some true := by decide +kernel
theorem kit_bool_list : kitB "bool" "list" = some false := by decide +kernel
theorem kit_bool_tuple : kitB "bool" "tuple" = some false := by decide +kernel
theorem kit_bool_str : kitB "bool" "str" = some false := by decide +kernel
theorem kit_list_int : kitB "list" "int" = some false := by decide +kernel
theorem kit_list_bool : kitB "list" "bool" = some false := by decide +kernel
theorem kit_list_list : kitB "list" "list" = some true := by decide +kernel
theorem kit_list_tuple : kitB "list" "tuple" = some false := by decide +kernel
theorem kit_list_str : kitB "list" "str" = some false := by decide +kernel
theorem kit_tuple_int : kitB "tuple" "int" = some false := by decide +kernel
theorem kit_tuple_bool : kitB "tuple" "bool" = some false := by decide +kernel
theorem kit_tuple_list : kitB "tuple" "list" = some false := by decide +kernel
theorem kit_tuple_tuple : kitB "tuple" "tuple" = some true := by decide +kernel
theorem kit_tuple_str : kitB "tuple" "str" = some false := by decide +kernel
theorem kit_str_int : kitB "str" "int" = some false := by decide +kernel
theorem kit_str_bool : kitB "str" "bool" = some false := by decide +kernel
theorem kit_str_list : kitB "str" "list" = some false := by decide +kernel
theorem kit_str_tuple : kitB "str" "tuple" = some false := by decide +kernel
theorem kit_str_str : kitB "str" "str" = some true := by decide +kernel
theorem kit_NoneType_int : kitB "NoneType" "int" = some false := by decide +kernel
theorem kit_NoneType_bool : kitB "NoneType" "bool" = some false := by decide +kernel
theorem kit_NoneType_list : kitB "NoneType" "list" = some false := by decide +kernel
theorem kit_NoneType_tuple : kitB "NoneType" "tuple" = some false := by decide +kernel
theorem kit_NoneType_str : kitB "NoneType" "str" = some false := by decide +kernel
theorem kit_dict_int : kitB "dict" "int" = some false := by decide +kernel
theorem kit_dict_bool : kitB "dict" "bool" = some false := by decide +kernel
theorem kit_dict_list : kitB "dict" "list" = some false := by decide +kernel
theorem kit_dict_tuple : kitB "dict" "tuple" = some false := by decide +kernel
theorem kit_dict_str : kitB "dict" "str" = some false := by decide +kernel
/-! ### loops -/
def kFor (J : It) (g : TG) (tb : TS) (D : Ends) (σ : St) (H : Hp) : Prop := ∃ W : Nat → Nat → St → Hp → Prop, (∃ m, W 0 m σ H) ∧ ∀ i m σ H, W i m σ H →
  (J.stop i H ∧ D.nx σ H) ∨ (J.go i H ∧ ∃ N : St → Hp → Prop, (∀ σ' H', N σ' H' → ∃ m', m' < m ∧ W (i + 1) m' σ' H') ∧ ∀ x H', J.yld i H x H' → g x σ H' fun σ2 H2 => tb { D with nx := N, ct := N, bk := D.nx } σ2 H2)
theorem r_for {wi : TI} (k : wi σ H fun J H1 => kFor J g tb D σ H1) : tFor wi g tb D σ H := k
def kRng1 (vs : List V) (H : Hp) (R : It → Hp → Prop) : Prop := ∃ j : Int, vs = [.int j] ∧ -(2 ^ 62) ≤ j ∧ j < 2 ^ 62 ∧ R (Itr 0 j.toNat) H
theorem r_rng1 {R : It → Hp → Prop} (k : tr σ H fun vs H1 => kRng1 vs H1 R) : iRng1 tr σ H R := k
theorem r_krng1 {R : It → Hp → Prop} (n : -(2 ^ 62) ≤ a ∧ a < 2 ^ 62) (k : R (Itr 0 a.toNat) H) : kRng1 [.int a] H R := ⟨a, rfl, n.1, n.2, k⟩
theorem r_iany {R : It → Hp → Prop} (k : te σ H fun x H1 => kIter K x H1 R) : iAny K te σ H R := k
theorem r_kiterL {R : It → Hp → Prop} (h : H l = some (.lst xs)) (k : R (Itl K l) H) : kIter K (.ref l) H R := .inl ⟨l, rfl, ⟨xs, SqL.of h⟩, k⟩
theorem r_kiterT {R : It → Hp → Prop} (h : H l = some (.tup xs)) (k : R (Itt K l) H) : kIter K (.ref l) H R := .inr (.inl ⟨l, rfl, ⟨xs, SqT.of h⟩, k⟩)
def kLc (J : It) (g : TG) (tt : TT) (te : TE) (vs : List Nat) (σ : St) (H1 : Hp) (Q : VK) : Prop := ∀ D, H1 D = none → ∃ W : Nat → Nat → Hp → Prop, (∃ m, W 0 m (upd H1 D (.lst []))) ∧ ∀ i m H, W i m H →
  (J.stop i H ∧ Q (.ref D) H) ∨ (J.go i H ∧ ∃ Nx : Hp → Prop, (∀ H', Nx H' → ∃ m', m' < m ∧ W (i + 1) m' H') ∧ ∀ x H', J.yld i H x H' → g x (wipe σ vs) H' fun σ2 H2 => wipe σ2 vs = wipe σ vs ∧ tt σ2 H2 fun b H3 =>
    if b = true then te σ2 H3 fun y H4 => ∃ acc, H4 D = some (.lst acc) ∧ acc.length < sizeLine ∧ Nx (upd H4 D (.lst (acc ++ [y]))) else Nx H3)
theorem r_lc {wi : TI} {vs : List Nat} (k : wi σ H fun J H1 => kLc J g tt te vs σ H1 Q) : tLc wi g tt te vs σ H Q := k
def kRg (x : V) (H : Hp) (R : Int → Int → Hp → Prop) : Prop := ∃ n, x = .int n ∧ R 0 n H
theorem r_lstRg1 (k : te σ H fun x H1 => kRg x H1 fun c d H2 => RgOk c d ∧ ∀ q, H2 q = none → Q (.ref q) (upd H2 q (.lst (rgV c d)))) : tLstRg (tRg1 te) σ H Q := k
theorem r_krg {R : Int → Int → Hp → Prop} (k : R 0 a H) : kRg (.int a) H R := ⟨a, rfl, k⟩
theorem absF {J : It} {S : Hp → Prop} (h : S H) (k : ∀ HT, S HT → kFor J g tb D σ HT) : kFor J g tb D σ H := k H h
theorem r_yes {R : Bool → Hp → Prop} (k : R true H) : tYes σ H R := k
theorem r_seqT {n : Nat} {ts : TGs} {R : St → Hp → Prop} (h : H l = some (.tup xs)) (e : xs.length = n) (k : ts xs σ H R) : gSeq K n ts (.ref l) σ H R := .inl ⟨l, xs, rfl, SqT.of h, e, k⟩
theorem r_seqL {n : Nat} {ts : TGs} {R : St → Hp → Prop} (h : H l = some (.lst xs)) (e : xs.length = n) (k : ts xs σ H R) : gSeq K n ts (.ref l) σ H R := .inr ⟨l, xs, rfl, SqL.of h, e, k⟩
theorem r_gcons {ts : TGs} {R : St → Hp → Prop} (k : g v σ H fun σ' H' => ts xs σ' H' R) : gCons g ts (v :: xs) σ H R := ⟨v, xs, rfl, k⟩
theorem r_gnil {R : St → Hp → Prop} (k : R σ H) : gNil [] σ H R := ⟨rfl, k⟩
end
end Hm

/-! F4: a caught error held as a value behind its suite; isinstance of it. -/
namespace Hm
open PySem PySem.Spec PyProof.Rows L2
/-- an error of the class cls at a -/
def ExV (cls : Value) (a : Addr) : HO := .ext fun h => ∃ (oe : Obj) (vs : Array Value), h.get? a = some oe ∧ Zc cls none oe ∧ oe.data = .fields vs
theorem exV_ok {P : Program} {w : World} {H : Hp} {h : Heap} {a : Addr} {cls : Value} {oe : Obj} {vs : Array Value} (e : h.get? a = some oe) (z : Zc cls none oe) (d : oe.data = .fields vs) : ObjOk P w H h a (ExV cls a) :=
  ⟨⟨oe, vs, e, z, d⟩, ⟨oe, e⟩, fun _ _ ⟨o, v, q, r⟩ k => ⟨o, v, k o q, r⟩⟩
section
variable {X : Cx} {pins : List (Addr × Obj)} {σ : L2.St} {H : Hp} {s : Shared}
/-- an object of ours, not told of yet, is told of -/
theorem show_ {a : Addr} {φ : Heap → Prop} (I : Inv X pins σ H s) (ha : H a = none) (h0 : X.s_0.heap.get? a = none) (hL : X.env.locals ≠ a) (hc : ∀ x c, X.env.cells.lookup x = some c → c ≠ a) (hp : ∀ p ∈ X.pn ++ pins, p.1 ≠ a)
    (new : ObjOk X.prog X.w (upd H a (.ext φ)) s.heap a (.ext φ)) : Inv X pins σ (upd H a (.ext φ)) s := by
  have old : ∀ b o, H b = some o → upd H a (.ext φ) b = some o := fun b o e => by rw [upd_ne (ne_of_none e ha)]; exact e
  refine ⟨I.ok, I.os, I.bare, ⟨I.base.keep, I.base.slot, fun b o e n hx => ?_, I.base.there, fun b xs e => old _ _ (I.base.tups b xs e), fun b o u e => old _ _ (I.base.frzs b o u e), fun b ps e => ?_⟩, I.loc, I.cell, ?_, fun x c e => ?_, fun p hpp => ?_, fun b u e => ?_, I.len⟩
  · rw [upd_ne (fun z => by rw [z, h0] at e; cases e)]
    exact I.base.free b o e n hx
  · obtain ⟨more, q⟩ := I.base.tbls b ps e
    exact ⟨more, old _ _ q⟩
  · rw [upd_ne hL]; exact I.free
  · rw [upd_ne (hc x c e)]; exact I.freeC x c e
  · obtain ⟨q1, q2, q3⟩ := I.pin p hpp
    exact ⟨q1, by rw [upd_ne (hp p hpp)]; exact q2, q3⟩
  · by_cases hb : b = a
    · subst hb
      rw [upd_same] at e
      cases e
      exact new
    · rw [upd_ne hb] at e
      exact (I.hok b u e).stay (fun _ _ _ q => q) (fun c q => old _ _ q) fun c xs q => old _ _ q
end
/-- what a clause «except c as n» wishes, the error kept: slot i is n's -/
def wVal (K : PySem.W.Frag) (c : Value) (i : Nat) (ts : Addr → Value → TS) (Wout : WX) (D : Ends) : WX := fun cls d σ H =>
  d = none ∧ ∃ b, PySem.W.exmOne K cls c = some b ∧
    (b = true → ∀ a, H a = none → ts a cls { nx := fun σ' H' => D.nx (σ'.set i none) (upd H' a (ExV cls a)), rt := D.rt, bk := fun _ _ => False, ct := fun _ _ => False } (σ.set i (some (.ref a))) H) ∧ (b = false → Wout cls d σ H)
section
variable {X : Cx} {x n : Str} {c : Value} {i : Nat} {body suite : List Stmt} {b₀ : Stmt} {np pos pos' : Pos} {tb : WX → TS} {ts : Addr → Value → TS} {Wout : WX}
/-- try: body, except x as n: suite; what is caught stays an object that is known -/
theorem ps_try_val (hs : X.stack = X.env :: X.outer) (hf : X.env.frame = some X.env.locals) (hN : X.N.Nodup) (hi : X.N[i]? = some n) (hln : X.env.kindOf n = some .local) (hc : Names X x c) (tk : Takes X Wout) (hex : X.ex = [])
    (hb : ∀ (W : WX) (pn : List (Addr × Obj)) (xe : Value → Shared → Prop), Takes (X.tr pn xe) W → PassesOwn (model X.prog X.w) X.A X.env xe → PSs (X.tr pn xe) body (tb W))
    (hsu : ∀ (a : Addr) (oe : Obj) (cls : Value) (pn : List (Addr × Obj)), PSs (X.suite a ((a, oe) :: pn)) (b₀ :: suite) (ts a cls)) :
    PS X (.Try body [.ExceptHandler (some (.Name x np)) (some n) (b₀ :: suite) pos'] [] [] pos) (fun D σ H => tb (wVal X.K c i ts Wout D) D σ H) := by
  refine ⟨fun pins s σ H D I h => wpAny_Try_except ?_⟩
  have ok := I.ok
  have hfr : X.A.frames = some (X.env :: X.outer) := by rw [ok.frames, hs]
  have run := (hb (wVal X.K c i ts Wout D) (X.pn ++ pins) (fun e s₁ => wpAny (model X.prog X.w) X.A (noteFrame e X.env) (fun _ s₂ => wpAny (model X.prog X.w) X.A (setFlight e none)
    (fun _ s₃ => wpAny (model X.prog X.w) X.A (handleBy e X.env [.ExceptHandler (some (.Name x np)) (some n) (b₀ :: suite) pos']) (SP X pins D) X.xe s₃) X.xe s₂) X.xe s₁) ?_ PassesOwn.looking).run [] s σ H D (I.toTry _) h
  · refine wpAny_mono run (fun f s1 hsp => ?_) fun _ _ z => z
    cases f with
    | next => obtain ⟨σ', H', J', q⟩ := hsp; exact wpAny_execs_nil ⟨σ', H', J'.ofTry ok, q⟩
    | brk => obtain ⟨σ', H', J', q⟩ := hsp; exact ⟨σ', H', J'.ofTry ok, q⟩
    | cont => obtain ⟨σ', H', J', q⟩ := hsp; exact ⟨σ', H', J'.ofTry ok, q⟩
    | ret u => obtain ⟨v, σ', H', J', r, q⟩ := hsp; exact ⟨v, σ', H', J'.ofTry ok, r, q⟩
  rintro u s' ⟨a, B, sI, pins', σ', H', cls, d, rfl, J', nb, up, sky, na, os, ag, rfl, b, hb1, hyes, hno⟩
  have J : Inv X pins σ' H' sI := J'.ofTry ok
  have air : Sky B (X.env :: X.outer) a (Zc cls none) X.env.locals s'.heap := by rw [← hs]; exact sky
  show wpAny (model X.prog X.w) X.A (noteFrame (.ref a) X.env) _ _ _
  refine Sky.land Zc.steady hfr hf air fun h3 fl3 up3 => ?_
  have J3 : Inv X pins σ' H' { s' with heap := h3 } := J.landed nb fl3.1 (up.trans up3) os ag
  obtain ⟨oe3, vs3, he3, hz3, hd3⟩ := fl3.there
  have aside : a ∉ frs (X.env :: X.outer) := fun hm => by
    obtain ⟨_, o', e', hnf⟩ := fl3.2.2.1.mem hm
    rw [he3] at e'; cases e'
    exact hnf _ hd3
  have gI : sI.heap.get? a = none := by
    cases e : sI.heap.get? a with
    | none => rfl
    | some o =>
      have q := nb a o e (by show a ∉ frs X.stack; rw [hs]; exact aside)
      rw [fl3.2.1] at q; cases q
  have nL : a ≠ X.env.locals := fun z => aside (List.mem_filterMap.mpr ⟨X.env, List.mem_cons_self, by rw [hf, z]⟩)
  have nF : a ∉ X.fs := fun hm => by
    obtain ⟨e, he, q⟩ := List.mem_filterMap.mp hm
    exact aside (List.mem_filterMap.mpr ⟨e, List.mem_cons_of_mem _ he, q⟩)
  have h00 : X.s_0.heap.get? a = none := by
    cases e : X.s_0.heap.get? a with
    | none => rfl
    | some o =>
      obtain ⟨o', q⟩ := J.base.there a o e (by rw [hex]; exact List.not_mem_nil)
      rw [gI] at q; cases q
  have noCell : ∀ y k, X.env.cells.lookup y = some k → k ≠ a := fun y k e z => by
    obtain ⟨v, o, q, _⟩ := J.cell y k e
    rw [z, gI] at q; cases q
  have noPin : ∀ p ∈ X.pn ++ pins, p.1 ≠ a := fun p hp z => by
    have q := (J.pin p hp).1
    rw [z, gI] at q; cases q
  have S3 := J3.suite he3 hd3 na nL nF
  refine wpAny_handleBy_cons (codeAny_handlers_test ?_) (by intro q; cases q)
  have LT : PySem.W.Looks (model X.prog X.w) h3 (typeOf (.ref a)) cls := fun A Q E s k q => wpAny_typeOf_ref (k _ _ he3) (by rw [hz3.1]; exact q)
  have LM := PySem.W.exm_one (M := model X.prog X.w) (J3.kIn) LT hb1
  have test : ∀ {Q : Value → Shared → Prop} {E : Value → Shared → Prop}, Q c { s' with heap := h3 } → wpAny (model X.prog X.w) (X.A.mark (some (.ref a))) (eval (.Name x np) X.env) Q E { s' with heap := h3 } := fun {Q E} q => by
    obtain ⟨hg, hdbg, hm | ⟨hm, hv, hnn⟩⟩ := hc
    · exact ld_glob (X := X.suite a ((a, oe3) :: (X.pn ++ pins))) S3 hg hm q hdbg
    · exact ld_blt (X := X.suite a ((a, oe3) :: (X.pn ++ pins))) S3 hg hm hv q hnn hdbg
  refine test (LM.here ?_)
  cases b with
  | false =>
    show wpAny _ X.A (handleBy (.ref a) X.env []) _ _ _
    refine wpAny_handleBy_nil ?_
    obtain ⟨k1, k2, k3, oe, vs, T, oT, ts', he, hz, hd, h1, hr⟩ := id fl3
    unfold PySem.passOn
    refine wpAny_bind (wpAny_field he hd h1 ?_)
    rw [if_neg (show ¬ ((Value.ref T == Value.none) = true) from by simp)]
    have fin : wpAny (model X.prog X.w) X.A (setFlight (.ref a) X.env.frame) (fun _ s4 => wpAny (model X.prog X.w) X.A (throw (.ref a) : Sem Flow) (SP X pins D) X.xe s4) X.xe { s' with heap := h3 } := by
      rw [hf]
      refine HandSPX.setFlight_upZ fl3 fun h4 hh4 up4 => wpAny_throw (tk _ _ ?_)
      exact ⟨a, B, sI, pins, σ', H', cls, none, rfl, J, nb, (up.trans up3).trans up4, .inr (.inr (by rw [hs]; exact hh4)), na, os, ag, hno rfl⟩
    first
      | exact wpAny_bind (wpAny_pure (wpAny_bind fin))
      | exact wpAny_bind fin
  | true =>
    refine codeAny_handlers_suite_as (HandSPX.lands_againZ fl3 fun h4 fl4 up4 => ?_)
    have J4 : Inv X pins σ' H' { s' with heap := h4 } := J.landed nb fl4.1 ((up.trans up3).trans up4) os ag
    obtain ⟨oe4, vs4, he4, hz4, hd4⟩ := fl4.there
    have S4 := J4.suite he4 hd4 na nL nF
    refine store_ok (X := X.suite a ((a, oe4) :: (X.pn ++ pins))) (v := .ref a) S4 hN hi (.inl hln) rfl (fun s5 S5 => ?_) (.inr hln)
    refine wpAny_mono ((hsu a oe4 cls (X.pn ++ pins)).run [] s5 _ H' _ S5 (hyes rfl a na)) (fun f s6 hsp => ?_) (fun _ _ z => False.elim z)
    cases f with
    | next =>
      obtain ⟨σ6, H6, S6, q6⟩ := hsp
      obtain ⟨e6, n6, _⟩ := S6.pin (a, oe4) (List.mem_append_left _ List.mem_cons_self)
      have J6 : Inv X pins σ6 H6 s6 := S6.unsuite ok
      have J7 := show_ (φ := fun h => ∃ (oe : Obj) (vs : Array Value), h.get? a = some oe ∧ Zc cls none oe ∧ oe.data = .fields vs) J6 n6 h00 nL.symm noCell noPin (exV_ok e6 hz4 hd4)
      exact gone_ok J7 hN hi hln fun s7 J8 => ⟨_, _, J8, q6⟩
    | brk => obtain ⟨σ6, H6, S6, q6⟩ := hsp; exact q6.elim
    | cont => obtain ⟨σ6, H6, S6, q6⟩ := hsp; exact q6.elim
    | ret u =>
      obtain ⟨v6, σ6, H6, S6, r6, q6⟩ := hsp
      exact gone_ok (S6.unsuite ok) hN hi hln fun s7 J7 => ⟨_, _, _, J7, r6, q6⟩
end
/-- isinstance(e, C), e an error that is known -/
def uIsV (K : PySem.W.Frag) : List V → Hp → VK → Prop := fun xs H Q => ∃ (a D : Addr) (c : V) (u : Value) (b : Bool), xs = [.ref a, c] ∧ H a = some (ExV (.ref D) a) ∧ ExcC K D ∧ ClsV c u ∧ PySem.W.kitOne K (.ref D) u = some b ∧ Q (.bl b) H
theorem k_isV {X : Cx} : CallR X (.builtin "isinstance") (uIsV X.K) := by
  intro pins s σ H xs us Q I r h
  obtain ⟨a, D, c, u, b, rfl, ha, C, hc, e, q⟩ := h
  obtain ⟨u1, u2, rfl, r1, r2⟩ := vals2 r
  have e2 := hc.eq r2
  subst e2
  cases r1
  obtain ⟨⟨oe, vs, hg, hz, hv⟩, _⟩ := I.hok a _ ha
  have J : PySem.W.InstAt s.heap a oe D none := by
    obtain ⟨oc, od, oda, osl⟩ := oe
    obtain ⟨h1, h2⟩ := hz
    dsimp only at h1 h2 hv
    subst h1 h2 hv
    exact ⟨hg, rfl, rfl, trivial⟩
  exact PySem.W.kia_one (PySem.W.handS_kitx_exc C.hg C.hk C.hs C.hd C.ha C.hn C.ht C.hm) I.kIn J e (fun z => nomatch z) fun tk => ⟨.bl b, H, I.tok tk, rfl, q⟩
/-! ### defs that raise, called within a try -/
section
variable {X : Cx} {k j : Nat} {C : Addr} {x m : Str} {sp : Sp} {p pos apos : Pos} {e o : Expr} {es : List Expr} {ta : TE} {t : TA} {W : WX}
def tMethS (C : Addr) (m : Str) (sp : Sp) (W : WX) (ta : TE) (t : TA) : TE := fun σ H Q => tMeth C m sp [] (fun cls d H => W cls d σ H) ta t σ H Q
theorem r_methS {σ : L2.St} {H : Hp} {Q : VK} (h : tMeth C m sp [] (fun cls d H => W cls d σ H) ta t σ H Q) : tMethS C m sp W ta t σ H Q := h
def tCallW (sp : Sp) (W : WX) (t : TA) : TE := fun σ H Q => tCall sp [] (fun cls d H => W cls d σ H) t σ H Q
theorem r_callW {σ : L2.St} {H : Hp} {Q : VK} (h : tCall sp [] (fun cls d H => W cls d σ H) t σ H Q) : tCallW sp W t σ H Q := h
theorem e_callS (c : Cal X.prog X.w X.K X.mg X.base (L2.CX X.prog X.w) k x sp) (hr : Room j X.A) (hk : k ≤ j) (tk : Takes X W) (hg : Gl X x) (ha : PA X (e :: es) t)
    (hdb : (x == ("__debug__" : Str)) = false := by decide) (he : starEach (e :: es) X.env = (false, eval e X.env) :: starEach es X.env := by rfl) (hpl : (backTo pos (starEach es X.env)).any (·.1) = false := by rfl) :
    PE X (.Call (.Name x p) (e :: es) [] pos) (tCallW sp W t) := by
  obtain ⟨f, fd, ps, F, hm, kp, b⟩ := c.ex
  refine ⟨fun pins s σ H Q I h => ?_⟩
  refine (pe_callS (E := WE W) F (hr.mono hk) hg hm kp b (fun σ => passAt tk σ) ha hdb he hpl).run pins s σ H Q I ?_
  have h' : t σ H fun vs H1 => sp (vs ++ []) H1 Q (fun cls d H => W cls d σ H) := h
  show t σ H fun vs H1 => sp vs H1 Q (fun cls d H => W cls d σ H)
  simpa only [List.append_nil] using h'
theorem e_methS {pl : Sem Bool} (c : Met X.prog X.w X.K X.mg X.base (L2.CX X.prog X.w) k C m sp) (hr : Room j X.A) (hk : k ≤ j) (tk : Takes X W) (he : PE X o ta) (ha : PA X (e :: es) t)
    (h1 : starEach (e :: es) X.env = (false, eval e X.env) :: starEach es X.env := by rfl) (h2 : (backTo pos (starEach es X.env)).any (·.1) = false := by rfl)
    (h3 : eval (.Call (.Attribute o m apos) (e :: es) [] pos) X.env = (do let ov ← eval o X.env; standAt apos.atName; let (f, first) ← holding [ov] (getMethod ov m pl)
                                                                          callWith pos f first (backTo pos (starEach (e :: es) X.env)) (backToKw pos (keywordEach [] X.env))) := by rfl) :
    PE X (.Call (.Attribute o m apos) (e :: es) [] pos) (tMethS C m sp W ta t) := by
  obtain ⟨f, fd, ps, hc, hm, F, b⟩ := c.ex
  refine ⟨fun pins s σ H Q I h => PySem.W.methodCall_KW (pl := pl) (thn (he.run pins s σ H _ I h) fun u s1 ⟨y, H1, I1, rx, a, dx, fs, ey, ea, l, q⟩ => ?_) h3⟩
  subst ey
  obtain rfl : u = Value.ref a := rx
  refine getmeth_ok I1 ea hc hm l (PySem.W.callWith_K (first := [.ref a]) (h₀ := X.base) I.ok.mod.kin hm.kp (thn (ha.run pos pins s1 σ H1 _ I1 q) fun us s2 ⟨vs, H2, I2, r, q2⟩ => ⟨I2.kIn, ?_⟩) h1 h2)
  refine run_fnS (E := WE W) (us := .ref a :: us) (vs := .ref a :: vs) F (hr.mono hk) b (fun _ _ _ e s' I c => tk e s' (XE.of_call I (fun _ _ _ h => h) c)) I2 (.cons rfl r) ?_
  have q' : sp (.ref a :: vs ++ []) H2 Q (fun cls d H => W cls d σ H) := q2
  simpa only [List.append_nil] using q'
end
/-! ### raise -/
def tRaiseC (C : Addr) (W : WX) : TS := fun _ σ H => W (.ref C) none σ H
def tRaiseE (C : Addr) (W : WX) (te : TE) : TS := fun _ σ H => te σ H fun _ H1 => W (.ref C) none σ H1
theorem r_raiseC {C : Addr} {W : WX} {D : Ends} {σ : L2.St} {H : Hp} (h : W (.ref C) none σ H) : tRaiseC C W D σ H := h
theorem r_raiseE {C : Addr} {W : WX} {te : TE} {D : Ends} {σ : L2.St} {H : Hp} (h : te σ H fun _ H1 => W (.ref C) none σ H1) : tRaiseE C W te D σ H := h
/-- what stands of a refusal's class -/
structure XCl (K : PySem.W.Frag) (mg : Str → Option Value) (x : Str) (C : Addr) : Prop where
  g : mg x = some (.ref C)
  x : PySem.W.excIn K C [.type "ValueError", .type "Exception", .type "BaseException", .type "object"] "ValueError.__new__" = true
  k : PySem.W.keepIn K (.ref C) = true
  b : PySem.W.subIn K (.ref C) (.type "BaseException") = some true
  t : PySem.W.typeIn K (.ref C) = some (.type "type")
section
variable {X : Cx} {C : Addr} {x m : Str} {p p2 pos pos' : Pos} {jj : Nat} {e : Expr} {ta : TE} {W : WX}
theorem ps_raiseC (hc : X.calm = true) (tk : Takes X W) (c : XCl X.K X.mg x C) (hg : Gl X x) (hdb : (x == ("__debug__" : Str)) = false := by decide) : PS X (.Raise (some (.Call (.Name x p) [.Constant (.str m) jj p2] [] pos)) none pos') (tRaiseC C W) :=
  ps_raise hc tk (pmk_own PySem.F.excBase_ValueError c.x c.g c.k (raises_own c.b c.t) hg hdb)
theorem ps_raiseE (hc : X.calm = true) (tk : Takes X W) (c : XCl X.K X.mg x C) (hg : Gl X x) (he : PE X e ta) (hs : starEach [e] X.env = (false, eval e X.env) :: starEach [] X.env := by rfl) (hdb : (x == ("__debug__" : Str)) = false := by decide) :
    PS X (.Raise (some (.Call (.Name x p) [e] [] pos)) none pos') (tRaiseE C W ta) :=
  ps_raise hc tk (SkE.pmk_own1 PySem.F.excBase_ValueError c.x c.g c.k (raises_own c.b c.t) hg he hs hdb)
end
/-! ### try -/
def tTryV (K : PySem.W.Frag) (c : Value) (i : Nat) (ts : TS) (tb : WX → TS) : TS := fun D σ H => tb (wVal K c i (fun _ _ => ts) (fun _ _ _ _ => False) D) D σ H
theorem r_tryV {K : PySem.W.Frag} {c : Value} {i : Nat} {ts : TS} {tb : WX → TS} {D : Ends} {σ : L2.St} {H : Hp} (h : tb (wVal K c i (fun _ _ => ts) (fun _ _ _ _ => False) D) D σ H) : tTryV K c i ts tb D σ H := h
theorem w_val {K : PySem.W.Frag} {c cls : Value} {i : Nat} {ts : TS} {D : Ends} {σ : L2.St} {H : Hp} (hm : PySem.W.exmOne K cls c = some true)
    (h : ∀ a, H a = none → ts { nx := fun σ' H' => D.nx (σ'.set i none) (upd H' a (ExV cls a)), rt := D.rt, bk := fun _ _ => False, ct := fun _ _ => False } (σ.set i (some (.ref a))) H) : wVal K c i (fun _ _ => ts) (fun _ _ _ _ => False) D cls none σ H :=
  ⟨rfl, true, hm, fun _ a ha => h a ha, fun z => nomatch z⟩
section
variable {X : Cx} {x n : Str} {c : Value} {i : Nat} {body suite : List Stmt} {b₀ : Stmt} {np pos pos' : Pos} {tb : WX → TS} {ts : TS}
theorem ps_tryV (hs : X.stack = X.env :: X.outer) (hf : X.env.frame = some X.env.locals) (hN : X.N.Nodup) (hi : X.N[i]? = some n) (hln : X.env.kindOf n = some .local) (hc : Names X x c) (hex : X.ex = [])
    (hb : ∀ (W : WX) (pn : List (Addr × Obj)) (xe : Value → Shared → Prop), Takes (X.tr pn xe) W → PassesOwn (model X.prog X.w) X.A X.env xe → PSs (X.tr pn xe) body (tb W))
    (hsu : ∀ (a : Addr) (oe : Obj) (pn : List (Addr × Obj)), PSs (X.suite a ((a, oe) :: pn)) (b₀ :: suite) ts) :
    PS X (.Try body [.ExceptHandler (some (.Name x np)) (some n) (b₀ :: suite) pos'] [] [] pos) (tTryV X.K c i ts tb) :=
  ps_try_val (tb := tb) (ts := fun _ _ => ts) hs hf hN hi hln hc takes0 hex (fun W pn xe tk po => hb W pn xe tk po) fun a oe _ pn => hsu a oe pn
end
theorem v_isiN {K : PySem.W.Frag} {H : Hp} {Q : VK} {n : String} {b : Bool} (e : kitB "NoneType" n = some b) (k : Q (.bl b) H) : rIsi K [.non, .ty n] H Q := v_isi (.ty n) (.base .non) (kit_ty e) k
theorem v_isV {K : PySem.W.Frag} {a D : Addr} {c : V} {u : Value} {b : Bool} {H : Hp} {Q : VK} (h : H a = some (ExV (.ref D) a)) (d : ExcC K D) (hc : ClsV c u) (e : PySem.W.kitOne K (.ref D) u = some b) (q : Q (.bl b) H) : uIsV K [.ref a, c] H Q := ⟨a, D, c, u, b, rfl, h, d, hc, e, q⟩
/-! ### list(d.values()), xs.remove(k) -/
/-- a view of the values of the dict at a -/
def ValO (a p : Addr) : HO := .ext fun h => h.IsValuesView p a
def rDVals : V → List V → Hp → VK → Prop := fun x xs H Q => ∃ (a : Addr) (kvs : List (L2.Key × V)), x = .ref a ∧ xs = [] ∧ H a = some (.dK kvs) ∧ ∀ p, H p = none → Q (.ref p) (upd H p (ValO a p))
def rListV : List V → Hp → VK → Prop := fun xs H Q => ∃ (a p : Addr) (kvs : List (L2.Key × V)), xs = [.ref p] ∧ H p = some (ValO a p) ∧ H a = some (.dK kvs) ∧ ∀ q, H q = none → Q (.ref q) (upd H q (.lst (kvs.map (·.2))))
section
variable {X : Cx}
theorem mt_dvals : MtR X "dict.values" rDVals := by
  intro pins s σ H x xs v us Q I rx r h
  obtain ⟨a, kvs, rfl, rfl, ha, q⟩ := h
  obtain rfl : v = Value.ref a := rx
  cases r
  obtain ⟨_, hsys, vs, rel, dof⟩ := dk_of I.hok ha
  obtain ⟨ep, dat⟩ := dof.dictAt
  obtain ⟨ob, es, ho, ex, hdat, hko, hpr, hnd⟩ := id dat
  refine call_meetsIn F.slot_dict_values ⟨ob, ho, ex.1⟩ F.entry_dict_values (F.args_dict_values_1 _) (meets_dict_values (mixKind X.prog X.w) a hsys) ⟨⟨vs, dof⟩, ?_⟩
  exact ⟨.ref s.heap.objs.size, upd H s.heap.objs.size (ValO a s.heap.objs.size), I.laid (t' := s.toks) (fun b u e => Heap.get?_push_of_some _ e) (Nat.le_refl _) ⟨⟨_, Heap.get?_push_size _ rfl, rfl, rfl⟩, ⟨_, Heap.get?_push_size _ rfl⟩, fun _ _ ⟨o, e, z⟩ k => ⟨o, k o e, z⟩⟩, rfl, q _ (I.hok.fresh (Nat.le_refl _))⟩
theorem k_listV (hc : X.calm = true) : CallR X (.type "list") rListV := by
  intro pins s σ H xs us Q I r h
  obtain ⟨a, p, kvs, rfl, hp, ha, q⟩ := h
  obtain ⟨u, rfl, rx⟩ := vals1 r
  obtain rfl : u = Value.ref p := rx
  obtain ⟨view, _⟩ := I.hok p _ hp
  obtain ⟨z, hsys, vs, rel, dof⟩ := dk_of I.hok ha
  obtain ⟨ep, dat⟩ := dof.dictAt
  have hl : kvs.length = vs.length := KV.length rel
  refine PySem.W.kdl_call (PySem.W.kdl_values (knd := mixKind X.prog X.w) (kvs := vs) (ep := ep)) (I.ok.hd hc) ⟨view, dat⟩ (by rw [← hl]; exact z) fun h' tk acc' c' hkeep hS hacc => ?_
  refine ⟨.ref s.heap.objs.size, upd H s.heap.objs.size (.lst (kvs.map (·.2))), I.laid (t' := tk) hkeep (Nat.le_refl _) (show ObjOk X.prog X.w _ _ _ (.lst (kvs.map (·.2))) from ⟨by rw [List.length_map]; exact z, acc'.toList, c', ?_, by rw [Array.toArray_toList]; exact hS⟩), rfl, q _ (I.hok.fresh (Nat.le_refl _))⟩
  have el : acc'.toList.length = acc'.size := by simp
  refine vals_of_at (by rw [List.length_map, el, hacc.1, hl]) fun j x w h1 h2 => ?_
  obtain ⟨k, hk⟩ := hacc.2 j w (by rw [← Array.getElem?_toList]; exact h2)
  obtain ⟨x', e1, e2⟩ := KV.at' rel hk
  rw [List.getElem?_map, e1] at h1
  cases h1
  exact e2
end
theorem v_dvals {a : Addr} {kvs : List (L2.Key × V)} {H : Hp} {Q : VK} (h : H a = some (.dK kvs)) (k : ∀ p, H p = none → Q (.ref p) (upd H p (ValO a p))) : rDVals (.ref a) [] H Q := ⟨a, kvs, rfl, rfl, h, k⟩
theorem r_dvals {K : PySem.W.Frag} {a : Addr} {kvs : List (L2.Key × V)} {H : Hp} {Q : VK} {σ : L2.St} (h : H a = some (.dK kvs)) (k : ∀ p, H p = none → Q (.ref p) (upd H p (ValO a p))) : kBM K "dict" rDVals tNil σ (.ref a) H Q := ⟨.inr (.inr (.inl ⟨rfl, .inl ⟨kvs, h⟩⟩)), v_dvals h k⟩
theorem v_listV {a p : Addr} {kvs : List (L2.Key × V)} {H : Hp} {Q : VK} (h : H p = some (ValO a p)) (h2 : H a = some (.dK kvs)) (k : ∀ q, H q = none → Q (.ref q) (upd H q (.lst (kvs.map (·.2))))) : rListV [.ref p] H Q := ⟨a, p, kvs, rfl, h, h2, k⟩
theorem r_remX {K : PySem.W.Frag} {W : WX} {to te : TE} {σ : L2.St} {H : Hp} {Q : VK} (h : to σ H fun x H1 => tyV K "list" x H1 ∧ te σ H1 fun y H2 => ∃ (l : Addr) (ns : List Int) (k : Int), x = .ref l ∧ y = .int k ∧ H2 l = some (.lst (ns.map V.int)) ∧
  (k ∈ ns → Q .non (upd H2 l (.lst ((ns.erase k).map V.int)))) ∧ (k ∉ ns → ∀ d, W (.type "ValueError") d σ H2)) : tRemX K W to te σ H Q := h
end Hm

/-! F5: values. Rp W H v d: v is the data d, all its objects outside of W. -/
namespace Hm
open PySem PySem.Spec PyProof.Rows L2
mutual
inductive Rp (W : Addr → Prop) (H : Hp) : V → PyData → Prop
  | non : Rp W H .non .none
  | bl (b : Bool) : Rp W H (.bl b) (.bool b)
  | int (i : Int) : Rp W H (.int i) (.int i)
  | str (x : Str) : Rp W H (.str x) (.str x)
  | lst {a : Addr} {xs : List V} {ds : List PyData} : H a = some (.lst xs) → ¬ W a → RpA W H xs ds → Rp W H (.ref a) (.list ds)
  | tup {a : Addr} {xs : List V} {ds : List PyData} : H a = some (.tup xs) → ¬ W a → RpA W H xs ds → Rp W H (.ref a) (.tuple ds)
inductive RpA (W : Addr → Prop) (H : Hp) : List V → List PyData → Prop
  | nil : RpA W H [] []
  | cons {v : V} {vs : List V} {d : PyData} {ds : List PyData} : Rp W H v d → RpA W H vs ds → RpA W H (v :: vs) (d :: ds)
end
section
variable {W W' : Addr → Prop} {H H' : Hp} {K : PySem.W.Frag}
mutual
theorem Rp.move (f : ∀ a o, ¬ W a → H a = some o → H' a = some o ∧ ¬ W' a) : ∀ (d : PyData) (v : V), Rp W H v d → Rp W' H' v d
  | .none, _, h => by cases h; exact .non
  | .bool b, _, h => by cases h; exact .bl b
  | .int i, _, h => by cases h; exact .int i
  | .str x, _, h => by cases h; exact .str x
  | .list ds, _, h => by
    cases h with
    | lst e n r => exact .lst (f _ _ n e).1 (f _ _ n e).2 (RpA.move f ds _ r)
  | .tuple ds, _, h => by
    cases h with
    | tup e n r => exact .tup (f _ _ n e).1 (f _ _ n e).2 (RpA.move f ds _ r)
  | .dict _, _, h => by cases h
theorem RpA.move (f : ∀ a o, ¬ W a → H a = some o → H' a = some o ∧ ¬ W' a) : ∀ (ds : List PyData) (vs : List V), RpA W H vs ds → RpA W' H' vs ds
  | [], _, h => by cases h; exact .nil
  | d :: ds, _, h => by
    cases h with
    | cons r s => exact .cons (Rp.move f d _ r) (RpA.move f ds _ s)
end
mutual
theorem Rp.dp : ∀ (d : PyData) (v : V), Rp W H v d → Dp K H v d
  | .none, _, h => by cases h; exact .non
  | .bool b, _, h => by cases h; exact .bl b
  | .int i, _, h => by cases h; exact .int i
  | .str x, _, h => by cases h; exact .str x
  | .list ds, _, h => by
    cases h with
    | lst e n r => exact .lst (SqL.of e) (RpA.dp ds _ r)
  | .tuple ds, _, h => by
    cases h with
    | tup e n r => exact .tup (SqT.of e) (RpA.dp ds _ r)
  | .dict _, _, h => by cases h
theorem RpA.dp : ∀ (ds : List PyData) (vs : List V), RpA W H vs ds → DpAll K H vs ds
  | [], _, h => by cases h; exact .nil
  | d :: ds, _, h => by
    cases h with
    | cons r s => exact .cons (Rp.dp d _ r) (RpA.dp ds _ s)
end
theorem Rp.keep {v : V} {d : PyData} (h : Rp W H v d) (k : Keep W H H') : Rp W H' v d := Rp.move (fun a o n e => ⟨k a o n e, n⟩) d v h
theorem RpA.keep {v : List V} {d : List PyData} (h : RpA W H v d) (k : Keep W H H') : RpA W H' v d := RpA.move (fun a o n e => ⟨k a o n e, n⟩) d v h
theorem Rp.same {v : V} {d : PyData} (h : Rp W H v d) (k : Keep Nil H H') : Rp W H' v d := h.keep k.weak
theorem RpA.same {v : List V} {d : List PyData} (h : RpA W H v d) (k : Keep Nil H H') : RpA W H' v d := h.keep k.weak
theorem Rp.sub {v : V} {d : PyData} (h : Rp W H v d) (s : ∀ x, W' x → W x) : Rp W' H v d := Rp.move (fun a o n e => ⟨e, fun z => n (s _ z)⟩) d v h
theorem RpA.sub {v : List V} {d : List PyData} (h : RpA W H v d) (s : ∀ x, W' x → W x) : RpA W' H v d := RpA.move (fun a o n e => ⟨e, fun z => n (s _ z)⟩) d v h
/-- a new cell may be marked as one that changes -/
theorem Rp.own {v : V} {d : PyData} {p : Addr} (h : Rp W H v d) (hp : H p = none) : Rp (fun x => W x ∨ x = p) H v d :=
  Rp.move (fun a o n e => ⟨e, fun z => z.elim n (ne_of_none e hp)⟩) d v h
theorem RpA.own {v : List V} {d : List PyData} {p : Addr} (h : RpA W H v d) (hp : H p = none) : RpA (fun x => W x ∨ x = p) H v d :=
  RpA.move (fun a o n e => ⟨e, fun z => z.elim n (ne_of_none e hp)⟩) d v h
/-- W' is W and cells that are new at H -/
theorem Rp.grow {v : V} {d : PyData} (h : Rp W H v d) (s : ∀ x, W' x → W x ∨ H x = none) : Rp W' H v d :=
  Rp.move (fun a o n e => ⟨e, fun z => (s _ z).elim n fun w => by rw [e] at w; cases w⟩) d v h
theorem RpA.grow {v : List V} {d : List PyData} (h : RpA W H v d) (s : ∀ x, W' x → W x ∨ H x = none) : RpA W' H v d :=
  RpA.move (fun a o n e => ⟨e, fun z => (s _ z).elim n fun w => by rw [e] at w; cases w⟩) d v h
theorem Rp.list_ {v : V} {ds : List PyData} (h : Rp W H v (.list ds)) : ∃ a xs, v = .ref a ∧ H a = some (.lst xs) ∧ ¬ W a ∧ RpA W H xs ds := by
  cases h with
  | lst e n r => exact ⟨_, _, rfl, e, n, r⟩
theorem Rp.tuple_ {v : V} {ds : List PyData} (h : Rp W H v (.tuple ds)) : ∃ a xs, v = .ref a ∧ H a = some (.tup xs) ∧ ¬ W a ∧ RpA W H xs ds := by
  cases h with
  | tup e n r => exact ⟨_, _, rfl, e, n, r⟩
theorem Rp.int_ {v : V} {i : Int} (h : Rp W H v (.int i)) : v = .int i := by cases h; rfl
theorem Rp.str_ {v : V} {i : Str} (h : Rp W H v (.str i)) : v = .str i := by cases h; rfl
theorem Rp.bool_ {v : V} {i : Bool} (h : Rp W H v (.bool i)) : v = .bl i := by cases h; rfl
theorem Rp.none_ {v : V} (h : Rp W H v .none) : v = .non := by cases h; rfl
theorem RpA.nil_ {vs : List V} (h : RpA W H vs []) : vs = [] := by cases h; rfl
theorem RpA.cons_ {vs : List V} {d : PyData} {ds : List PyData} (h : RpA W H vs (d :: ds)) : ∃ v r, vs = v :: r ∧ Rp W H v d ∧ RpA W H r ds := by
  cases h with
  | cons r s => exact ⟨_, _, rfl, r, s⟩
theorem Rp.two {v : V} {d e : PyData} (h : Rp W H v (.tuple [d, e])) : ∃ a x y, v = .ref a ∧ H a = some (.tup [x, y]) ∧ ¬ W a ∧ Rp W H x d ∧ Rp W H y e := by
  obtain ⟨a, xs, rfl, e, n, r⟩ := h.tuple_
  obtain ⟨x, _, rfl, r1, r⟩ := r.cons_
  obtain ⟨y, _, rfl, r2, r⟩ := r.cons_
  cases r.nil_
  exact ⟨a, x, y, rfl, e, n, r1, r2⟩
theorem Rp.mk2 {a : Addr} {x y : V} {d e : PyData} (h : H a = some (.tup [x, y])) (n : ¬ W a) (r1 : Rp W H x d) (r2 : Rp W H y e) : Rp W H (.ref a) (.tuple [d, e]) := .tup h n (.cons r1 (.cons r2 .nil))
theorem RpA.len : ∀ {ds : List PyData} {vs : List V}, RpA W H vs ds → vs.length = ds.length
  | [], _, h => by rw [h.nil_]; rfl
  | d :: ds, _, h => by
    obtain ⟨v, r, rfl, _, h⟩ := h.cons_
    rw [List.length_cons, List.length_cons, h.len]
theorem RpA.at_ : ∀ {ds : List PyData} {vs : List V} {i : Nat} {d : PyData}, RpA W H vs ds → ds[i]? = some d → ∃ v, vs[i]? = some v ∧ Rp W H v d
  | [], _, _, _, _, e => by simp at e
  | d :: ds, _, i, x, h, e => by
    obtain ⟨v, r, rfl, h1, h⟩ := h.cons_
    cases i with
    | zero => simp at e; subst e; exact ⟨v, rfl, h1⟩
    | succ i =>
      obtain ⟨w, e1, e2⟩ := h.at_ (i := i) (by simpa using e)
      exact ⟨w, by simpa using e1, e2⟩
theorem RpA.at' {ds : List PyData} {vs : List V} {i : Nat} {v : V} (h : RpA W H vs ds) (e : vs[i]? = some v) : ∃ d, ds[i]? = some d ∧ Rp W H v d := by
  have hi : i < ds.length := by rw [← h.len]; exact (List.getElem?_eq_some_iff.mp e).1
  obtain ⟨w, e1, e2⟩ := h.at_ (List.getElem?_eq_getElem hi)
  rw [e] at e1; cases e1
  exact ⟨_, List.getElem?_eq_getElem hi, e2⟩
theorem RpA.app : ∀ {ds es : List PyData} {vs us : List V}, RpA W H vs ds → RpA W H us es → RpA W H (vs ++ us) (ds ++ es)
  | [], _, _, _, h, k => by rw [h.nil_]; exact k
  | d :: ds, _, _, _, h, k => by
    obtain ⟨v, r, rfl, h1, h⟩ := h.cons_
    exact .cons h1 (h.app k)
theorem RpA.snoc {ds : List PyData} {vs : List V} {v : V} {d : PyData} (h : RpA W H vs ds) (k : Rp W H v d) : RpA W H (vs ++ [v]) (ds ++ [d]) := h.app (.cons k .nil)
theorem RpA.take : ∀ (n : Nat) {ds : List PyData} {vs : List V}, RpA W H vs ds → RpA W H (vs.take n) (ds.take n)
  | 0, _, _, _ => by simp; exact .nil
  | n + 1, [], _, h => by rw [h.nil_]; simp; exact .nil
  | n + 1, d :: ds, _, h => by
    obtain ⟨v, r, rfl, h1, h⟩ := h.cons_
    exact .cons h1 (h.take n)
theorem RpA.drop : ∀ (n : Nat) {ds : List PyData} {vs : List V}, RpA W H vs ds → RpA W H (vs.drop n) (ds.drop n)
  | 0, _, _, h => h
  | n + 1, [], _, h => by rw [h.nil_]; simp; exact .nil
  | n + 1, d :: ds, _, h => by
    obtain ⟨v, r, rfl, h1, h⟩ := h.cons_
    exact h.drop n
theorem RpA.rev : ∀ {ds : List PyData} {vs : List V}, RpA W H vs ds → RpA W H vs.reverse ds.reverse
  | [], _, h => by rw [h.nil_]; exact .nil
  | d :: ds, _, h => by
    obtain ⟨v, r, rfl, h1, h⟩ := h.cons_
    rw [List.reverse_cons, List.reverse_cons]
    exact h.rev.snoc h1
theorem RpA.ints_ : ∀ {l : List Int} {vs : List V}, RpA W H vs (l.map .int) → vs = l.map V.int
  | [], _, h => h.nil_
  | x :: l, _, h => by
    obtain ⟨v, r, rfl, h1, h⟩ := h.cons_
    rw [h1.int_, h.ints_]; rfl
theorem RpA.ints : ∀ (l : List Int), RpA W H (l.map V.int) (l.map .int)
  | [] => .nil
  | x :: l => .cons (.int x) (RpA.ints l)
theorem RpA.strs_ : ∀ {l : List Str} {vs : List V}, RpA W H vs (l.map .str) → vs = l.map V.str
  | [], _, h => h.nil_
  | x :: l, _, h => by
    obtain ⟨v, r, rfl, h1, h⟩ := h.cons_
    rw [h1.str_, h.strs_]; rfl
theorem RpA.strs : ∀ (l : List Str), RpA W H (l.map V.str) (l.map .str)
  | [] => .nil
  | x :: l => .cons (.str x) (RpA.strs l)
end
/-- data of ints -/
abbrev dI (l : List Int) : PyData := .list (l.map PyData.int)
theorem Rp.ints_ {W : Addr → Prop} {H : Hp} {v : V} {l : List Int} (h : Rp W H v (dI l)) : ∃ a, v = .ref a ∧ H a = some (.lst (l.map V.int)) ∧ ¬ W a := by
  obtain ⟨a, xs, rfl, e, n, r⟩ := h.list_
  rw [r.ints_] at e
  exact ⟨a, rfl, e, n⟩
theorem Rp.ints {W : Addr → Prop} {H : Hp} {a : Addr} {l : List Int} (h : H a = some (.lst (l.map V.int))) (n : ¬ W a) : Rp W H (.ref a) (dI l) := .lst h n (RpA.ints l)
/-! ### data that Python tells apart as we do -/
mutual
def pl : PyData → Bool
  | .none => true
  | .int _ => true
  | .str x => (PyData.str x).canLay0
  | .bool _ => false
  | .dict _ => false
  | .list ds => plA ds
  | .tuple ds => plA ds
def plA : List PyData → Bool
  | [] => true
  | d :: ds => pl d && plA ds
end
mutual
theorem eqv_iff : ∀ (d e : PyData), pl d = true → pl e = true → (PyData.eqv d e = true ↔ d = e)
  | .none, e, _, _ => by cases e <;> simp [PyData.eqv]
  | .int i, e, _, h => by cases e <;> simp [PyData.eqv] <;> simp [pl] at h
  | .str i, e, _, _ => by cases e <;> simp [PyData.eqv]
  | .bool _, _, h, _ => by simp [pl] at h
  | .dict _, _, h, _ => by simp [pl] at h
  | .list ds, e, h, k => by
    cases e <;> simp [PyData.eqv]
    exact eqvA_iff ds _ (by simpa [pl] using h) (by simpa [pl] using k)
  | .tuple ds, e, h, k => by
    cases e <;> simp [PyData.eqv]
    exact eqvA_iff ds _ (by simpa [pl] using h) (by simpa [pl] using k)
theorem eqvA_iff : ∀ (ds es : List PyData), plA ds = true → plA es = true → (PyData.eqvAll ds es = true ↔ ds = es)
  | [], es, _, _ => by cases es <;> simp [PyData.eqvAll]
  | d :: ds, es, h, k => by
    cases es with
    | nil => simp [PyData.eqvAll]
    | cons e es =>
      rw [plA, Bool.and_eq_true] at h k
      simp only [PyData.eqvAll, Bool.and_eq_true, List.cons.injEq]
      rw [eqv_iff d e h.1 k.1, eqvA_iff ds es h.2 k.2]
end
theorem plA_mem : ∀ {ds : List PyData}, plA ds = true ↔ ∀ d ∈ ds, pl d = true
  | [] => by simp [plA]
  | d :: ds => by simp [plA, plA_mem (ds := ds)]
theorem plA_map {α : Type} {f : α → PyData} {l : List α} (h : ∀ x, pl (f x) = true) : plA (l.map f) = true := plA_mem.mpr fun d hd => by
  obtain ⟨x, _, rfl⟩ := List.mem_map.mp hd
  exact h x
open Classical in
theorem eqv_dec {d e : PyData} (h : pl d = true) (k : pl e = true) : PyData.eqv d e = decide (d = e) := by
  by_cases z : d = e
  · rw [decide_eq_true z]; exact (eqv_iff d e h k).mpr z
  · rw [decide_eq_false z]
    cases q : PyData.eqv d e with
    | false => rfl
    | true => exact absurd ((eqv_iff d e h k).mp q) z
theorem eqv_inj {α : Type} [DecidableEq α] {f : α → PyData} (hp : ∀ x, pl (f x) = true) (inj : ∀ x y, f x = f y → x = y) (a b : α) : PyData.eqv (f a) (f b) = decide (a = b) := by
  by_cases z : a = b
  · subst z; rw [decide_eq_true rfl]; exact (eqv_iff _ _ (hp _) (hp _)).mpr rfl
  · rw [decide_eq_false z]
    cases q : PyData.eqv (f a) (f b) with
    | false => rfl
    | true => exact absurd (inj _ _ ((eqv_iff _ _ (hp _) (hp _)).mp q)) z
mutual
theorem lay_pl : ∀ d : PyData, pl d = true → d.canLay0 = true
  | .none, _ => rfl
  | .int _, _ => rfl
  | .str _, h => by simpa [pl] using h
  | .bool _, h => by simp [pl] at h
  | .dict _, h => by simp [pl] at h
  | .list ds, h => by simp only [PyData.canLay0]; exact layA_pl ds (by simpa [pl] using h)
  | .tuple ds, h => by simp only [PyData.canLay0]; exact layA_pl ds (by simpa [pl] using h)
theorem layA_pl : ∀ ds : List PyData, plA ds = true → PyData.canLayAll0 ds = true
  | [], _ => by simp [PyData.canLayAll0]
  | d :: ds, h => by
    rw [plA, Bool.and_eq_true] at h
    simp [PyData.canLayAll0, lay_pl d h.1, layA_pl ds h.2]
end
theorem sh_pl {d : PyData} (h : pl d = true) (k : d.depth ≤ 64) : SeqAt.shaped d = true := by
  show (d.canLay0 && decide (d.depth ≤ 64)) = true
  rw [Bool.and_eq_true]
  exact ⟨lay_pl d h, decide_eq_true k⟩
theorem depthA_le {n : Nat} : ∀ {ds : List PyData}, (∀ d ∈ ds, d.depth ≤ n) → PyData.depthAll ds ≤ n
  | [], _ => by simp [PyData.depthAll]
  | d :: ds, h => by
    have h1 := h d List.mem_cons_self
    have h2 := depthA_le fun x hx => h x (List.mem_cons_of_mem _ hx)
    simp only [PyData.depthAll]; omega
theorem depth_list {n : Nat} {ds : List PyData} (h : ∀ d ∈ ds, d.depth ≤ n) : (PyData.list ds).depth ≤ n + 1 := by
  have := depthA_le h
  simp only [PyData.depth]; omega
theorem depth_tup {n : Nat} {ds : List PyData} (h : ∀ d ∈ ds, d.depth ≤ n) : (PyData.tuple ds).depth ≤ n + 1 := by
  have := depthA_le h
  simp only [PyData.depth]; omega
theorem depth_ints (l : List Int) : (PyData.list (l.map PyData.int)).depth ≤ 64 := by
  have := depth_list (n := 1) (ds := l.map PyData.int) fun d hd => by
    obtain ⟨x, _, rfl⟩ := List.mem_map.mp hd
    simp [PyData.depth]
  omega
theorem pl_ints (l : List Int) : pl (.list (l.map PyData.int)) = true := by
  show plA _ = true
  exact plA_map fun x => rfl
theorem sh_ints (l : List Int) : SeqAt.shaped (.list (l.map PyData.int)) = true := sh_pl (pl_ints l) (depth_ints l)
/-! ### what is new is none of what changes -/
def Al (W : Addr → Prop) (H : Hp) : Prop := ∀ x, H x = none → ¬ W x
theorem Al.same {W : Addr → Prop} {H H' : Hp} (a : Al W H) (k : Keep Nil H H') : Al W H' := fun x hx => a x (keep_none k hx)
theorem Al.nil {H : Hp} : Al Nil H := fun _ _ z => z
theorem Al.or {W V : Addr → Prop} {H : Hp} (a : Al W H) (b : Al V H) : Al (fun x => W x ∨ V x) H := fun x hx z => z.elim (a x hx) (b x hx)
theorem Al.one {W : Addr → Prop} {H : Hp} {p : Addr} {o : HO} (a : Al W H) (h : H p = some o) : Al (fun x => W x ∨ x = p) H := fun x hx z => z.elim (a x hx) fun e => by rw [e, h] at hx; cases hx
section
variable {W : Addr → Prop} {H : Hp} {K : PySem.W.Frag} {P : Program} {w : World} {Q : VK} {x y : V} {d e : PyData}
theorem v_addV {ds es : List PyData} (al : Al W H) (h1 : Rp W H x (.list ds)) (h2 : Rp W H y (.list es)) (few : ds.length + es.length ≤ 100000) (k : ∀ (p : Addr) (H' : Hp), Keep Nil H H' → Rp W H' (.ref p) (.list (ds ++ es)) → Q (.ref p) H') : bAdd K x y H Q := by
  obtain ⟨a, xs, rfl, e1, n1, r1⟩ := h1.list_
  obtain ⟨b, ys, rfl, e2, n2, r2⟩ := h2.list_
  refine v_addL e1 e2 (few2 (by rw [r1.len, r2.len]; exact few)) fun p hp => k p _ (Keep.alloc hp) ?_
  have kk : Keep Nil H (upd H p (.lst (xs ++ ys))) := Keep.alloc hp
  exact .lst upd_same (al p hp) ((r1.same kk).app (r2.same kk))
theorem v_eqV (h1 : Rp W H x d) (h2 : Rp W H y e) (s1 : SeqAt.shaped d = true) (s2 : SeqAt.shaped e = true) (k : Q (.bl (PyData.eqv d e)) H) : cEq K x y H Q := .inr ⟨d, e, Rp.dp _ _ h1, Rp.dp _ _ h2, s1, s2, k⟩
theorem v_neV (h1 : Rp W H x d) (h2 : Rp W H y e) (s1 : SeqAt.shaped d = true) (s2 : SeqAt.shaped e = true) (k : Q (.bl (!PyData.eqv d e)) H) : cNe K x y H Q := .inr ⟨d, e, Rp.dp _ _ h1, Rp.dp _ _ h2, s1, s2, k⟩
theorem v_inV {ds : List PyData} (h1 : Rp W H x d) (h2 : Rp W H y (.list ds)) (s1 : SeqAt.shaped d = true) (s2 : SeqAt.shaped (.list ds) = true) (k : Q (.bl (ds.any fun z => PyData.eqv z d)) H) : cIn P w K x y H Q := .inr (.inl ⟨d, ds, Rp.dp _ _ h1, Rp.dp _ _ h2, s1, s2, k⟩)
theorem v_ninV {ds : List PyData} (h1 : Rp W H x d) (h2 : Rp W H y (.list ds)) (s1 : SeqAt.shaped d = true) (s2 : SeqAt.shaped (.list ds) = true) (k : Q (.bl (!ds.any fun z => PyData.eqv z d)) H) : cNotIn P w K x y H Q := .inr (.inl ⟨d, ds, Rp.dp _ _ h1, Rp.dp _ _ h2, s1, s2, k⟩)
end
/-! ### len(set(..)) -/
def kLenS (w : World) : List V → Hp → VK → Prop := fun xs H Q => ∃ (a : Addr) (S : Int → Bool) (n : Nat), xs = [.ref a] ∧ H a = some (SetO w a S n) ∧ ∀ es : List Int, es.Nodup → (∀ z : Int, S z = true ↔ z ∈ es) → es.length = n → Q (.int n) H
theorem k_lenS {X : Cx} : CallR X (.builtin "len") (kLenS X.w) := by
  intro pins s σ H xs us Q I r h
  obtain ⟨a, S, n, rfl, ha, q⟩ := h
  obtain ⟨o, es, ep, t, ho, hex, hd, good, nd, mem, few, fits, num, _⟩ := setO_get I ha
  rw [Vals.ref1 r]
  have hs : scanBound = 4096 := rfl
  refine call_len_set ho hex hd fits (by omega) ?_
  rw [num]
  exact ⟨.int n, H, (I.tok _).tok _, ⟨_, rfl⟩, q (es.toList.map keyOf) nd mem (by rw [List.length_map, Array.length_toList]; exact num)⟩
theorem v_lenS {w : World} {a : Addr} {ns : List Int} {n : Nat} {H : Hp} {Q : VK} (h : H a = some (SetO w a (fun j => decide (j ∈ ns)) n)) (k : ∀ es : List Int, es.Nodup → (∀ z : Int, z ∈ es ↔ z ∈ ns) → Q (.int es.length) H) : kLenS w [.ref a] H Q :=
  ⟨a, _, n, rfl, h, fun es nd m l => l ▸ k es nd fun z => by rw [← m z, decide_eq_true_iff]⟩
/-! ### walks -/
/-- the walk J yields the data ds, outside of W, whatever of N changes -/
structure Yv (N W : Addr → Prop) (J : It) (H0 : Hp) (ds : List PyData) : Prop where
  go : ∀ (H : Hp) (i : Nat), Keep N H0 H → i < ds.length → J.go i H
  stop : ∀ (H : Hp), Keep N H0 H → J.stop ds.length H
  yld : ∀ (H H' : Hp) (i : Nat) (x : V) (d : PyData), Keep N H0 H → ds[i]? = some d → J.yld i H x H' → Keep Nil H H' ∧ Rp W H' x d
theorem yv_list {N W : Addr → Prop} {K : PySem.W.Frag} {H : Hp} {a : Addr} {xs : List V} {ds : List PyData} (h : H a = some (.lst xs)) (n : ¬ N a) (r : RpA W H xs ds) (s : ∀ x, N x → W x) : Yv N W (Itl K a) H ds := by
  refine ⟨fun H1 i k hi => ⟨xs, xs[i]'(by rw [r.len]; exact hi), SqL.of (k _ _ n h), List.getElem?_eq_getElem _⟩, fun H1 k => ⟨xs, SqL.of (k _ _ n h), by rw [r.len]; exact Nat.le_refl _⟩, fun H1 H2 i x d k e y => ?_⟩
  obtain ⟨rfl, y⟩ := y
  obtain ⟨v, e1, e2⟩ := r.at_ e
  have := y xs (SqL.of (k _ _ n h))
  rw [e1] at this; cases this
  exact ⟨Keep.refl, e2.keep (k.mono s)⟩
theorem yv_ints {N W : Addr → Prop} {K : PySem.W.Frag} {H : Hp} {a : Addr} {l : List Int} (h : H a = some (.lst (l.map V.int))) (n : ¬ N a) : Yv N W (Itl K a) H (l.map PyData.int) := by
  have y := yv_list (N := N) (W := N) (K := K) h n (RpA.ints l) (fun _ z => z)
  refine ⟨y.go, y.stop, fun H1 H2 i x d k e q => ?_⟩
  obtain ⟨k2, r⟩ := y.yld H1 H2 i x d k e q
  rw [List.getElem?_map] at e
  obtain ⟨z, _, rfl⟩ := Option.map_eq_some_iff.mp e
  rw [r.int_]
  exact ⟨k2, .int _⟩
theorem yv_tup {N W : Addr → Prop} {K : PySem.W.Frag} {H : Hp} {a : Addr} {xs : List V} {ds : List PyData} (h : H a = some (.tup xs)) (n : ¬ N a) (r : RpA W H xs ds) (s : ∀ x, N x → W x) : Yv N W (Itt K a) H ds := by
  refine ⟨fun H1 i k hi => ⟨xs, xs[i]'(by rw [r.len]; exact hi), SqT.of (k _ _ n h), List.getElem?_eq_getElem _⟩, fun H1 k => ⟨xs, SqT.of (k _ _ n h), by rw [r.len]; exact Nat.le_refl _⟩, fun H1 H2 i x d k e y => ?_⟩
  obtain ⟨rfl, y⟩ := y
  obtain ⟨v, e1, e2⟩ := r.at_ e
  have := y xs (SqT.of (k _ _ n h))
  rw [e1] at this; cases this
  exact ⟨Keep.refl, e2.keep (k.mono s)⟩
def rng (lo : Int) (n : Nat) : List PyData := (List.range n).map fun i => PyData.int (lo + (i : Nat))
theorem rng_len (lo : Int) (n : Nat) : (rng lo n).length = n := by unfold rng; rw [List.length_map, List.length_range]
theorem rng_get {lo : Int} {n i : Nat} {d : PyData} (h : (rng lo n)[i]? = some d) : i < n ∧ d = .int (lo + (i : Nat)) := by
  have hi : i < n := by have := (List.getElem?_eq_some_iff.mp h).1; rw [rng_len] at this; exact this
  unfold rng at h
  rw [List.getElem?_map, List.getElem?_range hi] at h
  exact ⟨hi, by simpa using h.symm⟩
theorem yv_rng {N W : Addr → Prop} {H : Hp} {lo : Int} {n : Nat} : Yv N W (Itr lo n) H (rng lo n) := by
  refine ⟨fun H1 i k hi => by rw [rng_len] at hi; exact hi, fun H1 k => by rw [rng_len]; exact Nat.le_refl _, fun H1 H2 i x d k e y => ?_⟩
  obtain ⟨rfl, rfl⟩ := y
  obtain ⟨_, rfl⟩ := rng_get e
  exact ⟨Keep.refl, .int _⟩
def signs (x : Str) : List PyData := x.cps.toList.map fun c => PyData.str ⟨#[c]⟩
theorem yv_str {N W : Addr → Prop} {H : Hp} {x : Str} : Yv N W (Its x) H (signs x) := by
  have len : (signs x).length = x.cps.size := by unfold signs; rw [List.length_map, Array.length_toList]
  refine ⟨fun H1 i k hi => by rw [len] at hi; exact hi, fun H1 k => by rw [len]; exact Nat.le_refl _, fun H1 H2 i v d k e y => ?_⟩
  obtain ⟨rfl, c, hc, rfl⟩ := y
  unfold signs at e
  rw [List.getElem?_map, Array.getElem?_toList, hc] at e
  cases e
  exact ⟨Keep.refl, .str _⟩
section
variable {J : It} {g : TG} {tt : TT} {te : TE} {vs : List Nat} {σ : L2.St} {H : Hp} {Q : VK}
/-- a comprehension that reads and makes new things alone -/
theorem lcT {α : Type} (W : Addr → Prop) (enc : α → PyData) (l : List α) (p : α → Bool) (f : α → PyData) (al : Al W H) (few : l.length < sizeLine) (Y : ∀ D, H D = none → Yv Nil (fun x => W x ∨ x = D) J H (l.map enc))
    (body : ∀ (D : Addr) (i : Nat) (x : V) (d : α) (H1 : Hp) (R : VK) (N : Hp → Prop), H D = none → l[i]? = some d → Keep Nil H H1 → Al (fun x => W x ∨ x = D) H1 → Rp (fun x => W x ∨ x = D) H1 x (enc d) →
      (∀ y H4, Keep Nil H1 H4 → Rp (fun x => W x ∨ x = D) H4 y (f d) → p d = true → R y H4) → (∀ H3, Keep Nil H1 H3 → p d = false → N H3) →
      g x (wipe σ vs) H1 fun σ2 H2 => wipe σ2 vs = wipe σ vs ∧ tt σ2 H2 fun b H3 => if b = true then te σ2 H3 R else N H3)
    (cont : ∀ (D : Addr) (H' : Hp), H D = none → Keep Nil H H' → Rp W H' (.ref D) (.list ((l.filter p).map f)) → Q (.ref D) H') : kLc J g tt te vs σ H Q := by
  intro D hD
  refine ⟨fun i m H' => m = l.length - i ∧ i ≤ l.length ∧ ∃ us, H' D = some (.lst us) ∧ RpA (fun x => W x ∨ x = D) H' us (((l.take i).filter p).map f) ∧ Keep Nil H H', ⟨_, rfl, Nat.zero_le _, [], upd_same, by simp; exact .nil, Keep.alloc hD⟩, ?_⟩
  rintro i m H1 ⟨rfl, hi, us, eD, ru, k1⟩
  have nD : ¬ W D := al D hD
  by_cases lt : i < l.length
  · refine .inr ⟨(Y D hD).go H1 i k1 (by rw [List.length_map]; exact lt), fun H' => ∃ us, H' D = some (.lst us) ∧ RpA (fun x => W x ∨ x = D) H' us (((l.take (i + 1)).filter p).map f) ∧ Keep Nil H H', fun H' h => ⟨l.length - (i + 1), by omega, rfl, lt, h⟩, fun x H2 hy => ?_⟩
    have hd := List.getElem?_eq_getElem lt
    obtain ⟨k2, rx⟩ := (Y D hD).yld H1 H2 i x (enc l[i]) k1 (by rw [List.getElem?_map, hd]; rfl) hy
    have k12 := k1.trans k2
    have eD2 := k2.get (fun z => z) eD
    have tk : l.take (i + 1) = l.take i ++ [l[i]] := by rw [List.take_succ, hd]; rfl
    refine body D i x _ H2 _ _ hD hd k12 ((al.same k12).one eD2) rx (fun y H5 k5 r5 hp => ?_) fun H4 k4 hp => ?_
    · have eD5 := k5.get (fun z => z) eD2
      have ru5 := ru.same (k2.trans k5)
      have kD : Keep (fun x => W x ∨ x = D) H5 (upd H5 D (.lst (us ++ [y]))) := Keep.refl.set (.inr rfl)
      refine ⟨us, eD5, ?_, us ++ [y], upd_same, ?_, (k12.trans k5).setN hD⟩
      · have h1 := ru.len
        have h2 := List.length_filter_le p (l.take i)
        rw [List.length_map] at h1
        rw [List.length_take] at h2
        omega
      · rw [tk, List.filter_append, List.map_append]
        have : [l[i]].filter p = [l[i]] := by simp [hp]
        rw [this]
        exact (ru5.keep kD).snoc (r5.keep kD)
    · refine ⟨us, k4.get (fun z => z) eD2, ?_, k12.trans k4⟩
      rw [tk, List.filter_append, List.map_append]
      have : [l[i]].filter p = [] := by simp [hp]
      rw [this, List.map_nil, List.append_nil]
      exact ru.same (k2.trans k4)
  · have e : i = l.length := by omega
    subst e
    rw [List.take_of_length_le (Nat.le_refl _)] at ru
    have st := (Y D hD).stop H1 k1
    rw [List.length_map] at st
    exact .inl ⟨st, cont D H1 hD k1 (.lst eD nD (ru.sub fun x h => .inl h))⟩
theorem filter_tt {α : Type} (l : List α) : (l.filter fun _ => true) = l := by simp
/-- a comprehension that changes W, by what is told of S; without a test -/
theorem lcS (W : Addr → Prop) (ds : List PyData) (S : Nat → List PyData → Hp → Prop) (few : ds.length < sizeLine) (al : Al W H) (Y : ∀ D, H D = none → Yv W (fun x => W x ∨ x = D) J H ds)
    (als : ∀ i out H1, S i out H1 → Al W H1)
    (S0 : S 0 [] H) (stab : ∀ D i out H1 H2, H D = none → Keep (fun x => x = D) H1 H2 → (∀ o, H1 D = some o → ∃ l, o = .lst l) → S i out H1 → S i out H2)
    (body : ∀ (D : Addr) (i : Nat) (x : V) (d : PyData) (out : List PyData) (H1 : Hp) (R : VK) (N : Hp → Prop), H D = none → ds[i]? = some d → out.length = i → Keep W H H1 → Al (fun x => W x ∨ x = D) H1 → Rp (fun x => W x ∨ x = D) H1 x d → S i out H1 →
      (∀ y H4 e, Keep W H1 H4 → Rp (fun x => W x ∨ x = D) H4 y e → S (i + 1) (out ++ [e]) H4 → R y H4) →
      g x (wipe σ vs) H1 fun σ2 H2 => wipe σ2 vs = wipe σ vs ∧ tYes σ2 H2 fun b H3 => if b = true then te σ2 H3 R else N H3)
    (cont : ∀ (D : Addr) (H' : Hp) (out : List PyData), H D = none → out.length = ds.length → Keep W H H' → S ds.length out H' → Rp W H' (.ref D) (.list out) → Q (.ref D) H') : kLc J g tYes te vs σ H Q := by
  intro D hD
  have nD : ¬ W D := al D hD
  refine ⟨fun i m H' => m = ds.length - i ∧ i ≤ ds.length ∧ ∃ us out, H' D = some (.lst us) ∧ out.length = i ∧ RpA (fun x => W x ∨ x = D) H' us out ∧ Keep W H H' ∧ S i out H',
    ⟨_, rfl, Nat.zero_le _, [], [], upd_same, rfl, .nil, Keep.alloc hD, stab D 0 [] H _ hD (Keep.refl.set rfl) (fun o e => by rw [hD] at e; cases e) S0⟩, ?_⟩
  rintro i m H1 ⟨rfl, hi, us, out, eD, lo, ru, k1, s1⟩
  by_cases lt : i < ds.length
  · refine .inr ⟨(Y D hD).go H1 i k1 lt, fun H' => ∃ us out, H' D = some (.lst us) ∧ out.length = i + 1 ∧ RpA (fun x => W x ∨ x = D) H' us out ∧ Keep W H H' ∧ S (i + 1) out H', fun H' h => ⟨ds.length - (i + 1), by omega, rfl, lt, h⟩, fun x H2 hy => ?_⟩
    have hd := List.getElem?_eq_getElem lt
    obtain ⟨k2, rx⟩ := (Y D hD).yld H1 H2 i x _ k1 hd hy
    have k12 := k1.trans k2.weak
    have eD2 := k2.get (fun z => z) eD
    have s2 := stab D i out H1 H2 hD k2.weak (fun o e => by rw [eD] at e; exact ⟨_, (Option.some.inj e).symm⟩) s1
    refine body D i x _ out H2 _ _ hD hd lo k12 ((als _ _ _ s2).one eD2) rx s2 fun y H5 e k5 r5 s5 => ?_
    have eD5 := k5 _ _ nD eD2
    have ru2 := ru.same k2
    have kD : Keep (fun x => x = D) H5 (upd H5 D (.lst (us ++ [y]))) := Keep.refl.set rfl
    have kW : Keep (fun x => W x ∨ x = D) H5 (upd H5 D (.lst (us ++ [y]))) := kD.mono fun _ h => .inr h
    refine ⟨us, eD5, ?_, us ++ [y], out ++ [e], upd_same, by rw [List.length_append, lo]; rfl, ?_, (k12.trans k5).setN hD, stab D _ _ _ _ hD kD (fun o q => by rw [eD5] at q; exact ⟨_, (Option.some.inj q).symm⟩) s5⟩
    · have h1 := ru.len
      omega
    · exact ((ru2.keep (k5.mono fun _ h => .inl h)).keep kW).snoc (r5.keep kW)
  · have e : i = ds.length := by omega
    subst e
    exact .inl ⟨(Y D hD).stop H1 k1, cont D H1 out hD lo k1 s1 (.lst eD nD (ru.sub fun x h => .inl h))⟩
end
end Hm

/-! F6: dicts keyed by pairs of ints: sorted(d). -/
namespace Hm
open PySem PySem.Spec PyProof.Rows L2
abbrev TX := List L2.Key × V
def pk (p : Int × Int) : List L2.Key := [Sum.inl p.1, Sum.inl p.2]
theorem pk_inj {p q : Int × Int} (h : pk p = pk q) : p = q := by
  unfold pk at h
  injection h with h1 h2
  injection h2 with h2 _
  injection h1 with h1
  injection h2 with h2
  exact Prod.ext h1 h2
/-- a list of pairs, sorted as Python sorts tuples -/
def RisP (l : List (Int × Int)) : Prop := l.Pairwise fun p q => SrtO.lexB q p = false
theorem risP_eq {l m : List (Int × Int)} (p : l.Perm m) (h1 : RisP l) (h2 : RisP m) : l = m :=
  List.Perm.eq_of_pairwise (fun a b _ _ h h' => by
    have h := SrtO.lexB_no.mp h
    have h' := SrtO.lexB_no.mp h'
    exact Prod.ext (by omega) (by omega)) h1 h2 p
def kH (H : Hp) (v : Value) : Int × Int := match v with
  | .ref a => match H a with
    | some (.tup [.int i, .int j]) => (i, j)
    | _ => (0, 0)
  | _ => (0, 0)
def adr (v : Value) : Addr := match v with
  | .ref a => a
  | _ => default
def PrT (H : Hp) (t : Addr) (p : Int × Int) : Prop := H t = some (.tup [.int p.1, .int p.2])
def uSortDictP : List V → Hp → VK → Prop := fun xs H Q => ∃ (a : Addr) (kvs : List TX) (ks : List (Int × Int)), xs = [.ref a] ∧ H a = some (.dT kvs) ∧ kvs.map (·.1) = ks.map pk ∧
  ∀ (bs : List Addr) (ys : List (Int × Int)) (p : Addr), ys.Perm ks → RisP ys → Paired (PrT H) bs ys → H p = none → Q (.ref p) (upd H p (.lst (bs.map V.ref)))
section
variable {X : Cx}
theorem cu_sortDictP (hcalm : X.calm = true) : CallR X (.builtin "sorted") uSortDictP := by
  intro pins s σ H xs us Q I r q
  obtain ⟨a, kvs, ks, rfl, hd, hks, q⟩ := q
  rw [Vals.ref1 r]
  obtain ⟨z, hs, kr, pr, o, es, ep, ho, hx, hdt, he, hn⟩ := (show ObjOk X.prog X.w H s.heap a (.dT kvs) from (Rd.of hd).ok I.hok)
  have l1 : es.size = kr.length := size_of_entries he
  have l2 : kvs.length = kr.length := Paired.length pr
  have hkr : kr.map (fun x => kH H (.ref x.2.1)) = ks ∧ ∀ x ∈ kr, H x.2.1 = some (.tup [.int (kH H (.ref x.2.1)).1, .int (kH H (.ref x.2.1)).2]) := by
    clear q hn he l1 l2 hd z
    induction pr generalizing ks with
    | nil =>
      cases ks with
      | nil => exact ⟨rfl, fun _ h => nomatch h⟩
      | cons _ _ => simp at hks
    | @cons p q ps qs h t ih =>
      cases ks with
      | nil => simp at hks
      | cons k ks =>
        rw [List.map_cons, List.map_cons] at hks
        injection hks with e1 e2
        obtain ⟨i1, i2⟩ := ih ks e2
        have hq : H q.2.1 = some (.tup [.int k.1, .int k.2]) := by rw [h.2.1, e1]; rfl
        have ek : kH H (.ref q.2.1) = k := by unfold kH; simp only [hq]
        refine ⟨by rw [List.map_cons, i1, ek], fun x hx => ?_⟩
        rcases List.mem_cons.mp hx with rfl | hx
        · rw [ek]; exact hq
        · exact i2 x hx
  obtain ⟨hk1, hk2⟩ := hkr
  refine Calls.call_function_entry kind_sorted plain_sorted entry_sorted (args_sorted1 _) ?_
  unfold Builtin.«sorted»
  refine wpAny_bind (m := checkCount "sorted" 1 1 _) (wpAny_pure ?_)
  refine wpAny_bind (PySem.W.kdu_collect (A := X.A.in1) (kdl_raw hs hx hdt) (I.ok.hd hcalm) ho (by omega) fun h' tk acc hk hacc => ?_)
  have ea : acc.toList = kr.map fun x => Value.ref x.2.1 := by
    have hl : acc.toList.length = kr.length := by rw [Array.length_toList, hacc.1]; exact l1
    apply List.ext_getElem?
    intro j
    rw [List.getElem?_map]
    cases hj : acc.toList[j]? with
    | none =>
      have h1 := List.getElem?_eq_none_iff.mp hj
      rw [List.getElem?_eq_none (by omega)]
      all_goals rfl
    | some v =>
      obtain ⟨en, hen, hv⟩ := hacc.2 j v (by rw [← Array.getElem?_toList]; exact hj)
      have qe := entry_at he j
      rw [hen] at qe
      cases hb : kr[j]? with
      | none =>
        rw [hb] at qe
        exact nomatch (show some en = none from qe)
      | some b =>
        rw [hb] at qe
        have e2 : en = entryOfKey (tupleKind (mixKind X.prog X.w)) b := Option.some.inj qe
        rw [hv, e2]
        all_goals rfl
  have I1 : Inv X pins σ H { s with heap := h', toks := tk } := I.kept hk
  have hal2 : acc.toList.length ≤ sizeLine := by rw [ea, List.length_map]; omega
  refine wpAny_bind (wpAny_newList ?_ hal2)
  have at1 : (h'.push (seqObj "list" acc.toList.toArray 0)).get? h'.objs.size = some (seqObj "list" acc.toList.toArray 0) := Heap.get?_push_size _ rfl
  show wpAny _ _ _ _ _ { s with heap := h'.push (seqObj "list" acc.toList.toArray 0), toks := tk }
  have isp : ∀ v ∈ acc.toList, Srt.IsPair (h'.push (seqObj "list" acc.toList.toArray 0)) v (kH H v).1 (kH H v).2 := fun v hv => by
    rw [ea] at hv
    obtain ⟨x, hx, rfl⟩ := List.mem_map.mp hv
    obtain ⟨_, its2, r2, o, ho, hc, n, hd⟩ := I1.hok _ _ (hk2 x hx)
    obtain ⟨u1, u2, rfl, ri, rj⟩ := vals2 r2
    obtain ⟨t1, rfl⟩ := ri
    obtain ⟨t2, rfl⟩ := rj
    exact ⟨x.2.1, o, t1, t2, n, rfl, Heap.get?_push_of_some _ ho, hc, hd⟩
  refine wpAny_bind (wpAny_holding (wpAny_call_entry slot_list_sort ⟨_, at1, rfl⟩ entry_list_sort
    (SrtO.list_sort_ord (SrtO.swo_lex (kH H)) (s := { s with heap := h'.push (seqObj "list" acc.toList.toArray 0), toks := tk }) at1 hal2 (fun h2 => SrtO.pairs_sortableO (by omega) isp fun o e => ?_) fun out z1 z2 => ⟨_, rfl, ?_⟩) (args_list_sort _)))
  · have e' : some o = some (seqObj "list" acc.toList.toArray 0) := e.symm.trans at1
    cases e'
    intro c
    exact absurd (Value.type.inj c) (by decide)
  obtain ⟨c, hc⟩ := sortedHeap_at (vs := acc.toList) (out := out.toArray) at1
  have outr : ∀ v ∈ out, ∃ x ∈ kr, v = Value.ref x.2.1 := fun v hv => by
    have := z2.perm.mem_iff.mp hv
    rw [ea] at this
    obtain ⟨x, hx, rfl⟩ := List.mem_map.mp this
    exact ⟨x, hx, rfl⟩
  have eo : out.map (fun v => Value.ref (adr v)) = out := by
    have : out.map (fun v => Value.ref (adr v)) = out.map id := List.map_congr_left fun v hv => by
      obtain ⟨x, _, rfl⟩ := outr v hv
      rfl
    rw [this, List.map_id]
  have hlen : ((out.map adr).map V.ref).length ≤ sizeLine := by
    rw [List.length_map, List.length_map, z2.perm.length_eq]; exact hal2
  have rv : Vals ((out.map adr).map V.ref) out := by
    have := vals_refs (out.map adr)
    rw [List.map_map (f := adr) (g := Value.ref), show (Value.ref ∘ adr) = fun v => Value.ref (adr v) from rfl, eo] at this
    exact this
  have pys : (out.map (kH H)).Perm ks := by
    have := z2.perm.map (kH H)
    rw [ea, List.map_map] at this
    rw [← hk1]; exact this
  have pp : Paired (PrT H) (out.map adr) (out.map (kH H)) := by
    clear pys rv hlen eo hc z1 z2 q
    induction out with
    | nil => exact .nil
    | cons v l ih =>
      refine .cons ?_ (ih fun v hv => outr v (List.mem_cons_of_mem _ hv))
      obtain ⟨x, hx, rfl⟩ := outr v List.mem_cons_self
      exact hk2 x hx
  refine wpAny_pure ⟨_, rfl, .ref h'.objs.size, upd H h'.objs.size (.lst ((out.map adr).map V.ref)), I1.laid (t' := tk) (fun b u e => ?_) (Nat.le_refl _)
    (show ObjOk X.prog X.w _ _ _ (.lst ((out.map adr).map V.ref)) from ⟨hlen, out, c, rv, hc⟩), rfl, q _ _ _ pys (List.pairwise_map.mpr z1) pp (I1.hok.fresh (Nat.le_refl _))⟩
  have hb : b < h'.objs.size := Heap.lt_size e
  rw [sortedHeap_old (Nat.ne_of_lt hb) (by rw [size_push']; exact Nat.lt_succ_of_lt hb)]
  exact Heap.get?_push_of_some _ e
end
theorem v_sortedP {a : Addr} {kvs : List TX} {ks : List (Int × Int)} {H : Hp} {Q : VK} (h : H a = some (.dT kvs)) (e : kvs.map (·.1) = ks.map pk) (k : ∀ (bs : List Addr) (ys : List (Int × Int)) (p : Addr), ys.Perm ks → RisP ys → Paired (PrT H) bs ys → H p = none → Q (.ref p) (upd H p (.lst (bs.map V.ref)))) : uSortDictP [.ref a] H Q :=
  ⟨a, kvs, ks, rfl, h, e, k⟩
/-- {k: v} with one flat tuple for a key -/
def uDispT (tk tv : TE) : TE := fun σ H Q => ∀ p, H p = none → tk σ (upd H p (.dT [])) fun x H1 => tv σ H1 fun y H2 =>
  ∃ (k : List L2.Key) (b : Addr), x = .ref b ∧ H2 p = some (.dT []) ∧ H2 b = some (.tup (k.map kV)) ∧ Q (.ref p) (upd H2 p (.dT [(k, y)]))
theorem pe_dispT {X : Cx} {ke ve : Expr} {tk tv : TE} {pos : Pos} (hu : X.A.units + 64 < cLine) (hk : PE X ke tk) (hv : PE X ve tv)
    (shape : (evalEachOpt [some ke] X.env).zip ((evalEach [ve] X.env).map fun v => do let x ← v; standAt pos; pure x) = [(eval ke X.env, (do let x ← eval ve X.env; standAt pos; pure x))].map fun p => (some p.1, p.2) := by rfl) :
    PE X (.Dict [some ke] [ve] pos) (uDispT tk tv) := by
  refine ⟨fun pins s σ H Q I h => ?_⟩
  have hn := I.hok.fresh (Nat.le_refl s.heap.objs.size)
  have I1 := I.laid (a := s.heap.objs.size) (o := .dT []) (h' := s.heap.push { cls := .type "dict", data := .dict #[] }) (t' := s.toks) (fun _ _ q => Heap.get?_push_of_some _ q) (Nat.le_refl _) (dt_empty s.heap I.big)
  have h1 : PPs X pos [some ke] [ve] [(tk, tv)] := pps_cons hk hv pps_nil
  have trees : pairTrees [some ke] [ve] X.env pos = [(eval ke X.env, (do let x ← eval ve X.env; standAt pos; pure x))] := by rfl
  have run := h1.run pins _ σ _ (fun ps H2 => match ps with
    | [(x, y)] => ∃ (k : List L2.Key) (b : Addr), x = .ref b ∧ H2 s.heap.objs.size = some (.dT []) ∧ H2 b = some (.tup (k.map kV)) ∧ Q (.ref s.heap.objs.size) (upd H2 s.heap.objs.size (.dT [(k, y)]))
    | _ => False) I1 (h _ hn)
  rw [trees] at run
  rw [arm_eval_Dict, shape, dictDisplay_pairs _ (by simp) (by simp)]
  refine wpAny_bind (wpAny_standAt (wpAny_bind (wpAny_subDictH (knd := tupleKind (mixKind X.prog X.w)) (show X.A.units < cLine by omega) (by simp) (thn run fun vs s2 hh => ?_))))
  obtain ⟨ps, H2, I2, rel, q⟩ := hh
  split at q
  · rename_i x y
    obtain ⟨k, b, rfl, e, eb, q⟩ := q
    cases rel with
    | @cons p1 q1 ps qs rr t =>
    cases t
    obtain ⟨u1, u2⟩ := q1
    obtain ⟨r1, r2⟩ := rr
    cases (show u1 = Value.ref b from r1)
    obtain ⟨z, hd, xs, rr, D⟩ := dt_of I2.hok e
    cases rr
    refine ⟨[(k, b, u2)], ⟨rfl, rfl, key_of I2.hok eb, True.intro⟩, D, fun h' tk' D' hs => wpAny_pure ⟨.ref s.heap.objs.size, _, ?_, rfl, q⟩⟩
    obtain ⟨q', es, ep, hq, h2, h3, h4, _, h5⟩ := id D'
    refine d_write I2 (by rw [e]; exact True.intro) hs ⟨q', hq⟩ ⟨by rw [sizeLine_eq]; exact (by decide : (1 : Nat) ≤ 16777216), hd, [(k, b, u2)], .cons ⟨rfl, ?_, r2⟩ .nil, q', es, ep, hq, h2, h3, h4, h5⟩
    show upd H2 _ _ b = _
    rw [upd_ne (ne_of eb e (fun z => nomatch z))]
    exact eb
  · exact q.elim
/-! ### loops that change one slot -/
section
variable {K : PySem.W.Frag} {a : Addr} {tb : TS} {D : Ends} {σ : L2.St} {H : Hp} {i : Nat}
theorem forI {l : List Int} (Pv : Nat → Hp → Prop) (hl : ∀ j H', Pv j H' → H' a = some (.lst (l.map V.int))) (o0 : Option V) (e0 : σ.set i o0 = σ) (h0 : Pv 0 H)
    (hs : ∀ j z H', l[j]? = some z → Pv j H' → tb { D with nx := fun s h => ∃ o, s = σ.set i o ∧ Pv (j + 1) h, ct := fun s h => ∃ o, s = σ.set i o ∧ Pv (j + 1) h, bk := D.nx } (σ.set i (some (.int z))) H')
    (hd : ∀ o H', Pv l.length H' → D.nx (σ.set i o) H') : kFor (Itl K a) (gName i) tb D σ H := by
  refine for_list (xs := l.map V.int) (fun j s H' => ∃ o, s = σ.set i o ∧ Pv j H') ⟨o0, e0.symm, h0⟩ (fun j s H' _ ⟨_, _, h⟩ => SqL.of (hl j H' h)) ?_ ?_
  · rintro j x s H' hj ⟨o, rfl, h⟩
    rw [List.getElem?_map] at hj
    obtain ⟨z, hz, rfl⟩ := Option.map_eq_some_iff.mp hj
    refine r_gname ?_
    rw [List.set_set]
    exact hs j z H' hz h
  · rintro s H' ⟨o, rfl, h⟩
    rw [List.length_map] at h
    exact hd o H' h
end
theorem forI2 {K : PySem.W.Frag} {a : Addr} {tb : TS} {D : Ends} {σ : L2.St} {H : Hp} {i k : Nat} {l : List Int} (Pv : Nat → Hp → Prop) (hl : ∀ j H', Pv j H' → H' a = some (.lst (l.map V.int))) (o0 p0 : Option V) (e0 : (σ.set i o0).set k p0 = σ) (hik : i ≠ k) (h0 : Pv 0 H)
    (hs : ∀ j z H' (p : Option V), l[j]? = some z → Pv j H' → tb { D with nx := fun s h => ∃ o p, s = (σ.set i o).set k p ∧ Pv (j + 1) h, ct := fun s h => ∃ o p, s = (σ.set i o).set k p ∧ Pv (j + 1) h, bk := D.nx } ((σ.set i (some (.int z))).set k p) H')
    (hd : ∀ o p H', Pv l.length H' → D.nx ((σ.set i o).set k p) H') : kFor (Itl K a) (gName i) tb D σ H := by
  refine for_list (xs := l.map V.int) (fun j s H' => ∃ o p, s = (σ.set i o).set k p ∧ Pv j H') ⟨o0, p0, e0.symm, h0⟩ (fun j s H' _ ⟨_, _, _, h⟩ => SqL.of (hl j H' h)) ?_ ?_
  · rintro j x s H' hj ⟨o, p, rfl, h⟩
    rw [List.getElem?_map] at hj
    obtain ⟨z, hz, rfl⟩ := Option.map_eq_some_iff.mp hj
    refine r_gname ?_
    rw [List.set_comm _ _ (Ne.symm hik), List.set_set]
    exact hs j z H' p hz h
  · rintro s H' ⟨o, p, rfl, h⟩
    rw [List.length_map] at h
    exact hd o p H' h
theorem r_ikeysT {td : TE} {σ : L2.St} {H : Hp} {R : It → Hp → Prop} (k : td σ H fun x H1 => ∃ d o, x = .ref d ∧ ((∃ kvs, H1 d = some (.frz o (.dK kvs)) ∧ R (Itk d o kvs) H1) ∨ ∃ kvs, H1 d = some (.frz o (.dT kvs)) ∧ R (Itkt d o kvs) H1)) : iKeys td σ H R := k
/-- a walk over the keys of a dict that is locked for it -/
theorem forT {d : Addr} {o : Obj} {kvs : List TX} {ks : List (Int × Int)} {g : TG} {tb : TS} {D : Ends} {σ : L2.St} {H : Hp} (ke : kvs.map (·.1) = ks.map pk) (Pv : Nat → L2.St → Hp → Prop) (h0 : Pv 0 σ H) (hl : ∀ j σ H, Pv j σ H → H d = some (.frz o (.dT kvs)))
    (hs : ∀ j z q σ H, ks[j]? = some z → Pv j σ H → PrT H q z → g (.ref q) σ H fun σ2 H2 => tb { D with nx := Pv (j + 1), ct := Pv (j + 1), bk := D.nx } σ2 H2)
    (hd : ∀ σ H, Pv ks.length σ H → D.nx σ H) : kFor (Itkt d o kvs) g tb D σ H := by
  have len : kvs.length = ks.length := by have := congrArg List.length ke; rw [List.length_map, List.length_map] at this; exact this
  refine ⟨fun i m σ H => m = ks.length - i ∧ i ≤ ks.length ∧ Pv i σ H, ⟨_, rfl, Nat.zero_le _, h0⟩, ?_⟩
  rintro i m σ H ⟨rfl, hi, p⟩
  by_cases lt : i < ks.length
  · refine .inr ⟨⟨hl _ _ _ p, by omega⟩, Pv (i + 1), fun σ' H' p' => ⟨ks.length - (i + 1), by omega, rfl, lt, p'⟩, fun x H' y => ?_⟩
    obtain ⟨rfl, k, v, q, e1, rfl, e2⟩ := y
    have hz := List.getElem?_eq_getElem lt
    have e3 : (kvs.map (·.1))[i]? = some k := by rw [List.getElem?_map, e1]; rfl
    rw [ke, List.getElem?_map, hz] at e3
    cases e3
    exact hs i _ q σ _ hz p e2
  · have e : i = ks.length := by omega
    subst e
    exact .inl ⟨⟨hl _ _ _ p, by omega⟩, hd σ H p⟩
theorem lock_keep {M : Addr → Prop} {H H' : Hp} {d : Addr} {u f : HO} (h : H d = some u) (k : Keep M (upd H d f) H') : Keep M H (upd H' d u) := fun a o n e => by
  by_cases z : a = d
  · subst z
    rw [h] at e; rw [upd_same]; exact e
  · rw [upd_ne z]
    exact k a o n (by rw [upd_ne z]; exact e)
theorem find_at {α : Type} {p : α → Bool} {l : List α} {j : Nat} {x : α} (h : l[j]? = some x) (n : ∀ y ∈ l.take j, p y = false) (hx : p x = true) : l.find? p = some x := by
  have e : l = l.take j ++ x :: l.drop (j + 1) := by
    obtain ⟨hl, rfl⟩ := List.getElem?_eq_some_iff.mp h
    rw [List.getElem_cons_drop, List.take_append_drop]
  rw [e, List.find?_append, List.find?_eq_none.mpr (fun y hy => by simp [n y hy]), Option.none_or, List.find?_cons_of_pos hx]
theorem find_no {α : Type} {p : α → Bool} {l : List α} (n : ∀ y ∈ l, p y = false) : l.find? p = none := List.find?_eq_none.mpr fun y hy => by simp [n y hy]
theorem take_snoc {α : Type} {l : List α} {j : Nat} {x : α} (h : l[j]? = some x) {P : α → Prop} (a : ∀ y ∈ l.take j, P y) (b : P x) : ∀ y ∈ l.take (j + 1), P y := fun y hy => by
  rw [List.take_succ, h] at hy
  rcases List.mem_append.mp hy with q | q
  · exact a y q
  · cases List.mem_singleton.mp q; exact b
/-! ### a text among texts -/
theorem inV_str {z : Str} (os : List Str) : inV (.str z) (os.map V.str) = decide (z ∈ os) := by
  unfold inV
  rw [List.any_map]
  by_cases h : z ∈ os
  · rw [decide_eq_true h]
    exact List.any_eq_true.mpr ⟨z, h, by simp [Function.comp, eqV]⟩
  · rw [decide_eq_false h]
    exact List.any_eq_false.mpr fun y hy => by
      simp only [Function.comp, eqV, beq_iff_eq]
      exact fun e => h (e ▸ hy)
theorem flat_strs : ∀ os : List Str, (os.map V.str).all flatV = true
  | [] => rfl
  | x :: r => by rw [List.map_cons, List.all_cons, flat_strs r]; rfl
theorem v_ninSt {P : Program} {w : World} {K : PySem.W.Frag} {H : Hp} {Q : VK} {l : Addr} {os : List Str} {z : Str} (h : H l = some (.tup (os.map V.str))) (q : Q (.bl (!decide (z ∈ os))) H) : cNotIn P w K (.str z) (.ref l) H Q :=
  .inl ⟨l, os.map V.str, rfl, .inr (SqT.of h), rfl, flat_strs os, by rw [if_pos rfl, inV_str]; exact q⟩
theorem v_inSt {P : Program} {w : World} {K : PySem.W.Frag} {H : Hp} {Q : VK} {l : Addr} {os : List Str} {z : Str} (h : H l = some (.tup (os.map V.str))) (q : Q (.bl (decide (z ∈ os))) H) : cIn P w K (.str z) (.ref l) H Q :=
  .inl ⟨l, os.map V.str, rfl, .inr (SqT.of h), rfl, flat_strs os, by rw [if_neg (by decide), inV_str]; exact q⟩
theorem v_ninSl {P : Program} {w : World} {K : PySem.W.Frag} {H : Hp} {Q : VK} {l : Addr} {os : List Str} {z : Str} (h : H l = some (.lst (os.map V.str))) (q : Q (.bl (!decide (z ∈ os))) H) : cNotIn P w K (.str z) (.ref l) H Q :=
  .inl ⟨l, os.map V.str, rfl, .inl (SqL.of h), rfl, flat_strs os, by rw [if_pos rfl, inV_str]; exact q⟩
theorem v_inSl {P : Program} {w : World} {K : PySem.W.Frag} {H : Hp} {Q : VK} {l : Addr} {os : List Str} {z : Str} (h : H l = some (.lst (os.map V.str))) (q : Q (.bl (decide (z ∈ os))) H) : cIn P w K (.str z) (.ref l) H Q :=
  .inl ⟨l, os.map V.str, rfl, .inl (SqL.of h), rfl, flat_strs os, by rw [if_neg (by decide), inV_str]; exact q⟩
theorem RpA.bools_ {W : Addr → Prop} {H : Hp} : ∀ {l : List Bool} {vs : List V}, RpA W H vs (l.map .bool) → vs = l.map V.bl
  | [], _, h => h.nil_
  | x :: l, _, h => by
    obtain ⟨v, r, rfl, h1, h⟩ := h.cons_
    rw [h1.bool_, RpA.bools_ h]; rfl
theorem inV_bl {z : Bool} (os : List Bool) : inV (.bl z) (os.map V.bl) = decide (z ∈ os) := by
  unfold inV
  rw [List.any_map]
  by_cases h : z ∈ os
  · rw [decide_eq_true h]
    exact List.any_eq_true.mpr ⟨z, h, by simp [Function.comp, eqV]⟩
  · rw [decide_eq_false h]
    exact List.any_eq_false.mpr fun y hy => by
      simp only [Function.comp, eqV, beq_iff_eq]
      exact fun e => h (e ▸ hy)
theorem flat_bls : ∀ os : List Bool, (os.map V.bl).all flatV = true
  | [] => rfl
  | x :: r => by rw [List.map_cons, List.all_cons, flat_bls r]; rfl
theorem v_inBl {P : Program} {w : World} {K : PySem.W.Frag} {H : Hp} {Q : VK} {W : Addr → Prop} {x : V} {os : List Bool} {z : Bool} (h : Rp W H x (.list (os.map .bool))) (q : Q (.bl (decide (z ∈ os))) H) : cIn P w K (.bl z) x H Q := by
  obtain ⟨l, xs, rfl, e, _, r⟩ := h.list_
  rw [r.bools_] at e
  exact .inl ⟨l, os.map V.bl, rfl, .inl (SqL.of e), rfl, flat_bls os, by rw [if_neg (by decide), inV_bl]; exact q⟩
theorem v_ninBl {P : Program} {w : World} {K : PySem.W.Frag} {H : Hp} {Q : VK} {W : Addr → Prop} {x : V} {os : List Bool} {z : Bool} (h : Rp W H x (.list (os.map .bool))) (q : Q (.bl (!decide (z ∈ os))) H) : cNotIn P w K (.bl z) x H Q := by
  obtain ⟨l, xs, rfl, e, _, r⟩ := h.list_
  rw [r.bools_] at e
  exact .inl ⟨l, os.map V.bl, rfl, .inl (SqL.of e), rfl, flat_bls os, by rw [if_pos rfl, inV_bl]; exact q⟩
/-! ### dicts keyed by pairs, truths in them -/
def BlV (kvs : List TX) : Prop := ∀ k v, valV kvs k = some v → ∃ b, v = .bl b
def gK (kvs : List TX) (x y : Int) : Bool := match valV kvs (pk (x, y)) with
  | some (.bl b) => b
  | _ => false
theorem gK_get {kvs : List TX} (h : BlV kvs) (x y : Int) : (valV kvs (pk (x, y))).getD (.bl false) = .bl (gK kvs x y) := by
  unfold gK
  cases e : valV kvs (pk (x, y)) with
  | none => rfl
  | some v =>
    obtain ⟨b, rfl⟩ := h _ v e
    rfl
theorem r_dg2 {td ty tx : TE} {σ : L2.St} {H : Hp} {Q : VK} (k : td σ H fun x H1 => ∃ a, x = .ref a ∧ IsD H1 a ∧ ty σ H1 fun y H2 => tx σ H2 fun z H3 => ∃ o, DGet H3 a y o ∧ Q (o.getD z) H3) : tDGet2 td ty tx σ H Q := k
/-- d.get((x, y), False), x and y in slots -/
theorem r_getP {ik ia ib : Nat} {kn : Addr} {kvs : List TX} {x y : Int} {σ : L2.St} {H : Hp} {Q : VK} (hk : σ[ik]? = some (some (.ref kn))) (ha : σ[ia]? = some (some (.int x))) (hb : σ[ib]? = some (some (.int y))) (e : Rd H kn (.dT kvs)) (bl : BlV kvs)
    (q : ∀ H', Keep Nil H H' → Q (.bl (gK kvs x y)) H') : tDGet2 (tVar ik) (tTup (tCons (tVar ia) (tCons (tVar ib) tNil))) (tC (.bl false)) σ H Q := by
  refine r_dg2 (r_var hk ⟨kn, rfl, .inr ⟨kvs, e⟩, r_tup (r_cons (r_var ha (r_cons (r_var hb (r_nil (r_ktup (by simp) fun p hp => r_c ?_))))))⟩)
  have kp : Keep Nil H (upd H p (.tup [.int x, .int y])) := Keep.alloc hp
  have e' : Rd (upd H p (.tup [.int x, .int y])) kn (.dT kvs) := e.imp (fun z => kp.get (fun z => z) z) fun ⟨o, z⟩ => ⟨o, kp.get (fun z => z) z⟩
  have g : DGet (upd H p (.tup [.int x, .int y])) kn (.ref p) (valV kvs (pk (x, y))) := .inr ⟨kvs, pk (x, y), p, e', rfl, upd_same, rfl⟩
  exact ⟨_, g, by rw [gK_get bl]; exact q _ kp⟩
end Hm

namespace Hm
open PySem L2
/-! F3m: the reading's steps. kaf_suf: one step; kaf_pre: what stands at an address; tlg_ne: two addresses differ. -/
local macro_rules | `(tactic| tlg_ne) => `(tactic| first
  | with_reducible assumption
  | with_reducible exact Ne.symm (by assumption)
  | (refine' ne_old (by assumption) ?a; (case a => (kaf_pre; done)))
  | (refine' ne_new (by assumption) ?a; (case a => (kaf_pre; done)))
  | fail "tlg_ne")
local macro_rules | `(tactic| kaf_pre) => `(tactic| first
  | with_reducible assumption
  | ((with_reducible refine' upd_at ?a); (case a => rfl))
  | ((first
      | (with_reducible refine' get_new (by assumption) ?b)
      | ((with_reducible refine' get_set ?a ?b); (case a => (tlg_ne; done)))
      | ((with_reducible refine' Keep.get (by assumption) ?a ?b); (case a => (first | assumption | (intro z; exact z.elim) | fail "kaf_pre")))
      | fail "kaf_pre"); (case b => (kaf_pre; done)))
  | ((fail_if_success (with_reducible refine' is_upd ?_)); assumption)
  | ((with_reducible refine' get_setK ?a ?b ?e); (case a => (kaf_pre; done)); (case b => (kaf_pre; done)); (case e => (intro z; cases z; done)))
  | fail "kaf_pre")
local macro_rules | `(tactic| isplit) => `(tactic| first
  | assumption
  | ((with_reducible refine' seq_new (by assumption) ?a); (case a => (isplit; done)))
  | ((with_reducible refine' seq_keep (by assumption) ?a); (case a => (isplit; done))))
local macro_rules | `(tactic| kaf_suf) => `(tactic| first
  | with_reducible refine r_seq ?_
  | with_reducible refine r_asg ?_
  | ((with_reducible refine' r_var ?a ?_); (case a => rfl))
  | with_reducible refine r_c ?_
  | with_reducible refine r_gname ?_
  | with_reducible refine r_op ?_
  | with_reducible refine r_cons ?_
  | with_reducible refine r_nil ?_
  | with_reducible refine r_cb ?_
  | with_reducible refine r_call ?_
  | with_reducible refine r_meth ?_
  | with_reducible refine r_fld ?_
  | with_reducible refine r_if ?_
  | with_reducible refine r_test ?_
  | with_reducible refine r_kB ?_
  | with_reducible refine r_ite_tt ?_
  | with_reducible refine r_ite_ff ?_
  | with_reducible refine r_ite_nt ?_
  | with_reducible refine r_ite_nf ?_
  | ((with_reducible refine' r_iteT' ?a ?_); (case a => first | assumption | rfl | omega))
  | ((with_reducible refine' r_iteF' ?a ?_); (case a => first | assumption | omega))
  | ((with_reducible refine' r_iteNT' ?a ?_); (case a => first | assumption | omega))
  | ((with_reducible refine' r_iteNF' ?a ?_); (case a => first | assumption | rfl | omega))
  | with_reducible refine r_next ?_
  | with_reducible refine r_nx ?_
  | with_reducible refine r_rt ?_
  | with_reducible refine r_bk ?_
  | with_reducible refine r_ct ?_
  | with_reducible refine r_drop ?_
  | with_reducible refine r_ret ?_
  | with_reducible refine v_add ?_
  | with_reducible refine v_sub ?_
  | with_reducible refine v_eq ?_
  | with_reducible refine v_ne ?_
  | with_reducible refine v_lt ?_
  | with_reducible refine v_le ?_
  | with_reducible refine v_gt ?_
  | with_reducible refine v_ge ?_
  | ((with_reducible refine' v_mod ?a ?_); (case a => first | assumption | decide | omega))
  | ((with_reducible refine' v_mul ?a ?_); (case a => first | assumption | decide | omega))
  | ((with_reducible refine' v_div ?a ?_); (case a => first | assumption | decide | omega))
  | ((with_reducible refine' v_pow ?a ?_); (case a => exact ⟨by decide, by decide, by decide⟩))
  | ((with_reducible refine' v_ixL ?a ?b ?_); (case a => (kaf_pre; done)); (case b => (first | assumption | rfl)))
  | ((with_reducible refine' v_ixT ?a ?b ?_); (case a => (kaf_pre; done)); (case b => (first | assumption | rfl)))
  | ((with_reducible refine' v_lenL ?a ?_); (case a => (kaf_pre; done)))
  | ((with_reducible refine' v_lenT ?a ?_); (case a => (kaf_pre; done)))
  | ((with_reducible refine' v_lenK ?a ?_); (case a => (isplit; done)))
  | ((with_reducible refine' v_ixK ?a ?b ?_); (case a => (isplit; done)); (case b => (first | assumption | rfl)))
  | ((with_reducible refine' v_append ?a ?b ?_); (case a => (kaf_pre; done)); (case b => first | assumption | exact few1 (by simp; omega)))
  | ((with_reducible refine' r_krng1 ?a ?_); (case a => first | assumption | decide | omega))
  | with_reducible refine v_int ?_
  | with_reducible refine v_intB ?_
  | with_reducible refine v_max ?_
  | with_reducible refine v_min ?_
  | with_reducible refine r_and ?_
  | with_reducible refine r_or ?_
  | with_reducible refine r_not ?_
  | with_reducible refine r_tup ?_
  | with_reducible refine r_lst ?_
  | ((with_reducible refine' r_ktup ?a ?_); (case a => (simp; done)))
  | ((with_reducible refine' r_klst ?a ?_); (case a => (simp; done)))
  | with_reducible refine r_bm ?_
  | with_reducible refine r_bm0 ?_
  | ((with_reducible refine' r_kbm_l ?a ?_); (case a => (kaf_pre; done)))
  | with_reducible refine r_gsub ?_
  | ((with_reducible refine' v_setL ?a ?b ?_); (case a => (kaf_pre; done)); (case b => first | assumption | rfl))
  | with_reducible refine r_sfld ?_
  | with_reducible refine r_make ?_
  | with_reducible refine r_for ?_
  | with_reducible refine r_rng1 ?_
  | with_reducible refine r_iany ?_
  | ((with_reducible refine' r_kiterL ?a ?_); (case a => (kaf_pre; done)))
  | ((with_reducible refine' r_kiterT ?a ?_); (case a => (kaf_pre; done)))
  | with_reducible refine r_lc ?_
  | with_reducible refine r_yes ?_
  | with_reducible refine r_chain ?_
  | with_reducible refine r_andV ?_
  | with_reducible refine r_orV ?_
  | with_reducible refine r_notV ?_
  | with_reducible refine r_tru ?_
  | with_reducible refine r_tru_bl ?_
  | with_reducible refine r_un ?_
  | with_reducible refine r_rU ?_
  | with_reducible refine r_sl ?_
  | with_reducible refine r_nopart ?_
  | with_reducible refine r_part ?_
  | with_reducible refine r_kI ?_
  | with_reducible refine r_rev ?_
  | with_reducible refine r_lstRg1 ?_
  | with_reducible refine r_krg ?_
  | with_reducible refine v_isN ?_
  | with_reducible refine v_notN ?_
  | with_reducible refine v_isB ?_
  | with_reducible refine v_notB ?_
  | with_reducible refine v_eqS ?_
  | with_reducible refine v_neS ?_
  | ((with_reducible refine' v_isiI ?a ?_); (case a => first | with_reducible exact kit_int_int | with_reducible exact kit_int_bool | with_reducible exact kit_int_list | with_reducible exact kit_int_tuple | with_reducible exact kit_int_str))
  | ((with_reducible refine' v_isiB ?a ?_); (case a => first | with_reducible exact kit_bool_int | with_reducible exact kit_bool_bool | with_reducible exact kit_bool_list | with_reducible exact kit_bool_tuple | with_reducible exact kit_bool_str))
  | ((with_reducible refine' v_isiS ?a ?_); (case a => first | with_reducible exact kit_str_int | with_reducible exact kit_str_bool | with_reducible exact kit_str_list | with_reducible exact kit_str_tuple | with_reducible exact kit_str_str))
  | ((with_reducible refine' v_isiL ?a ?b ?_); (case a => (kaf_pre; done)); (case b => first | with_reducible exact kit_list_int | with_reducible exact kit_list_bool | with_reducible exact kit_list_list | with_reducible exact kit_list_tuple | with_reducible exact kit_list_str))
  | ((with_reducible refine' v_isiT ?a ?b ?_); (case a => (kaf_pre; done)); (case b => first | with_reducible exact kit_tuple_int | with_reducible exact kit_tuple_bool | with_reducible exact kit_tuple_list | with_reducible exact kit_tuple_tuple | with_reducible exact kit_tuple_str))
  | with_reducible refine r_brk ?_
  | with_reducible refine r_cont ?_
  | with_reducible refine r_par ?_
  | with_reducible refine r_par2 ?_
  | with_reducible refine v_abs ?_
  | ((with_reducible refine' v_listL ?a ?_); (case a => (kaf_pre; done)))
  | ((with_reducible refine' v_listT ?a ?_); (case a => (kaf_pre; done)))
  | ((with_reducible refine' v_set ?a ?b ?_); (case a => (kaf_pre; done)); (case b => first | assumption | omega | (simp; omega)))
  | ((with_reducible refine' v_sortedS ?a ?_); (case a => (kaf_pre; done)))
  | ((with_reducible refine' v_sortedL ?a ?_); (case a => (kaf_pre; done)))
  | ((with_reducible refine' v_tupleL ?a ?_); (case a => (kaf_pre; done)))
  | ((with_reducible refine' v_addL ?a ?b ?e ?_); (case a => (kaf_pre; done)); (case b => (kaf_pre; done)); (case e => first | assumption | exact few2 (by simp; omega)))
  | ((with_reducible refine' v_addT ?a ?b ?e ?_); (case a => (kaf_pre; done)); (case b => (kaf_pre; done)); (case e => first | assumption | exact few2 (by simp; omega))))

def top (i : Nat) : Stmt := PySem.Challenge.pw_hotmoves_k18_whole_no_paper_lies.main.body.getD i (.Pass ⟨0, 0, 0, 0⟩)
abbrev s_reached : Stmt := top 1
abbrev s_moves_by : Stmt := top 2
abbrev s_behind_right : Stmt := top 3
abbrev s_behind_left : Stmt := top 4
abbrev s_pair_holds : Stmt := top 5
abbrev s_pairs_by : Stmt := top 6
abbrev s_no_less : Stmt := top 7
abbrev s_holding : Stmt := top 8
abbrev s_pairs_right : Stmt := top 9
abbrev s_pairs_left : Stmt := top 10
abbrev s_barring : Stmt := top 11
abbrev s_paper : Stmt := top 12
abbrev s_all_in : Stmt := top 13
abbrev s_pair_bars : Stmt := top 14
abbrev s_is_game : Stmt := top 15
abbrev s_moves_around : Stmt := top 16
abbrev s_shows : Stmt := top 17
abbrev s_Book_init : Stmt := inClass (top 22) 0
abbrev s_Book_need : Stmt := inClass (top 22) 1
abbrev s_Book_game : Stmt := inClass (top 22) 2
abbrev s_Book_lefts : Stmt := inClass (top 22) 3
abbrev s_Book_rights : Stmt := inClass (top 22) 4
abbrev s_Book_depth : Stmt := inClass (top 22) 5
abbrev s_Book_many : Stmt := inClass (top 22) 6
abbrev s_law_draws : Stmt := top 24
abbrev s_law_picked : Stmt := top 25
abbrev s_law_games : Stmt := top 26
abbrev s_law_true : Stmt := top 27
abbrev s_law_lists : Stmt := top 28
abbrev s_law : Stmt := top 29
structure Cn where
  P : Program
  w : World
  K : PySem.W.Frag
  cGameError : Addr
  cNoGame : Addr
  cBook : Addr
structure Txt (c : Cn) (mg : Str → Option Value) : Prop where
  n_abs : mg "abs" = none
  n_bool : mg "bool" = none
  n_enumerate : mg "enumerate" = none
  n_int : mg "int" = none
  n_isinstance : mg "isinstance" = none
  n_len : mg "len" = none
  n_list : mg "list" = none
  n_max : mg "max" = none
  n_range : mg "range" = none
  n_set : mg "set" = none
  n_sorted : mg "sorted" = none
  n_tuple : mg "tuple" = none
  g_GameError : mg "GameError" = some (.ref c.cGameError)
  g_NoGame : mg "NoGame" = some (.ref c.cNoGame)
  g_Book : mg "Book" = some (.ref c.cBook)
  cl_Book : Cls c.K c.cBook
  na_Book_depths : NoAttr c.K c.cBook "depths"
  na_Book_moves : NoAttr c.K c.cBook "moves"
  na_Book_numbers : NoAttr c.K c.cBook "numbers"
  F_reached : ∃ (f : Addr) (fd : FuncData), Fun c.K "reached" "reached" s_reached f fd ∧ mg "reached" = some (.ref f) ∧ Binds c.K fd ["book", "g"] []
  F_moves_by : ∃ (f : Addr) (fd : FuncData), Fun c.K "moves_by" "moves_by" s_moves_by f fd ∧ mg "moves_by" = some (.ref f) ∧ Binds c.K fd ["book", "games"] []
  F_behind_right : ∃ (f : Addr) (fd : FuncData), Fun c.K "behind_right" "behind_right" s_behind_right f fd ∧ mg "behind_right" = some (.ref f) ∧ Binds c.K fd ["moves", "known", "r", "y"] []
  F_behind_left : ∃ (f : Addr) (fd : FuncData), Fun c.K "behind_left" "behind_left" s_behind_left f fd ∧ mg "behind_left" = some (.ref f) ∧ Binds c.K fd ["moves", "known", "x", "p"] []
  F_pair_holds : ∃ (f : Addr) (fd : FuncData), Fun c.K "pair_holds" "pair_holds" s_pair_holds f fd ∧ mg "pair_holds" = some (.ref f) ∧ Binds c.K fd ["moves", "known", "x", "y"] []
  F_pairs_by : ∃ (f : Addr) (fd : FuncData), Fun c.K "pairs_by" "pairs_by" s_pairs_by f fd ∧ mg "pairs_by" = some (.ref f) ∧ Binds c.K fd ["book", "g", "h"] []
  F_no_less : ∃ (f : Addr) (fd : FuncData), Fun c.K "no_less" "no_less" s_no_less f fd ∧ mg "no_less" = some (.ref f) ∧ Binds c.K fd ["book", "g", "h"] []
  F_holding : ∃ (f : Addr) (fd : FuncData), Fun c.K "holding" "holding" s_holding f fd ∧ mg "holding" = some (.ref f) ∧ Binds c.K fd ["moves", "known", "x", "y"] []
  F_pairs_right : ∃ (f : Addr) (fd : FuncData), Fun c.K "pairs_right" "pairs_right" s_pairs_right f fd ∧ mg "pairs_right" = some (.ref f) ∧ Binds c.K fd ["moves", "r", "x", "y"] []
  F_pairs_left : ∃ (f : Addr) (fd : FuncData), Fun c.K "pairs_left" "pairs_left" s_pairs_left f fd ∧ mg "pairs_left" = some (.ref f) ∧ Binds c.K fd ["moves", "p", "x", "y"] []
  F_barring : ∃ (f : Addr) (fd : FuncData), Fun c.K "barring" "barring" s_barring f fd ∧ mg "barring" = some (.ref f) ∧ Binds c.K fd ["moves", "known", "x", "y"] []
  F_paper : ∃ (f : Addr) (fd : FuncData), Fun c.K "paper" "paper" s_paper f fd ∧ mg "paper" = some (.ref f) ∧ Binds c.K fd ["book", "g", "h"] []
  F_all_in : ∃ (f : Addr) (fd : FuncData), Fun c.K "all_in" "all_in" s_all_in f fd ∧ mg "all_in" = some (.ref f) ∧ Binds c.K fd ["pairs", "listed"] []
  F_pair_bars : ∃ (f : Addr) (fd : FuncData), Fun c.K "pair_bars" "pair_bars" s_pair_bars f fd ∧ mg "pair_bars" = some (.ref f) ∧ Binds c.K fd ["moves", "listed", "x", "y"] []
  F_is_game : ∃ (f : Addr) (fd : FuncData), Fun c.K "is_game" "is_game" s_is_game f fd ∧ mg "is_game" = some (.ref f) ∧ Binds c.K fd ["book", "number"] []
  F_moves_around : ∃ (f : Addr) (fd : FuncData), Fun c.K "moves_around" "moves_around" s_moves_around f fd ∧ mg "moves_around" = some (.ref f) ∧ Binds c.K fd ["book", "listed"] []
  F_shows : ∃ (f : Addr) (fd : FuncData), Fun c.K "shows" "shows" s_shows f fd ∧ mg "shows" = some (.ref f) ∧ Binds c.K fd ["book", "g", "h", "answer"] []
  F_Book_init : ∃ (f : Addr) (fd : FuncData), Fun c.K "__init__" "Book.__init__" s_Book_init f fd ∧ Mk c.K c.cBook f ∧ Binds c.K fd ["self"] []
  F_Book_need : ∃ (f : Addr) (fd : FuncData), Fun c.K "need" "Book.need" s_Book_need f fd ∧ Meth c.K c.cBook "need" f ∧ Binds c.K fd ["self", "g"] []
  F_Book_game : ∃ (f : Addr) (fd : FuncData), Fun c.K "game" "Book.game" s_Book_game f fd ∧ Meth c.K c.cBook "game" f ∧ Binds c.K fd ["self", "lefts", "rights"] []
  F_Book_lefts : ∃ (f : Addr) (fd : FuncData), Fun c.K "lefts" "Book.lefts" s_Book_lefts f fd ∧ Meth c.K c.cBook "lefts" f ∧ Binds c.K fd ["self", "g"] []
  F_Book_rights : ∃ (f : Addr) (fd : FuncData), Fun c.K "rights" "Book.rights" s_Book_rights f fd ∧ Meth c.K c.cBook "rights" f ∧ Binds c.K fd ["self", "g"] []
  F_Book_depth : ∃ (f : Addr) (fd : FuncData), Fun c.K "depth" "Book.depth" s_Book_depth f fd ∧ Meth c.K c.cBook "depth" f ∧ Binds c.K fd ["self", "g"] []
  F_Book_many : ∃ (f : Addr) (fd : FuncData), Fun c.K "many" "Book.many" s_Book_many f fd ∧ Meth c.K c.cBook "many" f ∧ Binds c.K fd ["self"] []
  F_law_draws : ∃ (f : Addr) (fd : FuncData), Fun c.K "_law_draws" "_law_draws" s_law_draws f fd ∧ mg "_law_draws" = some (.ref f) ∧ Binds c.K fd ["script", "many"] []
  F_law_picked : ∃ (f : Addr) (fd : FuncData), Fun c.K "_law_picked" "_law_picked" s_law_picked f fd ∧ mg "_law_picked" = some (.ref f) ∧ Binds c.K fd ["x", "order"] []
  F_law_games : ∃ (f : Addr) (fd : FuncData), Fun c.K "_law_games" "_law_games" s_law_games f fd ∧ mg "_law_games" = some (.ref f) ∧ Binds c.K fd ["book", "d", "spot", "many"] []
  F_law_true : ∃ (f : Addr) (fd : FuncData), Fun c.K "_law_true" "_law_true" s_law_true f fd ∧ mg "_law_true" = some (.ref f) ∧ Binds c.K fd ["book", "answer"] []
  F_law_lists : ∃ (f : Addr) (fd : FuncData), Fun c.K "_law_lists" "_law_lists" s_law_lists f fd ∧ mg "_law_lists" = some (.ref f) ∧ Binds c.K fd ["d", "order", "one"] []
/-! plain pieces of the deck's text, for laws without a deck -/
theorem keep_noneM {M : Addr → Prop} {H H' : Hp} {p : Addr} (k : Keep M H H') (n : ¬ M p) (h : H' p = none) : H p = none := by
  cases e : H p with
  | none => rfl
  | some o => rw [k p o n e] at h; cases h
theorem atI_get {xs : List V} {i : Int} {v : V} {n : Nat} (h : xs[n]? = some v) (e : i = n) : atI xs i = some v := by
  subst e
  have hn : n < xs.length := (List.getElem?_eq_some_iff.mp h).1
  unfold atI ixN
  rw [if_pos (Int.natCast_nonneg n), if_pos (by omega)]
  simpa using h

/-! the book -/
/-- the rising list of the members -/
def ins (x : Int) : List Int → List Int
  | [] => [x]
  | y :: r => if x < y then x :: y :: r else if x = y then y :: r else y :: ins x r
def canon (l : List Int) : List Int := l.foldr ins []
theorem ins_mem {x z : Int} : ∀ {l : List Int}, z ∈ ins x l ↔ z = x ∨ z ∈ l
  | [] => by simp [ins]
  | y :: r => by
    unfold ins
    split
    · simp
    · split
      · rename_i e; subst e; simp
      · rw [List.mem_cons, ins_mem, List.mem_cons]; constructor
        · rintro (h | h | h) <;> simp [h]
        · rintro (h | h | h) <;> simp [h]
theorem ins_up {x : Int} : ∀ {l : List Int}, l.Pairwise (· < ·) → (ins x l).Pairwise (· < ·)
  | [], _ => by simp [ins]
  | y :: r, h => by
    have h' := List.pairwise_cons.mp h
    unfold ins
    split
    · rename_i lt
      refine List.pairwise_cons.mpr ⟨fun z hz => ?_, h⟩
      rcases List.mem_cons.mp hz with e | hz
      · omega
      · have := h'.1 z hz; omega
    · split
      · exact h
      · refine List.pairwise_cons.mpr ⟨fun z hz => ?_, ins_up h'.2⟩
        rcases ins_mem.mp hz with e | hz
        · omega
        · exact h'.1 z hz
theorem canon_mem {z : Int} : ∀ {l : List Int}, z ∈ canon l ↔ z ∈ l
  | [] => by simp [canon]
  | y :: r => by
    show z ∈ ins y (canon r) ↔ _
    rw [ins_mem, canon_mem, List.mem_cons]
theorem canon_up : ∀ (l : List Int), (canon l).Pairwise (· < ·)
  | [] => List.Pairwise.nil
  | y :: r => ins_up (canon_up r)
theorem up_eq : ∀ {a b : List Int}, a.Pairwise (· < ·) → b.Pairwise (· < ·) → (∀ z, z ∈ a ↔ z ∈ b) → a = b
  | [], [], _, _, _ => rfl
  | [], y :: r, _, _, h => absurd ((h y).mpr List.mem_cons_self) (by simp)
  | x :: a, [], _, _, h => absurd ((h x).mp List.mem_cons_self) (by simp)
  | x :: a, y :: b, ha, hb, h => by
    have ha' := List.pairwise_cons.mp ha
    have hb' := List.pairwise_cons.mp hb
    have e : x = y := by
      rcases List.mem_cons.mp ((h x).mp List.mem_cons_self) with e | h1
      · exact e
      · rcases List.mem_cons.mp ((h y).mpr List.mem_cons_self) with e | h2
        · exact e.symm
        · have := hb'.1 x h1; have := ha'.1 y h2; omega
    subst e
    refine congrArg (x :: ·) (up_eq ha'.2 hb'.2 fun z => ⟨fun hz => ?_, fun hz => ?_⟩)
    · rcases List.mem_cons.mp ((h z).mp (List.mem_cons_of_mem _ hz)) with e | h1
      · have := ha'.1 z hz; omega
      · exact h1
    · rcases List.mem_cons.mp ((h z).mpr (List.mem_cons_of_mem _ hz)) with e | h1
      · have := hb'.1 z hz; omega
      · exact h1
theorem canon_eq {l ns : List Int} (h1 : ns.Pairwise (· < ·)) (h2 : ∀ z, z ∈ ns ↔ z ∈ l) : ns = canon l := up_eq h1 (canon_up l) fun z => by rw [h2, canon_mem]
theorem ins_len (x : Int) : ∀ (l : List Int), (ins x l).length ≤ l.length + 1
  | [] => by simp [ins]
  | y :: r => by
    have := ins_len x r
    unfold ins
    split
    · simp
    · split
      · simp
      · simp only [List.length_cons]; omega
theorem canon_len' : ∀ (l : List Int), (canon l).length ≤ l.length
  | [] => by simp [canon]
  | y :: r => by
    have h1 := canon_len' r
    have h2 := ins_len y (canon r)
    show (ins y (canon r)).length ≤ _
    simp only [List.length_cons]; omega
theorem canon_self {l : List Int} (h : l.Pairwise (· < ·)) : canon l = l := (canon_eq h fun _ => Iff.rfl).symm
/-- a game: left's moves, right's -/
abbrev Gm := List Int × List Int
def gkey (g : Gm) : NestedKey := .tup [.tup (g.1.map .num), .tup (g.2.map .num)]
theorem num_inj : ∀ {a b : List Int}, a.map NestedKey.num = b.map NestedKey.num → a = b
  | [], [], _ => rfl
  | [], _ :: _, h => by simp at h
  | _ :: _, [], h => by simp at h
  | x :: a, y :: b, h => by
    rw [List.map_cons, List.map_cons] at h
    injection h with h1 h2
    injection h1 with h1
    rw [h1, num_inj h2]
theorem gkey_inj {a b : Gm} (h : gkey a = gkey b) : a = b := by
  unfold gkey at h
  injection h with h
  injection h with h1 h2
  injection h1 with h1
  injection h2 with h2 _
  injection h2 with h2
  exact Prod.ext (num_inj h1) (num_inj h2)
/-- the depths of the moves -/
def dps (ds ms : List Int) : List Int := ms.map fun m => ds[m.toNat]?.getD 0
def deepest (ds : List Int) (ms : List Int) (d : Int) : Prop := (ms = [] → d = 0) ∧ (∀ x ∈ dps ds ms, x + 1 ≤ d) ∧ (ms ≠ [] → ∃ x ∈ dps ds ms, d = x + 1)
theorem dps_more {ds e ms : List Int} (h : ∀ m ∈ ms, 0 ≤ m ∧ m < ds.length) : dps (ds ++ e) ms = dps ds ms := by
  refine List.map_congr_left fun m hm => ?_
  obtain ⟨h1, h2⟩ := h m hm
  rw [List.getElem?_append_left (by omega)]
/-- what holds of a book's games -/
structure GOk (gs : List Gm) : Prop where
  zero : gs[0]? = some ([], [])
  nd : gs.Nodup
  up : ∀ g ∈ gs, g.1.Pairwise (· < ·) ∧ g.2.Pairwise (· < ·)
  low : ∀ (i : Nat) (g : Gm), gs[i]? = some g → ∀ m ∈ g.1 ++ g.2, 0 ≤ m ∧ m < i
/-- the depths -/
structure DOk (gs : List Gm) (ds : List Int) : Prop where
  len : ds.length = gs.length
  at_ : ∀ (i : Nat) (g : Gm) (d : Int), gs[i]? = some g → ds[i]? = some d → deepest ds (g.1 ++ g.2) d
def bookFs (mv nm dp : Addr) : List (Str × V) := [("moves", .ref mv), ("numbers", .ref nm), ("depths", .ref dp)]
theorem bookFs_moves {mv nm dp : Addr} : (bookFs mv nm dp).lookup ("moves" : Str) = some (.ref mv) := by rfl
theorem bookFs_numbers {mv nm dp : Addr} : (bookFs mv nm dp).lookup ("numbers" : Str) = some (.ref nm) := by rfl
theorem bookFs_depths {mv nm dp : Addr} : (bookFs mv nm dp).lookup ("depths" : Str) = some (.ref dp) := by rfl
theorem bookFs_need {mv nm dp : Addr} : (bookFs mv nm dp).lookup ("need" : Str) = none := by rfl
theorem bookFs_game {mv nm dp : Addr} : (bookFs mv nm dp).lookup ("game" : Str) = none := by rfl
theorem bookFs_lefts {mv nm dp : Addr} : (bookFs mv nm dp).lookup ("lefts" : Str) = none := by rfl
theorem bookFs_rights {mv nm dp : Addr} : (bookFs mv nm dp).lookup ("rights" : Str) = none := by rfl
theorem bookFs_depth {mv nm dp : Addr} : (bookFs mv nm dp).lookup ("depth" : Str) = none := by rfl
theorem bookFs_many {mv nm dp : Addr} : (bookFs mv nm dp).lookup ("many" : Str) = none := by rfl
/-- the tuple at t is the game g -/
def GAt (H : Hp) (t : Addr) (g : Gm) : Prop := ∃ a b, H t = some (.tup [.ref a, .ref b]) ∧ H a = some (.tup (g.1.map V.int)) ∧ H b = some (.tup (g.2.map V.int))
structure BookAt (c : Cn) (H : Hp) (b : Addr) (M : Addr → Prop) (gs : List Gm) (ds : List Int) : Prop where
  ok : GOk gs
  dok : DOk gs ds
  ex : ∃ (dx mv nm dp : Addr) (ts : List Addr) (xs : List NX), H b = some (.ins c.cBook dx (bookFs mv nm dp)) ∧ H mv = some (.lst (ts.map V.ref)) ∧ Paired (GAt H) ts gs ∧
    NdAt c.P c.w H nm xs ∧ xs.length = gs.length ∧ (∀ g : Gm, nval xs (gkey g) = if g ∈ gs then some (V.int (gs.idxOf g)) else none) ∧ H dp = some (.lst (ds.map V.int)) ∧
    M mv ∧ M nm ∧ M dp ∧ mv ≠ dp ∧ ∀ x, M x → x = mv ∨ x = nm ∨ x = dp
theorem BookAt.ins_ {c : Cn} {H : Hp} {b : Addr} {M : Addr → Prop} {gs : List Gm} {ds : List Int} (B : BookAt c H b M gs ds) : ∃ dx mv nm dp, H b = some (.ins c.cBook dx (bookFs mv nm dp)) := by
  obtain ⟨dx, mv, nm, dp, _, _, h, _⟩ := B.ex
  exact ⟨dx, mv, nm, dp, h⟩
theorem paired_get {α β : Type} {R : α → β → Prop} : ∀ {xs : List α} {ys : List β} {i : Nat} {y : β}, Paired R xs ys → ys[i]? = some y → ∃ x, xs[i]? = some x ∧ R x y
  | _, _, _, _, .nil, h => by simp at h
  | _, _, 0, _, .cons r _, h => by simp at h; subst h; exact ⟨_, rfl, r⟩
  | _, _, i + 1, _, .cons _ t, h => by
    obtain ⟨x, h1, h2⟩ := paired_get (i := i) t (by simpa using h)
    exact ⟨x, by simpa using h1, h2⟩
theorem paired_keep {α β : Type} {R S : α → β → Prop} {xs : List α} {ys : List β} (h : Paired R xs ys) (f : ∀ a b, R a b → S a b) : Paired S xs ys := Paired.mapP h f
theorem GAt.keep {H H' : Hp} {t : Addr} {g : Gm} (h : GAt H t g) (k : ∀ b xs, H b = some (.tup xs) → H' b = some (.tup xs)) : GAt H' t g := by
  obtain ⟨a, b, h1, h2, h3⟩ := h
  exact ⟨a, b, k _ _ h1, k _ _ h2, k _ _ h3⟩
section
variable {c : Cn} {H H' : Hp} {b : Addr} {M N : Addr → Prop} {gs : List Gm} {ds : List Int}
theorem BookAt.cell (B : BookAt c H b M gs ds) {x : Addr} (h : M x) : (∃ l, H x = some (.lst l)) ∨ ∃ φ, H x = some (.ext φ) := by
  obtain ⟨dx, mv, nm, dp, ts, xs, _, h2, _, h4, _, _, h7, _, _, _, _, h8⟩ := B.ex
  rcases h8 x h with rfl | rfl | rfl
  · exact .inl ⟨_, h2⟩
  · exact .inr ⟨_, h4.here⟩
  · exact .inl ⟨_, h7⟩
theorem BookAt.new (B : BookAt c H b M gs ds) {x : Addr} (h : H x = none) : ¬ M x := fun z => by
  rcases B.cell z with ⟨_, e⟩ | ⟨_, e⟩ <;> rw [h] at e <;> cases e
theorem BookAt.tupN (B : BookAt c H b M gs ds) {x : Addr} {l : List V} (h : H x = some (.tup l)) : ¬ M x := fun z => by
  rcases B.cell z with ⟨_, e⟩ | ⟨_, e⟩ <;> rw [h] at e <;> cases e
theorem BookAt.insN (B : BookAt c H b M gs ds) {x C dx : Addr} {l : List (Str × V)} (h : H x = some (.ins C dx l)) : ¬ M x := fun z => by
  rcases B.cell z with ⟨_, e⟩ | ⟨_, e⟩ <;> rw [h] at e <;> cases e
theorem BookAt.keep (B : BookAt c H b M gs ds) (k : Keep N H H') (n : ∀ x, N x → ∃ l, H x = some (.lst l)) (d : ∀ x, M x → ¬ N x) : BookAt c H' b M gs ds := by
  obtain ⟨dx, mv, nm, dp, ts, xs, h1, h2, h3, h4, h5, h6, h7, m1, m2, m3, ne, h8⟩ := B.ex
  have kt : ∀ q ys, H q = some (.tup ys) → H' q = some (.tup ys) := fun q ys e => k _ _ (fun z => by obtain ⟨l, e'⟩ := n q z; rw [e] at e'; cases e') e
  refine ⟨B.ok, B.dok, dx, mv, nm, dp, ts, xs, k _ _ (fun z => ?_) h1, k _ _ (d _ m1) h2, paired_keep h3 fun t g q => q.keep kt, ⟨k _ _ (d _ m2) h4.here, fun x hx => ⟨NkV.keeps kt _ _ (h4.keys x hx).1, (h4.keys x hx).2⟩⟩, h5, h6, k _ _ (d _ m3) h7, m1, m2, m3, ne, h8⟩
  obtain ⟨l, e'⟩ := n b z; rw [h1] at e'; cases e'
theorem BookAt.same (B : BookAt c H b M gs ds) (k : Keep Nil H H') : BookAt c H' b M gs ds := B.keep k (fun _ z => z.elim) fun _ _ z => z
theorem BookAt.pos (B : BookAt c H b M gs ds) : 0 < gs.length := by
  have := B.ok.zero
  exact (List.getElem?_eq_some_iff.mp this).1
end
local macro_rules | `(tactic| kaf_suf) => `(tactic| first
  | ((with_reducible refine' r_kfld ?a (Txt.cl_Book (by assumption)) (Txt.na_Book_moves (by assumption)) bookFs_moves ?_); (case a => (kaf_pre; done)))
  | ((with_reducible refine' r_kfld ?a (Txt.cl_Book (by assumption)) (Txt.na_Book_numbers (by assumption)) bookFs_numbers ?_); (case a => (kaf_pre; done)))
  | ((with_reducible refine' r_kfld ?a (Txt.cl_Book (by assumption)) (Txt.na_Book_depths (by assumption)) bookFs_depths ?_); (case a => (kaf_pre; done)))
  | ((with_reducible refine' r_kmeth ?a ?b ?_); (case a => (kaf_pre; done)); (case b => (first | exact bookFs_need | exact bookFs_game | exact bookFs_lefts | exact bookFs_rights | exact bookFs_depth | exact bookFs_many))))

abbrev N_Book_need : List Str := ["self", "g"]
theorem sc_Book_need : FnScope N_Book_need ["self", "g"] (defScope s_Book_need) := ⟨rfl, rfl, rfl, by decide +kernel, rfl, by decide +kernel, by decide +kernel⟩
def t_Book_need (c : Cn) : TS :=
  (tIfS (tOr (tNot (tTru c.K (tCB (rIsi c.K) (tCons (tVar 1) (tCons (tC (.ty "int")) tNil))))) (tOr (tTru c.K (tCB (rIsi c.K) (tCons (tVar 1) (tCons (tC (.ty "bool")) tNil)))) (tOr (tTest (tOp (cLt c.K) (tVar 1) (tC (.int 0)))) (tTest (tOp cGe (tVar 1) (tCB (kLen c.K) (tCons (tFld c.K (tVar 0) "moves") tNil)))))))
  tNever
  tNext)
def sp_Book_need (c : Cn) : Sp := fun vs H Q E => vs.length = 2 ∧ ∃ (b : Addr) (M : Addr → Prop) (gs : List Gm) (ds : List Int) (g : Int), vs = [.ref b, .int g] ∧ BookAt c H b M gs ds ∧ 0 ≤ g ∧ g < gs.length ∧ Q .non H
theorem p_Book_need {c : Cn} {mg : Str → Option Value} (T : Txt c mg) {vs : List V} {H : Hp} {Q : VK} {E : XK} (h : sp_Book_need c vs H Q E) : t_Book_need c { nx := fun _ H' => Q .non H', rt := Q } (start N_Book_need vs) H := by
  obtain ⟨_, b, M, gs, ds, g, rfl, B, g0, g1, k⟩ := h
  obtain ⟨dx, mv, nm, dp, ts, xs, h1, h2, h3, h4, h5, h6, h7, m1, m2, m3, ne, h8⟩ := B.ex
  have hl : ((ts.map V.ref).length : Int) = gs.length := by rw [List.length_map, Paired.length h3]
  unfold t_Book_need
  repeat kaf_suf
  exact k
theorem met_Book_need {c : Cn} {mg : Str → Option Value} {base : Heap} (T : Txt c mg) : Met c.P c.w c.K mg base CX0 1 c.cBook "need" (sp_Book_need c) := by
  obtain ⟨f, fd, F, g, b⟩ := T.F_Book_need
  exact ⟨f, fd, ["self", "g"], T.cl_Book, g, F.ok (k := 0) (N := N_Book_need) sc_Book_need (fun vs H Q E h => h.1) (fun cdv A outer s H vs Q E hr h => ⟨t_Book_need c, by
  exact (pss_one (ps_if (PW.pt (pw_or (pt_not (p_tru (pe_callB k_isi (by rfl) T.n_isinstance (by decide +kernel) (pa_cons (pv 1) (pa_cons (pe_bltn rfl T.n_int (by decide +kernel) rfl) pa_nil))))) (pw_or (p_tru (pe_callB k_isi (by rfl) T.n_isinstance (by decide +kernel) (pa_cons (pv 1) (pa_cons (pe_bltn rfl T.n_bool (by decide +kernel) rfl) pa_nil)))) (pw_or (pt_cmpR (o_lt (hu64 hr)) (pv 1) pe_int (nomark _)) (pw_or1 (pt_cmpR o_ge (pv 1) (pe_callB k_len (by rfl) T.n_len (by decide +kernel) (pa_cons (pe_fld (pv 0) rfl) pa_nil)) (nomark _))))))) (pss_one ps_never) pss_nil)), p_Book_need T h⟩), b⟩
/-! the games behind a putting -/
def addG (gs : List Gm) (k : Gm) : List Gm := if k ∈ gs then gs else gs ++ [k]
def ixG (gs : List Gm) (k : Gm) : Nat := gs.idxOf k
theorem nk_nums {H : Hp} : ∀ (l : List Int), NkVs H (l.map .num) (l.map V.int)
  | [] => by simp [NkVs]
  | x :: r => by
    simp only [List.map_cons, NkVs]
    exact ⟨_, _, rfl, by simp [NkV], nk_nums r⟩
theorem GAt.nk {H : Hp} {t : Addr} {g : Gm} (h : GAt H t g) : NkV H (gkey g) (.ref t) := by
  obtain ⟨a, b, h1, h2, h3⟩ := h
  unfold gkey
  simp only [NkV]
  refine ⟨t, _, rfl, h1, ?_⟩
  simp only [NkVs, NkV]
  exact ⟨_, _, rfl, ⟨a, _, rfl, h2, nk_nums _⟩, _, _, rfl, ⟨b, _, rfl, h3, nk_nums _⟩, rfl⟩
theorem dep_nums : ∀ (l : List Int), NestedKey.depthAll (l.map .num) ≤ 0
  | [] => by simp [NestedKey.depthAll]
  | x :: r => by
    have := dep_nums r
    simp only [List.map_cons, NestedKey.depthAll, NestedKey.depth]; omega
theorem gkey_depth (g : Gm) : (gkey g).depth ≤ 8 := by
  have h1 := dep_nums g.1
  have h2 := dep_nums g.2
  unfold gkey
  simp only [NestedKey.depth, NestedKey.depthAll]; omega
theorem nd_neL {P : Program} {w : World} {H : Hp} {a x : Addr} {xs : List NX} {l : List V} (N : NdAt P w H a xs) (h : H x = some (.lst l)) : x ≠ a := fun z => by
  rw [z, N.here] at h; unfold NdO at h; cases Option.some.inj h
theorem nd_neT {P : Program} {w : World} {H : Hp} {a x : Addr} {xs : List NX} {l : List V} (N : NdAt P w H a xs) (h : H x = some (.tup l)) : x ≠ a := fun z => by
  rw [z, N.here] at h; unfold NdO at h; cases Option.some.inj h
theorem nd_neI {P : Program} {w : World} {H : Hp} {a x C dx : Addr} {xs : List NX} {l : List (Str × V)} (N : NdAt P w H a xs) (h : H x = some (.ins C dx l)) : x ≠ a := fun z => by
  rw [z, N.here] at h; unfold NdO at h; cases Option.some.inj h
theorem lt_ne {H : Hp} {a x : Addr} {l m : List V} (N : H a = some (.lst m)) (h : H x = some (.tup l)) : x ≠ a := fun z => by
  rw [z, N] at h; cases h
theorem li_ne {H : Hp} {a x C dx : Addr} {l : List (Str × V)} {m : List V} (N : H a = some (.lst m)) (h : H x = some (.ins C dx l)) : x ≠ a := fun z => by
  rw [z, N] at h; cases h
theorem nput_new {xs : List NX} {k : NestedKey} {a : Addr} {v : V} (h : nval xs k = none) : nput xs k a v = xs ++ [(k, a, v)] := by
  unfold nput; rw [h]; rfl
theorem nval_snoc {xs : List NX} {k k' : NestedKey} {a : Addr} {v : V} : nval (xs ++ [(k, a, v)]) k' = (nval xs k').or (if k = k' then some v else none) := by
  unfold nval
  rw [List.find?_append]
  cases e : xs.find? fun x => decide (x.1 = k') with
  | some q => simp
  | none =>
    by_cases h : k = k'
    · simp [h]
    · simp [h]
theorem v_ninN {P : Program} {w : World} {K : PySem.W.Frag} {H : Hp} {Q : VK} {p a : Addr} {k : NestedKey} {xs : List NX} (N : NdAt P w H a xs) (kp : NkV H k (.ref p)) (d : k.depth ≤ 8) (q : Q (.bl (!(nval xs k).isSome)) H) : cNotIn P w K (.ref p) (.ref a) H Q := by
  refine .inr (.inr (.inr (.inr ⟨a, p, k, xs, rfl, rfl, N, kp, d, ?_⟩)))
  simpa using q
theorem v_inN {P : Program} {w : World} {K : PySem.W.Frag} {H : Hp} {Q : VK} {p a : Addr} {k : NestedKey} {xs : List NX} (N : NdAt P w H a xs) (kp : NkV H k (.ref p)) (d : k.depth ≤ 8) (q : Q (.bl (nval xs k).isSome) H) : cIn P w K (.ref p) (.ref a) H Q := by
  refine .inr (.inr (.inr (.inr ⟨a, p, k, xs, rfl, rfl, N, kp, d, ?_⟩)))
  simpa using q
theorem v_ixN {P : Program} {w : World} {K : PySem.W.Frag} {H : Hp} {Q : VK} {p a : Addr} {k : NestedKey} {xs : List NX} {v : V} (N : NdAt P w H a xs) (kp : NkV H k (.ref p)) (d : k.depth ≤ 8) (e : nval xs k = some v) (q : Q v H) : bIx P w K (.ref a) (.ref p) H Q :=
  .inr (.inr (.inr (.inr ⟨a, p, k, xs, v, rfl, rfl, N, kp, d, e, q⟩)))
theorem v_setN {P : Program} {w : World} {H : Hp} {Q : Hp → Prop} {p a : Addr} {k : NestedKey} {xs : List NX} {v : V} (N : NdAt P w H a xs) (kp : NkV H k (.ref p)) (d : k.depth ≤ 8) (l : xs.length < sizeLine) (q : Q (upd H a (NdO P w a (nput xs k p v)))) : bSet P w (.ref a) (.ref p) v H Q :=
  .inr (.inr ⟨a, p, k, xs, rfl, rfl, N, kp, d, l, q⟩)
theorem GOk.add {gs : List Gm} (o : GOk gs) {ls rs : List Int} (h : ∀ m ∈ ls ++ rs, 0 ≤ m ∧ m < gs.length) : GOk (addG gs (canon ls, canon rs)) := by
  unfold addG
  split
  · exact o
  · rename_i ni
    have pos : 0 < gs.length := (List.getElem?_eq_some_iff.mp o.zero).1
    refine ⟨?_, ?_, fun g hg => ?_, fun i g hi m hm => ?_⟩
    · rw [List.getElem?_append_left pos]; exact o.zero
    · refine List.nodup_append.mpr ⟨o.nd, by simp, fun a ha b hb => ?_⟩
      cases List.mem_singleton.mp hb
      exact fun z => ni (z ▸ ha)
    · rcases List.mem_append.mp hg with hg | hg
      · exact o.up g hg
      · cases List.mem_singleton.mp hg
        exact ⟨canon_up _, canon_up _⟩
    · by_cases lt : i < gs.length
      · rw [List.getElem?_append_left lt] at hi
        exact o.low i g hi m hm
      · have hl := (List.getElem?_eq_some_iff.mp hi).1
        have e : i = gs.length := by rw [List.length_append] at hl; simp at hl; omega
        subst e
        rw [List.getElem?_append_right (Nat.le_refl _)] at hi
        simp at hi
        subst hi
        rw [List.mem_append, canon_mem, canon_mem, ← List.mem_append] at hm
        exact h m hm
theorem DOk.add {gs : List Gm} {ds : List Int} (d : DOk gs ds) (o : GOk gs) {k : Gm} (h : ∀ m ∈ k.1 ++ k.2, 0 ≤ m ∧ m < gs.length) (ne : k.1 ++ k.2 ≠ []) {m : Int} (hm : m ∈ dps ds (k.1 ++ k.2)) (hx : ∀ x ∈ dps ds (k.1 ++ k.2), x ≤ m) : DOk (gs ++ [k]) (ds ++ [1 + m]) := by
  refine ⟨by simp [d.len], fun i g e hg he => ?_⟩
  by_cases lt : i < gs.length
  · rw [List.getElem?_append_left lt] at hg
    rw [List.getElem?_append_left (by rw [d.len]; exact lt)] at he
    have b : ∀ m ∈ g.1 ++ g.2, 0 ≤ m ∧ m < ds.length := fun m hm => by have := o.low i g hg m hm; rw [d.len]; omega
    unfold deepest
    rw [dps_more b]
    exact d.at_ i g e hg he
  · have hl := (List.getElem?_eq_some_iff.mp hg).1
    have e : i = gs.length := by rw [List.length_append] at hl; simp at hl; omega
    subst e
    rw [List.getElem?_append_right (Nat.le_refl _)] at hg
    rw [← d.len, List.getElem?_append_right (Nat.le_refl _)] at he
    simp at hg he
    subst hg he
    unfold deepest
    rw [dps_more (by rw [d.len]; exact h)]
    exact ⟨fun z => absurd z ne, fun x q => by have := hx x q; omega, fun _ => ⟨m, hm, by omega⟩⟩
theorem ixG_get {gs : List Gm} {k : Gm} (h : k ∈ gs) : gs[ixG gs k]? = some k := by
  have l := List.idxOf_lt_length_of_mem h
  rw [ixG, List.getElem?_eq_getElem l, List.getElem_idxOf l]
theorem addG_mem (gs : List Gm) (k : Gm) : k ∈ addG gs k := by
  unfold addG; split
  · assumption
  · simp
theorem addG_len {gs : List Gm} {k : Gm} : (addG gs k).length ≤ gs.length + 1 ∧ gs.length ≤ (addG gs k).length := by
  unfold addG; split <;> simp
theorem addG_get {gs : List Gm} {k g : Gm} {i : Nat} (h : gs[i]? = some g) : (addG gs k)[i]? = some g := by
  unfold addG; split
  · exact h
  · rw [List.getElem?_append_left (List.getElem?_eq_some_iff.mp h).1]; exact h
abbrev N_Book_game : List Str := ["self", "lefts", "rights", "g", "key"]
theorem sc_Book_game : FnScope N_Book_game ["self", "lefts", "rights"] (defScope s_Book_game) := ⟨rfl, rfl, rfl, by decide +kernel, rfl, by decide +kernel, by decide +kernel⟩
def t_Book_game (c : Cn) : TS :=
  (tSeq (tFor (iAny c.K (tOp (bAdd c.K) (tCB (kList c.K) (tCons (tVar 1) tNil)) (tCB (kList c.K) (tCons (tVar 2) tNil)))) (gName 3)
  (tDrop (tMeth c.cBook "need" (sp_Book_need c) [] E0 (tVar 0) (tCons (tVar 3) tNil))))
  (tSeq (tAsg (tTup (tCons (tCB (kTuple c.K) (tCons (tCB (kSorted c.K c.w) (tCons (tCB (uSetI c.K c.w) (tCons (tVar 1) tNil)) tNil)) tNil)) (tCons (tCB (kTuple c.K) (tCons (tCB (kSorted c.K c.w) (tCons (tCB (uSetI c.K c.w) (tCons (tVar 2) tNil)) tNil)) tNil)) tNil))) (gName 4))
  (C8.tCut (tIfS (tTest (tOp (cNotIn c.P c.w c.K) (tVar 4) (tFld c.K (tVar 0) "numbers")))
  (tSeq (tAsg (tCB (kLen c.K) (tCons (tFld c.K (tVar 0) "moves") tNil)) (gSub (tFld c.K (tVar 0) "numbers") (tVar 4) (bSet c.P c.w)))
  (tSeq (tDrop (tBM c.K "list" rAppend (tFld c.K (tVar 0) "moves") (tCons (tVar 4) tNil)))
  (tDrop (tBM c.K "list" rAppend (tFld c.K (tVar 0) "depths") (tCons (tOp (bAdd c.K) (tC (.int 1)) (tCB (kMax c.K) (tCons (tLc (iAny c.K (tOp (bAdd c.K) (tOp (bIx c.P c.w c.K) (tVar 4) (tC (.int 0))) (tOp (bIx c.P c.w c.K) (tVar 4) (tC (.int 1))))) (gName 3) tYes (tOp (bIx c.P c.w c.K) (tFld c.K (tVar 0) "depths") (tVar 3)) [3]) tNil))) tNil)))))
  tNext)
  (tRet (tOp (bIx c.P c.w c.K) (tFld c.K (tVar 0) "numbers") (tVar 4))))))
def sp_Book_game (c : Cn) : Sp := fun vs H Q E => vs.length = 3 ∧ ∃ (b l r : Addr) (M : Addr → Prop) (gs : List Gm) (ds ls rs : List Int), vs = [.ref b, .ref l, .ref r] ∧ BookAt c H b M gs ds ∧ H l = some (.lst (ls.map V.int)) ∧ H r = some (.lst (rs.map V.int)) ∧ ¬ M l ∧ ¬ M r ∧
  gs.length ≤ 90000 ∧ ls.length ≤ 4000 ∧ rs.length ≤ 4000 ∧ (∀ m ∈ ls ++ rs, 0 ≤ m ∧ m < gs.length) ∧
  ∀ (H' : Hp) (e : List Int), Keep M H H' → BookAt c H' b M (addG gs (canon ls, canon rs)) (ds ++ e) → Q (.int (ixG (addG gs (canon ls, canon rs)) (canon ls, canon rs))) H'
theorem p_Book_game {c : Cn} {mg : Str → Option Value} (T : Txt c mg) {vs : List V} {H : Hp} {Q : VK} {E : XK} (h : sp_Book_game c vs H Q E) : t_Book_game c { nx := fun _ H' => Q .non H', rt := Q } (start N_Book_game vs) H := by
  obtain ⟨_, b, l, r, M, gs, ds, ls, rs, rfl, B, hl, hr, nl, nr, fw1, fw2, fw3, low, k⟩ := h
  unfold t_Book_game
  repeat kaf_suf
  intro p1 hp1
  repeat kaf_suf
  intro p2 hp2
  repeat kaf_suf
  intro p3 hp3
  repeat kaf_suf
  have kp3 : Keep Nil H (upd (upd (upd H p1 (.lst (ls.map V.int))) p2 (.lst (rs.map V.int))) p3 (.lst (ls.map V.int ++ rs.map V.int))) := ((Keep.alloc hp1).new hp2).new hp3
  have B3 := B.same kp3
  have hl3 := kp3.get (fun z => z) hl
  have hr3 := kp3.get (fun z => z) hr
  have h3 : upd (upd (upd H p1 (.lst (ls.map V.int))) p2 (.lst (rs.map V.int))) p3 (.lst (ls.map V.int ++ rs.map V.int)) p3 = some (.lst (ls.map V.int ++ rs.map V.int)) := upd_same
  generalize hH3 : upd (upd (upd H p1 (.lst (ls.map V.int))) p2 (.lst (rs.map V.int))) p3 (.lst (ls.map V.int ++ rs.map V.int)) = H3 at kp3 B3 hl3 hr3 h3 ⊢
  refine for_list (xs := ls.map V.int ++ rs.map V.int) (fun i σ H' => H' = H3 ∧ ∃ y, σ = [some (.ref b), some (.ref l), some (.ref r), y, none]) ⟨rfl, _, rfl⟩ ?_ ?_ ?_
  · rintro i σ H' hi ⟨rfl, y, rfl⟩; exact SqL.of h3
  · rintro i x σ H' hi ⟨rfl, y, rfl⟩
    obtain ⟨m, hm, rfl⟩ : ∃ m ∈ ls ++ rs, V.int m = x := by
      rw [← List.map_append] at hi
      have := List.mem_of_getElem? hi
      exact List.mem_map.mp this
    obtain ⟨hm0, hm1⟩ := low m hm
    obtain ⟨dx, mv, nm, dp, hb3⟩ := B3.ins_
    repeat kaf_suf
    refine ⟨rfl, b, M, gs, ds, m, rfl, B3, hm0, hm1, ?_⟩
    repeat kaf_suf
    exact ⟨rfl, _, rfl⟩
  · rintro σ H' ⟨rfl, y, rfl⟩
    have w1 : ls.length ≤ 4000 := by omega
    have w2 : rs.length ≤ 4000 := by omega
    repeat kaf_suf
    intro p4 c4 hp4 _
    repeat kaf_suf
    intro ns4 p5 u4 m4 _ hp5
    repeat kaf_suf
    intro p6 hp6
    repeat kaf_suf
    intro p7 c7 hp7 _
    repeat kaf_suf
    intro ns7 p8 u7 m7 _ hp8
    repeat kaf_suf
    intro p9 hp9
    repeat kaf_suf
    intro t ht
    repeat kaf_suf
    obtain rfl : ns4 = canon ls := canon_eq u4 (by simpa using m4)
    obtain rfl : ns7 = canon rs := canon_eq u7 (by simpa using m7)
    refine absS (S := fun HT => Keep Nil H HT ∧ GAt HT t (canon ls, canon rs)) ⟨?_, p6, p9, upd_same, by kaf_pre, by kaf_pre⟩ fun HT ⟨kT, gT⟩ => ?_
    · exact (((((((kp3.new hp4).new hp5).new hp6).new hp7).new hp8).new hp9).new ht)
    have BT := B.same kT
    obtain ⟨dx, mv, nm, dp, ts, xs, h1, h2, h3, h4, h5, h6, h7, m1, m2, m3, ne, h8⟩ := BT.ex
    have hlen := BT.dok.len
    have htl := Paired.length h3
    have hv := h6 (canon ls, canon rs)
    refine ⟨fun σ' H2 => ∃ y e, σ' = [some (.ref b), some (.ref l), some (.ref r), y, some (.ref t)] ∧ Keep M H H2 ∧ BookAt c H2 b M (addG gs (canon ls, canon rs)) (ds ++ e) ∧ GAt H2 t (canon ls, canon rs), ?_, ?_⟩
    · repeat kaf_suf
      refine v_ninN h4 gT.nk (gkey_depth _) ?_
      by_cases hin : (canon ls, canon rs) ∈ gs
      · rw [hv, if_pos hin]
        repeat kaf_suf
        exact ⟨_, [], rfl, kT.weak, by rw [List.append_nil, addG, if_pos hin]; exact BT, gT⟩
      · rw [hv, if_neg hin]
        rw [if_neg hin] at hv
        refine r_kB (r_ite_nf ?_)
        repeat kaf_suf
        have e1 := nd_neL h4 h2
        have e2 := nd_neL h4 h7
        have e3 := nd_neI h4 h1
        have e4 := li_ne h2 h1
        have e5 := li_ne h7 h1
        obtain ⟨ka, kb, t1, t2, t3⟩ := id gT
        have ea1 := nd_neT h4 t1
        have ea2 := lt_ne h2 t1
        have ea3 := lt_ne h7 t1
        have eb1 := nd_neT h4 t2
        have eb2 := lt_ne h2 t2
        have eb3 := lt_ne h7 t2
        have ec1 := nd_neT h4 t3
        have ec2 := lt_ne h2 t3
        have ec3 := lt_ne h7 t3
        refine v_setN h4 gT.nk (gkey_depth _) (few1 (by omega)) ?_
        rw [nput_new hv]
        repeat kaf_suf
        have g1 := canon_len' ls
        have g2 := canon_len' rs
        intro p H' hp' kp'
        repeat kaf_suf
        intro D hD
        have hall : ∀ m ∈ canon ls ++ canon rs, 0 ≤ m ∧ m < gs.length := fun m hm => low m (by rw [List.mem_append, canon_mem, canon_mem, ← List.mem_append] at hm; exact hm)
        have hDp : H' dp = some (.lst (ds.map V.int)) := by kaf_pre
        have hlen2 : (dps ds (canon ls ++ canon rs)).length = (canon ls ++ canon rs).length := List.length_map _
        refine lc_tup (xs := (canon ls).map V.int ++ (canon rs).map V.int) (fun i H2 => H2 D = some (.lst (((dps ds (canon ls ++ canon rs)).take i).map V.int)) ∧ Keep Nil H' H2) ⟨upd_same, Keep.alloc hD⟩ ?_ ?_ ?_
        · rintro i H2 _ ⟨_, k2⟩; exact SqT.of (by kaf_pre)
        · rintro i x H2 hi ⟨e2, k2⟩
          rw [← List.map_append, List.getElem?_map] at hi
          obtain ⟨m, hm, rfl⟩ := Option.map_eq_some_iff.mp hi
          obtain ⟨b1, b2⟩ := hall m (List.mem_of_getElem? hm)
          have hm' := (List.getElem?_eq_some_iff.mp hm).1
          rw [List.length_append] at hm'
          obtain ⟨n, rfl⟩ := Int.eq_ofNat_of_zero_le b1
          have hn : n < ds.length := by omega
          have hx : atI (ds.map V.int) (n : Int) = some (V.int ds[n]) := atI_get (n := n) (by simp [hn]) rfl
          repeat kaf_suf
          refine ⟨rfl, ?_⟩
          repeat kaf_suf
          refine ⟨_, e2, few1 (by simp; omega), ?_, k2.setN hD⟩
          rw [upd_same]
          have e : (dps ds (canon ls ++ canon rs))[i]? = some ds[n] := by
            rw [dps, List.getElem?_map, hm]; simp [hn]
          rw [List.take_succ, e]; simp
        · rintro H2 ⟨e2, k2⟩
          have e3 : H2 D = some (.lst ((dps ds (canon ls ++ canon rs)).map V.int)) := by
            rw [e2, List.take_of_length_le (by rw [hlen2]; simp)]
          repeat kaf_suf
          have ea : addG gs (canon ls, canon rs) = gs ++ [(canon ls, canon rs)] := if_neg hin
          have nee : canon ls ++ canon rs ≠ [] := fun z => by
            obtain ⟨z1, z2⟩ := List.append_eq_nil_iff.mp z
            rw [z1, z2] at hin
            exact hin (List.mem_of_getElem? B.ok.zero)
          refine v_maxL e3 (by rw [hlen2]; exact List.length_pos_iff.mpr nee) fun m hm hmax => ?_
          repeat kaf_suf
          have kf : Keep M HT (upd H2 dp (.lst (ds.map V.int ++ [V.int (1 + m)]))) := Keep.set (Keep.trans (Keep.trans (Keep.set (Keep.set Keep.refl m2) m1) kp'.weak) k2.weak) m3
          have kt : ∀ q ys, HT q = some (.tup ys) → (upd H2 dp (.lst (ds.map V.int ++ [V.int (1 + m)]))) q = some (.tup ys) := fun q ys e => kf q _ (BT.tupN e) e
          have gf := gT.keep kt
          have hnm : H' nm = some (NdO c.P c.w nm (xs ++ [(gkey (canon ls, canon rs), t, V.int ((ts.map V.ref).length : Nat))])) := kp'.get (fun z => z) (get_set e1.symm upd_same)
          refine ⟨_, [1 + m], rfl, kT.weak.trans kf, ⟨B.ok.add low, ?_, dx, mv, nm, dp, ts ++ [t], xs ++ [(gkey (canon ls, canon rs), t, V.int ((ts.map V.ref).length : Nat))], ?_, ?_, ?_, ⟨?_, ?_⟩, ?_, ?_, ?_, m1, m2, m3, ne, h8⟩, gf⟩
          · rw [ea]; exact B.dok.add B.ok hall nee hm hmax
          · kaf_pre
          · rw [List.map_append]; kaf_pre
          · rw [ea]; exact Paired.snoc (paired_keep h3 fun t g q => q.keep kt) gf
          · refine get_set ?_ (k2.get (fun z => z) hnm)
            tlg_ne
          · intro x hx
            rcases List.mem_append.mp hx with hx | hx
            · exact ⟨NkV.keeps kt _ _ (h4.keys x hx).1, (h4.keys x hx).2⟩
            · cases List.mem_singleton.mp hx
              exact ⟨gf.nk, gkey_depth _⟩
          · rw [ea]; simp [h5]
          · intro g
            rw [ea, nval_snoc, h6, List.length_map, htl]
            by_cases hg : g ∈ gs
            · rw [if_pos hg, if_pos (List.mem_append_left _ hg), List.idxOf_append, if_pos hg]; rfl
            · rw [if_neg hg]
              by_cases e : g = (canon ls, canon rs)
              · subst e
                rw [if_pos rfl, if_pos (List.mem_append_right _ List.mem_cons_self), List.idxOf_append, if_neg hg]
                simp
              · rw [if_neg (fun z => e (gkey_inj z).symm), if_neg (by simp [hg, e])]; rfl
          · rw [List.map_append]; exact upd_same
    · rintro σ' H2 ⟨y', e, rfl, k2, B2, g2⟩
      obtain ⟨dx, mv, nm, dp, ts, xs, h1, h2, h3, h4, h5, h6, h7, m1, m2, m3, ne, h8⟩ := B2.ex
      repeat kaf_suf
      refine v_ixN h4 g2.nk (gkey_depth _) ((h6 _).trans (if_pos (addG_mem _ _))) ?_
      repeat kaf_suf
      exact k H2 e k2 B2
theorem met_Book_game {c : Cn} {mg : Str → Option Value} {base : Heap} (T : Txt c mg) : Met c.P c.w c.K mg base CX0 2 c.cBook "game" (sp_Book_game c) := by
  obtain ⟨f, fd, F, g, b⟩ := T.F_Book_game
  exact ⟨f, fd, ["self", "lefts", "rights"], T.cl_Book, g, F.ok (k := 1) (N := N_Book_game) sc_Book_game (fun vs H Q E h => h.1) (fun cdv A outer s H vs Q E hr h => ⟨t_Book_game c, by
  exact (pss_cons (ps_for PassesOwn.never rfl (pi_any (pe_op o_add (pe_callTy (k_list rfl) (by rfl) T.n_list (by decide +kernel) (pa_cons (pv 1) pa_nil)) (pe_callTy (k_list rfl) (by rfl) T.n_list (by decide +kernel) (pa_cons (pv 2) pa_nil)))) (pg_name (i := 3) sc_Book_game.nd rfl (Or.inl rfl))
  (pss_one (ps_expr (e_meth (met_Book_need T) hr (by decide) pass0 (pv 0) (pa_cons (pv 3) pa_nil)))))
  (pss_cons (ps_set (i := 4) sc_Book_game.nd rfl (Or.inl rfl) (pe_tup (pa_cons (pe_callTy k_tuple (by rfl) T.n_tuple (by decide +kernel) (pa_cons (pe_callB (k_sorted rfl) (by rfl) T.n_sorted (by decide +kernel) (pa_cons (pe_callTy (k_set rfl) (by rfl) T.n_set (by decide +kernel) (pa_cons (pv 1) pa_nil)) pa_nil)) pa_nil)) (pa_cons (pe_callTy k_tuple (by rfl) T.n_tuple (by decide +kernel) (pa_cons (pe_callB (k_sorted rfl) (by rfl) T.n_sorted (by decide +kernel) (pa_cons (pe_callTy (k_set rfl) (by rfl) T.n_set (by decide +kernel) (pa_cons (pv 2) pa_nil)) pa_nil)) pa_nil)) pa_nil))))
  (C8.pss_cut (ps_if (pt_cmpR (o_notin (hu65 hr)) (pv 4) (pe_fld (pv 0) rfl) (by rfl)) (pss_cons (ps_asg (pe_callB k_len (by rfl) T.n_len (by decide +kernel) (pa_cons (pe_fld (pv 0) rfl) pa_nil)) (pg_sub (pe_fld (pv 0) rfl) (pv 4) (s_set (hu64 hr))))
  (pss_cons (ps_expr (pe_bm PySem.F.plainAttrs_list PySem.F.slot_list_append PySem.F.type_list_append mt_append (pe_fld (pv 0) rfl) (pa_cons (pv 4) pa_nil)))
  (pss_one (ps_expr (pe_bm PySem.F.plainAttrs_list PySem.F.slot_list_append PySem.F.type_list_append mt_append (pe_fld (pv 0) rfl) (pa_cons (pe_op o_add pe_int (pe_callB (k_max rfl) (by rfl) T.n_max (by decide +kernel) (pa_cons (pe_lc (own := [("g", 3)]) rfl sc_Book_game.nd (pi_any (pe_op o_add (pe_ix (x_ix (hu64 hr)) (pv 4) pe_int (fun _ _ => rfl)) (pe_ix (x_ix (hu64 hr)) (pv 4) pe_int (fun _ _ => rfl)))) (blkOk_by (own := [("g", 3)]) (N := N_Book_game) (sc := defScope s_Book_game) (by decide +kernel)) (fun _ _ _ _ _ => (pg_name (i := 3) sc_Book_game.nd rfl (Or.inl rfl))) (fun _ _ _ _ _ => pts_nil) (fun _ _ _ _ _ => (pe_ix (x_ix (hu64 hr)) (pe_fld (pv 0) rfl) (pv 3) (fun _ _ => rfl)))) pa_nil))) pa_nil)))))) pss_nil)
  (pss_one (ps_ret (pe_ix (x_ix (hu64 hr)) (pe_fld (pv 0) rfl) (pv 4) (fun _ _ => rfl))))))), p_Book_game T h⟩), b⟩
/-! the book as it is made; how many -/
theorem putF_0 {x : V} : putF ("moves" : Str) x [] = [(("moves" : Str), x)] := by rfl
theorem putF_1 {x y : V} : putF ("numbers" : Str) y [(("moves" : Str), x)] = [(("moves" : Str), x), (("numbers" : Str), y)] := by
  unfold putF; rw [if_neg (by decide)]; rfl
theorem putF_2 {x y z : V} : putF ("depths" : Str) z [(("moves" : Str), x), (("numbers" : Str), y)] = [(("moves" : Str), x), (("numbers" : Str), y), (("depths" : Str), z)] := by
  unfold putF; rw [if_neg (by decide)]; unfold putF; rw [if_neg (by decide)]; rfl
theorem GOk.one : GOk [([], [])] := ⟨rfl, by simp, fun g hg => by cases List.mem_singleton.mp hg; exact ⟨List.Pairwise.nil, List.Pairwise.nil⟩, fun i g h m hm => by
  cases i with
  | zero => simp at h; subst h; simp at hm
  | succ i => simp at h⟩
theorem DOk.one : DOk [([], [])] [0] := ⟨rfl, fun i g d h hd => by
  cases i with
  | zero => simp at h hd; subst h hd; exact ⟨fun _ => rfl, fun x hx => by simp [dps] at hx, fun z => absurd rfl z⟩
  | succ i => simp at h⟩
abbrev N_Book_init : List Str := ["self"]
theorem sc_Book_init : FnScope N_Book_init ["self"] (defScope s_Book_init) := ⟨rfl, rfl, rfl, by decide +kernel, rfl, by decide +kernel, by decide +kernel⟩
def t_Book_init (c : Cn) : TS :=
  (tSeq (sFld c.K (tVar 0) (tLst (tCons (tTup (tCons (tTup tNil) (tCons (tTup tNil) tNil))) tNil)) "moves")
  (tSeq (sFld c.K (tVar 0) (uDisp1 c.P c.w (tTup (tCons (tTup tNil) (tCons (tTup tNil) tNil))) (tC (.int 0))) "numbers")
  (sFld c.K (tVar 0) (tLst (tCons (tC (.int 0)) tNil)) "depths")))
def sp_Book_init (c : Cn) : Sp := fun vs H Q E => vs.length = 1 ∧ ∃ (b dx : Addr), vs = [.ref b] ∧ H b = some (.ins c.cBook dx []) ∧
  ∀ (H' : Hp) (M : Addr → Prop), Keep (fun x => x = b) H H' → BookAt c H' b M [([], [])] [0] → (∀ x, M x → H x = none) → Q .non H'
theorem p_Book_init {c : Cn} {mg : Str → Option Value} (T : Txt c mg) {vs : List V} {H : Hp} {Q : VK} {E : XK} (h : sp_Book_init c vs H Q E) : t_Book_init c { nx := fun _ H' => Q .non H', rt := Q } (start N_Book_init vs) H := by
  obtain ⟨_, b, dx, rfl, hb, k⟩ := h
  unfold t_Book_init
  repeat kaf_suf
  intro p1 hp1
  repeat kaf_suf
  intro p2 hp2
  repeat kaf_suf
  intro p3 hp3
  repeat kaf_suf
  intro mv hmv
  repeat kaf_suf
  refine r_ksfld (by kaf_pre) (Txt.cl_Book T) (Txt.na_Book_moves T) (by decide) ?_
  repeat kaf_suf
  intro nm hnm
  repeat kaf_suf
  intro p4 hp4
  repeat kaf_suf
  intro p5 hp5
  repeat kaf_suf
  intro t ht
  repeat kaf_suf
  have w0 : nm ≠ mv := ne_new hnm (show _ = some (HO.lst [V.ref p3]) by kaf_pre)
  have w1 : b ≠ nm := ne_old hnm upd_same
  have w2 : mv ≠ b := ne_new hmv (by kaf_pre)
  have w3 : p3 ≠ mv := ne_old hmv upd_same
  have hnm0 : H nm = none := by
    have h0 := none_of_upd hnm
    exact none_of_upd (none_of_upd (none_of_upd (none_of_upd h0)))
  have hmv0 : H mv = none := none_of_upd (none_of_upd (none_of_upd hmv))
  refine ⟨gkey ([], []), t, rfl, by kaf_pre, GAt.nk (g := ([], [])) ⟨p4, p5, by kaf_pre, by kaf_pre, by kaf_pre⟩, gkey_depth _, ?_⟩
  repeat kaf_suf
  refine r_ksfld (by kaf_pre) (Txt.cl_Book T) (Txt.na_Book_numbers T) (by rw [putF_0]; simp) ?_
  repeat kaf_suf
  intro dp hdp
  repeat kaf_suf
  refine r_ksfld (by kaf_pre) (Txt.cl_Book T) (Txt.na_Book_depths T) (by rw [putF_0, putF_1]; simp) ?_
  repeat kaf_suf
  have hdp0 : H dp = none := by
    have := hdp
    repeat (first | exact this | replace this := none_of_upd this)
  have w4 : dp ≠ mv := ne_new hdp (show _ = some (HO.lst [V.ref p3]) by kaf_pre)
  have w5 : dp ≠ nm := ne_new hdp (show _ = some (NdO c.P c.w nm [(gkey ([], []), t, V.int 0)]) by kaf_pre)
  have w6 : dp ≠ b := ne_new hdp upd_same
  have x3 : p3 ≠ nm := ne_old hnm (by kaf_pre)
  have x2 : p2 ≠ nm := ne_old hnm (by kaf_pre)
  have x1 : p1 ≠ nm := ne_old hnm (by kaf_pre)
  have y3 : p3 ≠ b := ne_new hp3 (by kaf_pre)
  have y2 : p2 ≠ b := ne_new hp2 (by kaf_pre)
  have y1 : p1 ≠ b := ne_new hp1 (by kaf_pre)
  have z4 : p4 ≠ b := ne_new hp4 (by kaf_pre)
  have z5 : p5 ≠ b := ne_new hp5 (by kaf_pre)
  have z6 : t ≠ b := ne_new ht (by kaf_pre)
  have q4 : p4 ≠ nm := ne_new hp4 upd_same
  have q5 : p5 ≠ nm := ne_new hp5 (by kaf_pre)
  have q6 : t ≠ nm := ne_new ht (by kaf_pre)
  refine absQ (S := fun H' => Keep (fun x => x = b) H H' ∧ H' b = some (.ins c.cBook dx (bookFs mv nm dp)) ∧ H' mv = some (.lst [.ref p3]) ∧ H' p3 = some (.tup [.ref p1, .ref p2]) ∧ H' p1 = some (.tup []) ∧ H' p2 = some (.tup []) ∧
    H' nm = some (NdO c.P c.w nm [(gkey ([], []), t, V.int 0)]) ∧ H' t = some (.tup [.ref p4, .ref p5]) ∧ H' p4 = some (.tup []) ∧ H' p5 = some (.tup []) ∧ H' dp = some (.lst [.int 0])) ⟨?_, ?_, ?_, ?_, ?_, ?_, ?_, ?_, ?_, ?_, ?_⟩ fun HX ⟨f0, f1, f2, f3, f4, f5, f6, f7, f8, f9, f10⟩ => ?_
  · repeat (first | exact Keep.refl | refine' Keep.set ?_ rfl | refine' Keep.new ?_ (by assumption) | refine' Keep.setN ?_ (by assumption))
  · rw [putF_0, putF_1, putF_2]; exact upd_same
  · kaf_pre
  · kaf_pre
  · kaf_pre
  · kaf_pre
  · kaf_pre
  · kaf_pre
  · kaf_pre
  · kaf_pre
  · kaf_pre
  refine k HX (fun x => x = mv ∨ x = nm ∨ x = dp) f0 ⟨GOk.one, DOk.one, dx, mv, nm, dp, [p3], [(gkey ([], []), t, V.int 0)], f1, f2, .cons ⟨p1, p2, f3, f4, f5⟩ .nil, ⟨f6, fun x hx => ?_⟩, rfl, fun g => ?_, f10, .inl rfl, .inr (.inl rfl), .inr (.inr rfl), w4.symm, fun _ h => h⟩ fun x hx => ?_
  · cases List.mem_singleton.mp hx
    exact ⟨GAt.nk (g := ([], [])) ⟨p4, p5, f7, f8, f9⟩, gkey_depth _⟩
  · by_cases e : g = ([], [])
    · subst e; rfl
    · have e' : ¬ gkey ([], []) = gkey g := fun z => e (gkey_inj z).symm
      rw [if_neg (by simpa using e)]
      simp [nval, e']
  · rcases hx with rfl | rfl | rfl <;> assumption
theorem mak_Book {c : Cn} {mg : Str → Option Value} {base : Heap} (T : Txt c mg) : Mak c.P c.w c.K mg base CX0 1 "Book" c.cBook (sp_Book_init c) := by
  obtain ⟨f, fd, F, g, b⟩ := T.F_Book_init
  exact ⟨f, fd, ["self"], g, F.ok (k := 0) (N := N_Book_init) sc_Book_init (fun vs H Q E h => h.1) (fun cdv A outer s H vs Q E hr h => ⟨t_Book_init c, by
  exact (pss_cons (ps_fld (pv 0) (pe_lst (pa_cons (pe_tup (pa_cons (pe_tup pa_nil) (pa_cons (pe_tup pa_nil) pa_nil))) pa_nil)) rfl)
  (pss_cons (ps_fld (pv 0) (pe_disp1 (hu64 hr) (pe_tup (pa_cons (pe_tup pa_nil) (pa_cons (pe_tup pa_nil) pa_nil))) pe_int) rfl)
  (pss_one (ps_fld (pv 0) (pe_lst (pa_cons pe_int pa_nil)) rfl)))), p_Book_init T h⟩), T.g_Book, b⟩
abbrev N_Book_many : List Str := ["self"]
theorem sc_Book_many : FnScope N_Book_many ["self"] (defScope s_Book_many) := ⟨rfl, rfl, rfl, by decide +kernel, rfl, by decide +kernel, by decide +kernel⟩
def t_Book_many (c : Cn) : TS :=
  (tRet (tCB (kLen c.K) (tCons (tFld c.K (tVar 0) "moves") tNil)))
def sp_Book_many (c : Cn) : Sp := fun vs H Q E => vs.length = 1 ∧ ∃ (b : Addr) (M : Addr → Prop) (gs : List Gm) (ds : List Int), vs = [.ref b] ∧ BookAt c H b M gs ds ∧ Q (.int gs.length) H
theorem p_Book_many {c : Cn} {mg : Str → Option Value} (T : Txt c mg) {vs : List V} {H : Hp} {Q : VK} {E : XK} (h : sp_Book_many c vs H Q E) : t_Book_many c { nx := fun _ H' => Q .non H', rt := Q } (start N_Book_many vs) H := by
  obtain ⟨_, b, M, gs, ds, rfl, B, k⟩ := h
  obtain ⟨dx, mv, nm, dp, ts, xs, h1, h2, h3, h4, h5, h6, h7, m1, m2, m3, ne, h8⟩ := B.ex
  unfold t_Book_many
  repeat kaf_suf
  rw [List.length_map, Paired.length h3]
  exact k
theorem met_Book_many {c : Cn} {mg : Str → Option Value} {base : Heap} (T : Txt c mg) : Met c.P c.w c.K mg base CX0 1 c.cBook "many" (sp_Book_many c) := by
  obtain ⟨f, fd, F, g, b⟩ := T.F_Book_many
  exact ⟨f, fd, ["self"], T.cl_Book, g, F.ok (k := 0) (N := N_Book_many) sc_Book_many (fun vs H Q E h => h.1) (fun cdv A outer s H vs Q E hr h => ⟨t_Book_many c, by
  exact (pss_one (ps_ret (pe_callB k_len (by rfl) T.n_len (by decide +kernel) (pa_cons (pe_fld (pv 0) rfl) pa_nil)))), p_Book_many T h⟩), b⟩

/-! rows of games: a list of pairs of lists -/
def dInts (l : List Int) : PyData := .list (l.map PyData.int)
def dRow (g : Gm) : PyData := .tuple [dInts g.1, dInts g.2]
theorem eqv_ints : ∀ ns ms : List Int, PyData.eqvAll (ns.map PyData.int) (ms.map PyData.int) = decide (ns = ms)
  | [], [] => by simp [PyData.eqvAll]
  | [], _ :: _ => by simp [PyData.eqvAll]
  | _ :: _, [] => by simp [PyData.eqvAll]
  | a :: r, b :: t => by
    simp only [List.map_cons, PyData.eqvAll, PyData.eqv, eqv_ints r t]
    by_cases h : a = b <;> by_cases h' : r = t <;> simp [h, h']
theorem eqv_dInts (a b : List Int) : PyData.eqv (dInts a) (dInts b) = decide (a = b) := by
  unfold dInts; simp only [PyData.eqv]; exact eqv_ints a b
theorem eqv_dRow (g k : Gm) : PyData.eqv (dRow g) (dRow k) = decide (g = k) := by
  have e : PyData.eqv (dRow g) (dRow k) = (PyData.eqv (dInts g.1) (dInts k.1) && (PyData.eqv (dInts g.2) (dInts k.2) && true)) := by simp only [dRow, PyData.eqv, PyData.eqvAll]
  rw [e, eqv_dInts, eqv_dInts]
  obtain ⟨a, b⟩ := g; obtain ⟨a', b'⟩ := k
  by_cases h : a = a' <;> by_cases h' : b = b' <;> simp [h, h']
theorem lay_ints : ∀ ns : List Int, PyData.canLayAll0 (ns.map PyData.int) = true
  | [] => by simp [PyData.canLayAll0]
  | _ :: r => by simp [PyData.canLayAll0, PyData.canLay0, lay_ints r]
theorem dpt_ints : ∀ ns : List Int, PyData.depthAll (ns.map PyData.int) = 0
  | [] => by simp [PyData.depthAll]
  | _ :: r => by simp [PyData.depthAll, PyData.depth, dpt_ints r]
theorem dInts_lay (l : List Int) : (dInts l).canLay0 = true := by unfold dInts; simp only [PyData.canLay0]; exact lay_ints l
theorem dInts_dep (l : List Int) : (dInts l).depth = 1 := by unfold dInts; simp only [PyData.depth, dpt_ints]
theorem dRow_lay (g : Gm) : (dRow g).canLay0 = true := by simp [dRow, PyData.canLay0, PyData.canLayAll0, dInts_lay]
theorem dRow_dep (g : Gm) : (dRow g).depth = 2 := by simp [dRow, PyData.depth, PyData.depthAll, dInts_dep]
theorem dRows_lay : ∀ gs : List Gm, PyData.canLayAll0 (gs.map dRow) = true
  | [] => by simp [PyData.canLayAll0]
  | g :: r => by simp [PyData.canLayAll0, dRow_lay g, dRows_lay r]
theorem dRows_dep : ∀ gs : List Gm, PyData.depthAll (gs.map dRow) ≤ 2
  | [] => by simp [PyData.depthAll]
  | g :: r => by
    have h1 := dRows_dep r
    have h2 := dRow_dep g
    simp only [List.map_cons, PyData.depthAll]; omega
theorem shaped_of {d : PyData} (h : d.canLay0 = true) (k : d.depth ≤ 64) : SeqAt.shaped d = true := by
  show (d.canLay0 && decide (d.depth ≤ 64)) = true
  rw [Bool.and_eq_true]
  exact ⟨h, decide_eq_true k⟩
theorem dInts_sh (l : List Int) : SeqAt.shaped (dInts l) = true := shaped_of (dInts_lay l) (by rw [dInts_dep]; omega)
theorem dRow_sh (g : Gm) : SeqAt.shaped (dRow g) = true := shaped_of (dRow_lay g) (by rw [dRow_dep]; omega)
theorem dRows_sh (gs : List Gm) : SeqAt.shaped (.list (gs.map dRow)) = true := shaped_of (by simp only [PyData.canLay0]; exact dRows_lay gs) (by have := dRows_dep gs; simp only [PyData.depth]; omega)
theorem dTwo_sh (a b : List Int) : SeqAt.shaped (.list [dInts a, dInts b]) = true := shaped_of (by simp [PyData.canLay0, PyData.canLayAll0, dInts_lay]) (by simp [PyData.depth, PyData.depthAll, dInts_dep])
theorem eqv_two (a b a' b' : List Int) : PyData.eqv (.list [dInts a, dInts b]) (.list [dInts a', dInts b']) = (decide (a = a') && decide (b = b')) := by
  simp only [PyData.eqv, PyData.eqvAll, eqv_dInts, Bool.and_true]
theorem dp_all {K : PySem.W.Frag} {H : Hp} : ∀ (l : List Int), DpAll K H (l.map V.int) (l.map PyData.int)
  | [] => .nil
  | x :: r => .cons (.int x) (dp_all r)
theorem dp_ints {K : PySem.W.Frag} {H : Hp} {a : Addr} {l : List Int} (h : H a = some (.lst (l.map V.int))) : Dp K H (.ref a) (dInts l) := .lst (SqL.of h) (dp_all l)
theorem dp_two {K : PySem.W.Frag} {H : Hp} {p a b : Addr} {l m : List Int} (h : H p = some (.lst [.ref a, .ref b])) (h1 : H a = some (.lst (l.map V.int))) (h2 : H b = some (.lst (m.map V.int))) : Dp K H (.ref p) (.list [dInts l, dInts m]) :=
  .lst (SqL.of h) (.cons (dp_ints h1) (.cons (dp_ints h2) .nil))
def RowAt (W : Addr → Prop) (H : Hp) (t : Addr) (g : Gm) : Prop := ∃ a b, H t = some (.tup [.ref a, .ref b]) ∧ H a = some (.lst (g.1.map V.int)) ∧ H b = some (.lst (g.2.map V.int)) ∧ ¬ W t ∧ ¬ W a ∧ ¬ W b
theorem RowAt.keep {W : Addr → Prop} {H H' : Hp} {t : Addr} {g : Gm} (r : RowAt W H t g) (k : Keep W H H') : RowAt W H' t g := by
  obtain ⟨a, b, h1, h2, h3, n1, n2, n3⟩ := r
  exact ⟨a, b, k _ _ n1 h1, k _ _ n2 h2, k _ _ n3 h3, n1, n2, n3⟩
theorem RowAt.dp {K : PySem.W.Frag} {W : Addr → Prop} {H : Hp} {t : Addr} {g : Gm} (r : RowAt W H t g) : Dp K H (.ref t) (dRow g) := by
  obtain ⟨a, b, h1, h2, h3, _⟩ := r
  exact .tup (SqT.of h1) (.cons (dp_ints h2) (.cons (dp_ints h3) .nil))
def RowsAt (W : Addr → Prop) (H : Hp) (R : Addr) (gs : List Gm) : Prop := ∃ ks : List Addr, H R = some (.lst (ks.map V.ref)) ∧ Paired (RowAt W H) ks gs
theorem rows_dp {K : PySem.W.Frag} {W : Addr → Prop} {H : Hp} {ks : List Addr} {gs : List Gm} (p : Paired (RowAt W H) ks gs) : DpAll K H (ks.map V.ref) (gs.map dRow) := by
  induction p with
  | nil => exact .nil
  | cons r _ ih => exact .cons r.dp ih
theorem RowsAt.dp {K : PySem.W.Frag} {W : Addr → Prop} {H : Hp} {R : Addr} {gs : List Gm} (r : RowsAt W H R gs) : Dp K H (.ref R) (.list (gs.map dRow)) := by
  obtain ⟨ks, h, p⟩ := r
  exact .lst (SqL.of h) (rows_dp p)
theorem any_row (gs : List Gm) (k : Gm) : ((gs.map dRow).any fun z => PyData.eqv z (dRow k)) = decide (k ∈ gs) := by
  rw [List.any_map]
  have e : ((fun z => PyData.eqv z (dRow k)) ∘ dRow) = fun g => decide (g = k) := by funext g; exact eqv_dRow g k
  rw [e]
  by_cases h : k ∈ gs
  · rw [decide_eq_true h]; exact List.any_eq_true.mpr ⟨k, h, by simp⟩
  · rw [decide_eq_false h]; exact List.any_eq_false.mpr fun x hx => by simp; intro z; exact h (z ▸ hx)
theorem v_ninRows {P : Program} {w : World} {K : PySem.W.Frag} {W : Addr → Prop} {H : Hp} {Q : VK} {t R : Addr} {k : Gm} {gs : List Gm} (r : RowsAt W H R gs) (h : RowAt W H t k) (q : Q (.bl (!decide (k ∈ gs))) H) : cNotIn P w K (.ref t) (.ref R) H Q :=
  .inr (.inl ⟨_, _, h.dp, r.dp, dRow_sh _, dRows_sh _, by rw [any_row]; exact q⟩)
theorem v_indexRows {K : PySem.W.Frag} {W : Addr → Prop} {H : Hp} {Q : VK} {t R : Addr} {k : Gm} {gs : List Gm} (r : RowsAt W H R gs) (h : RowAt W H t k) (m : k ∈ gs) (q : Q (.int (ixG gs k)) H) : kIndex K (.ref R) [.ref t] H Q := by
  refine .inr ⟨R, .ref t, dRow k, gs.map dRow, ixG gs k, dRow k, rfl, rfl, r.dp, h.dp, dRows_sh _, dRow_sh _, ?_, by rw [eqv_dRow]; simp, fun j z hj hz => ?_, q⟩
  · rw [List.getElem?_map, ixG_get m]; rfl
  · rw [List.getElem?_map] at hz
    obtain ⟨g, hg, rfl⟩ := Option.map_eq_some_iff.mp hz
    rw [eqv_dRow]
    refine decide_eq_false fun e => ?_
    subst e
    obtain ⟨hl, hg⟩ := List.getElem?_eq_some_iff.mp hg
    have := List.not_of_lt_findIdx (p := fun x => x == g) (xs := gs) (i := j) hj
    simp [hg] at this
theorem up_len : ∀ (l : List Int) (lo n : Int), l.Pairwise (· < ·) → (∀ x ∈ l, lo ≤ x ∧ x < n) → lo ≤ n → (l.length : Int) ≤ n - lo
  | [], lo, n, _, _, h => by simp; omega
  | x :: r, lo, n, u, b, _ => by
    have u' := List.pairwise_cons.mp u
    have bx := b x List.mem_cons_self
    have := up_len r (x + 1) n u'.2 (fun y hy => ⟨by have := u'.1 y hy; omega, (b y (List.mem_cons_of_mem _ hy)).2⟩) (by omega)
    simp only [List.length_cons]; omega
theorem RowsAt.keep {W : Addr → Prop} {H H' : Hp} {R : Addr} {gs : List Gm} (r : RowsAt W H R gs) (k : Keep W H H') (e : ∀ o, H R = some o → H' R = some o) : RowsAt W H' R gs := by
  obtain ⟨ks, h, p⟩ := r
  exact ⟨ks, e _ h, paired_keep p fun t g q => q.keep k⟩

/-! the depth as it is told -/
abbrev N_Book_depth : List Str := ["self", "g"]
theorem sc_Book_depth : FnScope N_Book_depth ["self", "g"] (defScope s_Book_depth) := ⟨rfl, rfl, rfl, by decide +kernel, rfl, by decide +kernel, by decide +kernel⟩
def t_Book_depth (c : Cn) : TS :=
  (tSeq (tDrop (tMeth c.cBook "need" (sp_Book_need c) [] E0 (tVar 0) (tCons (tVar 1) tNil)))
  (tRet (tOp (bIx c.P c.w c.K) (tFld c.K (tVar 0) "depths") (tVar 1))))
def sp_Book_depth (c : Cn) : Sp := fun vs H Q E => vs.length = 2 ∧ ∃ (b : Addr) (M : Addr → Prop) (gs : List Gm) (ds : List Int) (g : Nat) (e : Int), vs = [.ref b, .int g] ∧ BookAt c H b M gs ds ∧ ds[g]? = some e ∧ Q (.int e) H
theorem p_Book_depth {c : Cn} {mg : Str → Option Value} (T : Txt c mg) {vs : List V} {H : Hp} {Q : VK} {E : XK} (h : sp_Book_depth c vs H Q E) : t_Book_depth c { nx := fun _ H' => Q .non H', rt := Q } (start N_Book_depth vs) H := by
  obtain ⟨_, b, M, gs, ds, g, e, rfl, B, hg, k⟩ := h
  obtain ⟨dx, mv, nm, dp, ts, xs, h1, h2, h3, h4, h5, h6, h7, m1, m2, m3, ne, h8⟩ := B.ex
  have hl := (List.getElem?_eq_some_iff.mp hg).1
  have hn := B.dok.len
  unfold t_Book_depth
  repeat kaf_suf
  refine ⟨rfl, b, M, gs, ds, g, rfl, B, by omega, by omega, ?_⟩
  have hx : atI (ds.map V.int) (g : Int) = some (V.int e) := atI_get (n := g) (by rw [List.getElem?_map, hg]; rfl) rfl
  repeat kaf_suf
  exact k
theorem met_Book_depth {c : Cn} {mg : Str → Option Value} {base : Heap} (T : Txt c mg) : Met c.P c.w c.K mg base CX0 2 c.cBook "depth" (sp_Book_depth c) := by
  obtain ⟨f, fd, F, g, b⟩ := T.F_Book_depth
  exact ⟨f, fd, ["self", "g"], T.cl_Book, g, F.ok (k := 1) (N := N_Book_depth) sc_Book_depth (fun vs H Q E h => h.1) (fun cdv A outer s H vs Q E hr h => ⟨t_Book_depth c, by
  exact (pss_cons (ps_expr (e_meth (met_Book_need T) hr (by decide) pass0 (pv 0) (pa_cons (pv 1) pa_nil)))
  (pss_one (ps_ret (pe_ix (x_ix (hu64 hr)) (pe_fld (pv 0) rfl) (pv 1) (fun _ _ => rfl))))), p_Book_depth T h⟩), b⟩
theorem DOk.pos {gs : List Gm} {ds : List Int} (o : GOk gs) (d : DOk gs ds) : ∀ (n i : Nat), i < n → ∀ e, ds[i]? = some e → 0 ≤ e
  | 0, _, h, _, _ => by omega
  | n + 1, i, h, e, he => by
    have hi := (List.getElem?_eq_some_iff.mp he).1
    obtain ⟨g, hg⟩ : ∃ g, gs[i]? = some g := ⟨_, List.getElem?_eq_getElem (by rw [← d.len]; exact hi)⟩
    obtain ⟨d1, _, d3⟩ := d.at_ i _ e hg he
    by_cases z : g.1 ++ g.2 = []
    · have := d1 z; omega
    · obtain ⟨x, hx, ex⟩ := d3 z
      obtain ⟨m, hm, rfl⟩ := List.mem_map.mp hx
      obtain ⟨l0, l1⟩ := o.low i _ hg m hm
      have : 0 ≤ ds[m.toNat]?.getD 0 := by
        cases q : ds[m.toNat]? with
        | none => simp
        | some v => exact DOk.pos o d n m.toNat (by omega) v q
      omega

/-! the moves as they are told -/
abbrev N_Book_lefts : List Str := ["self", "g"]
theorem sc_Book_lefts : FnScope N_Book_lefts ["self", "g"] (defScope s_Book_lefts) := ⟨rfl, rfl, rfl, by decide +kernel, rfl, by decide +kernel, by decide +kernel⟩
def t_Book_lefts (c : Cn) : TS :=
  (tSeq (tDrop (tMeth c.cBook "need" (sp_Book_need c) [] E0 (tVar 0) (tCons (tVar 1) tNil)))
  (tRet (tCB (kList c.K) (tCons (tOp (bIx c.P c.w c.K) (tOp (bIx c.P c.w c.K) (tFld c.K (tVar 0) "moves") (tVar 1)) (tC (.int 0))) tNil))))
def sp_Book_lefts (c : Cn) : Sp := fun vs H Q E => vs.length = 2 ∧ ∃ (b : Addr) (M : Addr → Prop) (gs : List Gm) (ds : List Int) (g : Nat) (gm : Gm), vs = [.ref b, .int g] ∧ BookAt c H b M gs ds ∧ gs[g]? = some gm ∧ ∀ p, H p = none → Q (.ref p) (upd H p (.lst (gm.1.map V.int)))
theorem p_Book_lefts {c : Cn} {mg : Str → Option Value} (T : Txt c mg) {vs : List V} {H : Hp} {Q : VK} {E : XK} (h : sp_Book_lefts c vs H Q E) : t_Book_lefts c { nx := fun _ H' => Q .non H', rt := Q } (start N_Book_lefts vs) H := by
  obtain ⟨_, b, M, gs, ds, g, gm, rfl, B, hg, k⟩ := h
  obtain ⟨dx, mv, nm, dp, ts, xs, h1, h2, h3, h4, h5, h6, h7, m1, m2, m3, ne, h8⟩ := B.ex
  have hl := (List.getElem?_eq_some_iff.mp hg).1
  unfold t_Book_lefts
  repeat kaf_suf
  refine ⟨rfl, b, M, gs, ds, g, rfl, B, by omega, by omega, ?_⟩
  obtain ⟨t, ht, ka, kb, t1, t2, t3⟩ := paired_get h3 hg
  have hx : atI (ts.map V.ref) (g : Int) = some (V.ref t) := atI_get (n := g) (by rw [List.getElem?_map, ht]; rfl) rfl
  repeat kaf_suf
  exact k
theorem met_Book_lefts {c : Cn} {mg : Str → Option Value} {base : Heap} (T : Txt c mg) : Met c.P c.w c.K mg base CX0 2 c.cBook "lefts" (sp_Book_lefts c) := by
  obtain ⟨f, fd, F, g, b⟩ := T.F_Book_lefts
  exact ⟨f, fd, ["self", "g"], T.cl_Book, g, F.ok (k := 1) (N := N_Book_lefts) sc_Book_lefts (fun vs H Q E h => h.1) (fun cdv A outer s H vs Q E hr h => ⟨t_Book_lefts c, by
  exact (pss_cons (ps_expr (e_meth (met_Book_need T) hr (by decide) pass0 (pv 0) (pa_cons (pv 1) pa_nil)))
  (pss_one (ps_ret (pe_callTy (k_list rfl) (by rfl) T.n_list (by decide +kernel) (pa_cons (pe_ix (x_ix (hu64 hr)) (pe_ix (x_ix (hu64 hr)) (pe_fld (pv 0) rfl) (pv 1) (fun _ _ => rfl)) pe_int (fun _ _ => rfl)) pa_nil))))), p_Book_lefts T h⟩), b⟩
abbrev N_Book_rights : List Str := ["self", "g"]
theorem sc_Book_rights : FnScope N_Book_rights ["self", "g"] (defScope s_Book_rights) := ⟨rfl, rfl, rfl, by decide +kernel, rfl, by decide +kernel, by decide +kernel⟩
def t_Book_rights (c : Cn) : TS :=
  (tSeq (tDrop (tMeth c.cBook "need" (sp_Book_need c) [] E0 (tVar 0) (tCons (tVar 1) tNil)))
  (tRet (tCB (kList c.K) (tCons (tOp (bIx c.P c.w c.K) (tOp (bIx c.P c.w c.K) (tFld c.K (tVar 0) "moves") (tVar 1)) (tC (.int 1))) tNil))))
def sp_Book_rights (c : Cn) : Sp := fun vs H Q E => vs.length = 2 ∧ ∃ (b : Addr) (M : Addr → Prop) (gs : List Gm) (ds : List Int) (g : Nat) (gm : Gm), vs = [.ref b, .int g] ∧ BookAt c H b M gs ds ∧ gs[g]? = some gm ∧ ∀ p, H p = none → Q (.ref p) (upd H p (.lst (gm.2.map V.int)))
theorem p_Book_rights {c : Cn} {mg : Str → Option Value} (T : Txt c mg) {vs : List V} {H : Hp} {Q : VK} {E : XK} (h : sp_Book_rights c vs H Q E) : t_Book_rights c { nx := fun _ H' => Q .non H', rt := Q } (start N_Book_rights vs) H := by
  obtain ⟨_, b, M, gs, ds, g, gm, rfl, B, hg, k⟩ := h
  obtain ⟨dx, mv, nm, dp, ts, xs, h1, h2, h3, h4, h5, h6, h7, m1, m2, m3, ne, h8⟩ := B.ex
  have hl := (List.getElem?_eq_some_iff.mp hg).1
  unfold t_Book_rights
  repeat kaf_suf
  refine ⟨rfl, b, M, gs, ds, g, rfl, B, by omega, by omega, ?_⟩
  obtain ⟨t, ht, ka, kb, t1, t2, t3⟩ := paired_get h3 hg
  have hx : atI (ts.map V.ref) (g : Int) = some (V.ref t) := atI_get (n := g) (by rw [List.getElem?_map, ht]; rfl) rfl
  repeat kaf_suf
  exact k
theorem met_Book_rights {c : Cn} {mg : Str → Option Value} {base : Heap} (T : Txt c mg) : Met c.P c.w c.K mg base CX0 2 c.cBook "rights" (sp_Book_rights c) := by
  obtain ⟨f, fd, F, g, b⟩ := T.F_Book_rights
  exact ⟨f, fd, ["self", "g"], T.cl_Book, g, F.ok (k := 1) (N := N_Book_rights) sc_Book_rights (fun vs H Q E h => h.1) (fun cdv A outer s H vs Q E hr h => ⟨t_Book_rights c, by
  exact (pss_cons (ps_expr (e_meth (met_Book_need T) hr (by decide) pass0 (pv 0) (pa_cons (pv 1) pa_nil)))
  (pss_one (ps_ret (pe_callTy (k_list rfl) (by rfl) T.n_list (by decide +kernel) (pa_cons (pe_ix (x_ix (hu64 hr)) (pe_ix (x_ix (hu64 hr)) (pe_fld (pv 0) rfl) (pv 1) (fun _ _ => rfl)) pe_int (fun _ _ => rfl)) pa_nil))))), p_Book_rights T h⟩), b⟩

/-! plain helpers -/
theorem any_eq {α : Type} {f g : α → Bool} : ∀ {l : List α}, (∀ m ∈ l, f m = g m) → l.any f = l.any g
  | [], _ => rfl
  | x :: r, h => by rw [List.any_cons, List.any_cons, h x List.mem_cons_self, any_eq fun m hm => h m (List.mem_cons_of_mem _ hm)]
def mvs (gs : List Gm) (g : Nat) (s : Bool) : List Int := match gs[g]? with
  | some x => if s then x.1 else x.2
  | none => []
theorem mvs_low {gs : List Gm} (o : GOk gs) {g : Nat} {s : Bool} {m : Int} (h : m ∈ mvs gs g s) : 0 ≤ m ∧ m < g ∧ g < gs.length := by
  unfold mvs at h
  cases e : gs[g]? with
  | none => rw [e] at h; simp at h
  | some x =>
    rw [e] at h
    have hl := (List.getElem?_eq_some_iff.mp e).1
    have := o.low g x e m (by
      cases s
      · simp at h; simp [h]
      · simp at h; simp [h])
    omega
theorem mvs_more {gs f : List Gm} {g : Nat} {s : Bool} (h : g < gs.length) : mvs (gs ++ f) g s = mvs gs g s := by
  unfold mvs; rw [List.getElem?_append_left h]
theorem nodup_le {α : Type} [DecidableEq α] : ∀ (l m : List α), l.Nodup → (∀ x ∈ l, x ∈ m) → l.length ≤ m.length
  | [], _, _, _ => Nat.zero_le _
  | x :: l, m, nd, h => by
    have nd' := List.nodup_cons.mp nd
    have hx := h x List.mem_cons_self
    have := nodup_le l (m.erase x) nd'.2 fun y hy => by
      have hm := h y (List.mem_cons_of_mem _ hy)
      exact (List.mem_erase_of_ne (fun (e : y = x) => nd'.1 (by rw [← e]; exact hy))).mpr hm
    rw [List.length_erase_of_mem hx] at this
    have := List.length_pos_of_mem hx
    simp only [List.length_cons]; omega
theorem nval_nput {xs : List NX} {k : NestedKey} {a : Addr} {v : V} : nval (nput xs k a v) k = some v := by
  unfold nput
  split
  · rename_i h
    clear a
    have go : ∀ xs : List NX, (nval xs k).isSome = true → nval (xs.map fun x => if x.1 = k then (x.1, x.2.1, v) else x) k = some v := fun xs => by
      unfold nval
      induction xs with
      | nil => intro h; simp at h
      | cons p q ih =>
        intro h
        rw [List.map_cons]
        by_cases e : p.1 = k
        · rw [if_pos e, List.find?_cons_of_pos (by simp [e])]; rfl
        · rw [if_neg e, List.find?_cons_of_neg (by simp [e])]
          rw [List.find?_cons_of_neg (by simp [e])] at h
          exact ih h
    exact go xs h
  · rename_i h
    rw [nval_snoc]
    have : nval xs k = none := by
      cases e : nval xs k with
      | none => rfl
      | some v => rw [e] at h; simp at h
    rw [this]; simp
theorem nval_mem {xs : List NX} {k : NestedKey} {v : V} (h : nval xs k = some v) : ∃ x ∈ xs, x.1 = k ∧ x.2.2 = v := by
  unfold nval at h
  obtain ⟨x, hx, rfl⟩ := Option.map_eq_some_iff.mp h
  exact ⟨x, List.mem_of_find?_eq_some hx, by simpa using List.find?_some hx, rfl⟩
theorem nval_none {xs : List NX} {k : NestedKey} (h : nval xs k = none) : ∀ x ∈ xs, x.1 ≠ k := fun x hx e => by
  unfold nval at h
  rw [Option.map_eq_none_iff] at h
  have := List.find?_eq_none.mp h x hx
  simp [e] at this
theorem any_filter {α : Type} [DecidableEq α] {p : α → Bool} : ∀ (l : List α), l.any p = !decide (l.filter p = [])
  | [] => by simp
  | x :: r => by
    by_cases h : p x = true
    · simp [h]
    · simp only [Bool.not_eq_true] at h
      rw [List.any_cons, h, Bool.false_or, any_filter r]
      simp [List.filter_cons, h]
theorem BookAt.keepX {c : Cn} {H H' : Hp} {b : Addr} {M N : Addr → Prop} {gs : List Gm} {ds : List Int} (B : BookAt c H b M gs ds) (k : Keep N H H') (n : ∀ x, N x → ∃ φ, H x = some (.ext φ)) (d : ∀ x, M x → ¬ N x) : BookAt c H' b M gs ds := by
  obtain ⟨dx, mv, nm, dp, ts, xs, h1, h2, h3, h4, h5, h6, h7, m1, m2, m3, ne, h8⟩ := B.ex
  have kt : ∀ q ys, H q = some (.tup ys) → H' q = some (.tup ys) := fun q ys e => k _ _ (fun z => by obtain ⟨l, e'⟩ := n q z; rw [e] at e'; cases e') e
  refine ⟨B.ok, B.dok, dx, mv, nm, dp, ts, xs, k _ _ (fun z => ?_) h1, k _ _ (d _ m1) h2, paired_keep h3 fun t g q => q.keep kt, ⟨k _ _ (d _ m2) h4.here, fun x hx => ⟨NkV.keeps kt _ _ (h4.keys x hx).1, (h4.keys x hx).2⟩⟩, h5, h6, k _ _ (d _ m3) h7, m1, m2, m3, ne, h8⟩
  obtain ⟨l, e'⟩ := n b z; rw [h1] at e'; cases e'
theorem v_setN' {P : Program} {w : World} {H : Hp} {Q : Hp → Prop} {p a : Addr} {k : NestedKey} {xs : List NX} {v : V} (N : NdAt P w H a xs) (kp : NkV H k (.ref p)) (d : k.depth ≤ 8) (l : xs.length < sizeLine) (q : Q (upd H a (NdO P w a (nput xs k p v)))) : bSet P w (.ref a) (.ref p) v H Q := v_setN N kp d l q
theorem BookAt.keepY {c : Cn} {H H' : Hp} {b : Addr} {M N : Addr → Prop} {gs : List Gm} {ds : List Int} (B : BookAt c H b M gs ds) (k : Keep N H H') (n : ∀ x, N x → (∀ l, H x ≠ some (.tup l)) ∧ ∀ C d l, H x ≠ some (.ins C d l)) (d : ∀ x, M x → ¬ N x) : BookAt c H' b M gs ds := by
  obtain ⟨dx, mv, nm, dp, ts, xs, h1, h2, h3, h4, h5, h6, h7, m1, m2, m3, ne, h8⟩ := B.ex
  have kt : ∀ q ys, H q = some (.tup ys) → H' q = some (.tup ys) := fun q ys e => k _ _ (fun z => (n q z).1 _ e) e
  exact ⟨B.ok, B.dok, dx, mv, nm, dp, ts, xs, k _ _ (fun z => (n b z).2 _ _ _ h1) h1, k _ _ (d _ m1) h2, paired_keep h3 fun t g q => q.keep kt, ⟨k _ _ (d _ m2) h4.here, fun x hx => ⟨NkV.keeps kt _ _ (h4.keys x hx).1, (h4.keys x hx).2⟩⟩, h5, h6, k _ _ (d _ m3) h7, m1, m2, m3, ne, h8⟩
abbrev KX := Key × V
theorem valV_mem {kvs : List KX} {k : Key} {v : V} (h : valV kvs k = some v) : ∃ x ∈ kvs, x.1 = k ∧ x.2 = v := by
  unfold valV at h
  obtain ⟨x, hx, rfl⟩ := Option.map_eq_some_iff.mp h
  exact ⟨x, List.mem_of_find?_eq_some hx, by simpa using List.find?_some hx, rfl⟩
theorem valV_none {kvs : List KX} {k : Key} (h : valV kvs k = none) : ∀ x ∈ kvs, x.1 ≠ k := fun x hx e => by
  unfold valV at h
  rw [Option.map_eq_none_iff] at h
  have := List.find?_eq_none.mp h x hx
  simp [e] at this
theorem putK_new {kvs : List KX} {k : Key} {v : V} (h : valV kvs k = none) : putK kvs k v = kvs ++ [(k, v)] := by
  unfold putK
  rw [if_neg]
  intro z
  obtain ⟨x, hx, e⟩ := List.any_eq_true.mp z
  exact valV_none h x hx (by simpa using e)
theorem putK_val {kvs : List KX} {k : Key} {v : V} : valV (putK kvs k v) k = some v := by
  unfold putK
  split
  · rename_i h
    induction kvs with
    | nil => simp at h
    | cons p q ih =>
      rw [List.map_cons]
      by_cases e : p.1 = k
      · rw [if_pos e]; exact valV_pos e
      · rw [if_neg e, valV_neg e]
        exact ih (by simpa [e] using h)
  · rename_i h
    unfold valV
    rw [List.find?_append]
    have : kvs.find? (fun kv => decide (kv.1 = k)) = none := List.find?_eq_none.mpr fun x hx z => h (List.any_eq_true.mpr ⟨x, hx, z⟩)
    rw [this]; simp
theorem putK_len {kvs : List KX} {k : Key} {v : V} : kvs.length ≤ (putK kvs k v).length := by
  unfold putK; split <;> simp
theorem addG_grow {gs : List Gm} {k : Gm} : ∃ f, addG gs k = gs ++ f ∧ f.length ≤ 1 ∧ (k ∈ gs → f = []) := by
  unfold addG; split
  · exact ⟨[], by simp, by simp, fun _ => rfl⟩
  · rename_i h
    exact ⟨[k], rfl, by simp, fun z => absurd z h⟩
theorem DOk.move {gs : List Gm} {ds : List Int} (o : GOk gs) (d : DOk gs ds) {g : Nat} {gm : Gm} {dg : Int} (hg : gs[g]? = some gm) (hd : ds[g]? = some dg) {m : Int} (hm : m ∈ gm.1 ++ gm.2) : ∃ dm, ds[m.toNat]? = some dm ∧ dm + 1 ≤ dg := by
  have low := o.low g gm hg m hm
  have lg := (List.getElem?_eq_some_iff.mp hg).1
  have dl := d.len
  obtain ⟨v, hv⟩ : ∃ v, ds[m.toNat]? = some v := ⟨_, List.getElem?_eq_getElem (by omega)⟩
  refine ⟨v, hv, (d.at_ g gm dg hg hd).2.1 v ?_⟩
  unfold dps
  exact List.mem_map.mpr ⟨m, hm, by rw [hv]; rfl⟩
theorem DOk.le {gs : List Gm} {ds : List Int} (o : GOk gs) (d : DOk gs ds) : ∀ (n g : Nat), g < n → ∀ dg, ds[g]? = some dg → dg ≤ g
  | 0, _, h, _, _ => by omega
  | n + 1, g, h, dg, hd => by
    have hl := (List.getElem?_eq_some_iff.mp hd).1
    obtain ⟨gm, hg⟩ : ∃ x, gs[g]? = some x := ⟨_, List.getElem?_eq_getElem (by have := d.len; omega)⟩
    obtain ⟨p1, p2, p3⟩ := d.at_ g gm dg hg hd
    by_cases z : gm.1 ++ gm.2 = []
    · have := p1 z; omega
    · obtain ⟨u, hu, eu⟩ := p3 z
      obtain ⟨m, hm, em⟩ := List.mem_map.mp hu
      have low := o.low g gm hg m hm
      obtain ⟨v, hv⟩ : ∃ v, ds[m.toNat]? = some v := ⟨_, List.getElem?_eq_getElem (by have := d.len; omega)⟩
      have := DOk.le o d n m.toNat (by omega) v hv
      rw [hv] at em
      have em' : v = u := em
      omega
theorem mvs_dep {gs : List Gm} {ds : List Int} (o : GOk gs) (d : DOk gs ds) {g : Nat} {s : Bool} {m : Int} (h : m ∈ mvs gs g s) {dg : Int} (hd : ds[g]? = some dg) : ∃ dm, ds[m.toNat]? = some dm ∧ dm + 1 ≤ dg := by
  obtain ⟨m0, m1, m2⟩ := mvs_low o h
  have e := List.getElem?_eq_getElem m2
  refine d.move o e hd ?_
  unfold mvs at h; rw [e] at h
  cases s
  · exact List.mem_append_right _ (by simpa using h)
  · exact List.mem_append_left _ (by simpa using h)

/-! no less: the plain law -/
theorem all_eq {α : Type} {f g : α → Bool} : ∀ {l : List α}, (∀ m ∈ l, f m = g m) → l.all f = l.all g
  | [], _ => rfl
  | x :: r, h => by
    rw [List.all_cons, List.all_cons, h x List.mem_cons_self, all_eq fun m hm => h m (List.mem_cons_of_mem _ hm)]
def gR (gs : List Gm) (G : Nat → Nat → Bool) (r y : Nat) : Bool := ((mvs gs r true).any fun l => G l.toNat y) || ((mvs gs y false).any fun q => G r q.toNat)
def gL (gs : List Gm) (G : Nat → Nat → Bool) (x p : Nat) : Bool := ((mvs gs x true).any fun l => G l.toNat p) || ((mvs gs p false).any fun q => G x q.toNat)
def gB (gs : List Gm) (G : Nat → Nat → Bool) (x y : Nat) : Bool := ((mvs gs x false).all fun r => gR gs G r.toNat y) && ((mvs gs y true).all fun p => gL gs G x p.toNat)
theorem gB_congr {gs : List Gm} (o : GOk gs) {G G' : Nat → Nat → Bool} {x y : Nat} (h : ∀ a b, a + b < x + y → a ≤ x → b ≤ y → G a b = G' a b) : gB gs G x y = gB gs G' x y := by
  have e1 : ((mvs gs x false).all fun r => gR gs G r.toNat y) = (mvs gs x false).all fun r => gR gs G' r.toNat y := all_eq fun r hr => by
    have := mvs_low o hr
    have q1 : ((mvs gs r.toNat true).any fun l => G l.toNat y) = (mvs gs r.toNat true).any fun l => G' l.toNat y := any_eq fun l hl => h l.toNat y (by have := mvs_low o hl; omega) (by have := mvs_low o hl; omega) (Nat.le_refl _)
    have q2 : ((mvs gs y false).any fun q => G r.toNat q.toNat) = (mvs gs y false).any fun q => G' r.toNat q.toNat := any_eq fun q hq => h r.toNat q.toNat (by have := mvs_low o hq; omega) (by omega) (by have := mvs_low o hq; omega)
    unfold gR
    rw [q1, q2]
  have e2 : ((mvs gs y true).all fun p => gL gs G x p.toNat) = (mvs gs y true).all fun p => gL gs G' x p.toNat := all_eq fun p hp => by
    have := mvs_low o hp
    have q1 : ((mvs gs x true).any fun l => G l.toNat p.toNat) = (mvs gs x true).any fun l => G' l.toNat p.toNat := any_eq fun l hl => h l.toNat p.toNat (by have := mvs_low o hl; omega) (by have := mvs_low o hl; omega) (by omega)
    have q2 : ((mvs gs p.toNat false).any fun q => G x q.toNat) = (mvs gs p.toNat false).any fun q => G' x q.toNat := any_eq fun q hq => h x q.toNat (by have := mvs_low o hq; omega) (Nat.le_refl _) (by have := mvs_low o hq; omega)
    unfold gL
    rw [q1, q2]
  unfold gB
  rw [e1, e2]
def gl (gs : List Gm) : Nat → Nat → Nat → Bool
  | 0, _, _ => false
  | n + 1, x, y => gB gs (gl gs n) x y
def ge (gs : List Gm) (x y : Nat) : Bool := gl gs (x + y + 1) x y
theorem gl_more {gs : List Gm} (o : GOk gs) : ∀ (n k x y : Nat), x + y < n → n ≤ k → gl gs k x y = gl gs n x y
  | 0, _, _, _, h, _ => by omega
  | n + 1, 0, _, _, _, h => by omega
  | n + 1, k + 1, x, y, h, hk => gB_congr o fun a b hab _ _ => gl_more o n k a b (by omega) (by omega)
theorem ge_eq {gs : List Gm} (o : GOk gs) (x y : Nat) : ge gs x y = gB gs (ge gs) x y := gB_congr o fun a b hab _ _ => by
  unfold ge
  exact gl_more o (a + b + 1) (x + y) a b (by omega) (by omega)
theorem gB_app {gs f : List Gm} (o : GOk gs) {G : Nat → Nat → Bool} {x y : Nat} (hx : x < gs.length) (hy : y < gs.length) : gB (gs ++ f) G x y = gB gs G x y := by
  unfold gB gR gL
  rw [mvs_more hx, mvs_more hy, mvs_more hx, mvs_more hy]
  rw [all_eq (g := fun r => ((mvs gs r.toNat true).any fun l => G l.toNat y) || ((mvs gs y false).any fun q => G r.toNat q.toNat)) fun r hr => by rw [mvs_more (by have := mvs_low o hr; omega)]]
  rw [all_eq (l := mvs gs y true) (g := fun p => ((mvs gs x true).any fun l => G l.toNat p.toNat) || ((mvs gs p.toNat false).any fun q => G x q.toNat)) fun r hr => by rw [mvs_more (by have := mvs_low o hr; omega)]]
theorem gl_app {gs f : List Gm} (o : GOk gs) : ∀ (n x y : Nat), x < gs.length → y < gs.length → gl (gs ++ f) n x y = gl gs n x y
  | 0, _, _, _, _ => rfl
  | n + 1, x, y, hx, hy => by
    show gB (gs ++ f) (gl (gs ++ f) n) x y = gB gs (gl gs n) x y
    rw [gB_app o hx hy]
    exact gB_congr o fun a b _ ha hb => gl_app o n a b (by omega) (by omega)
theorem ge_app {gs f : List Gm} (o : GOk gs) {x y : Nat} (hx : x < gs.length) (hy : y < gs.length) : ge (gs ++ f) x y = ge gs x y := gl_app o _ _ _ hx hy
/-! the moves, by their numbers -/
def MvW (W : Addr → Prop) (H : Hp) (mv : Addr) (gs : List Gm) (A : Nat → Prop) : Prop := ∃ kvs : List KX, H mv = some (.dK kvs) ∧ ∀ g, A g → ∃ gm t, gs[g]? = some gm ∧ valV kvs (.inl (g : Int)) = some (.ref t) ∧ RowAt W H t gm
abbrev MvAt (H : Hp) (mv : Addr) (gs : List Gm) (A : Nat → Prop) : Prop := MvW Nil H mv gs A
theorem RowAt.weak {W W' : Addr → Prop} {H : Hp} {t : Addr} {g : Gm} (r : RowAt W H t g) (s : ∀ x, W' x → W x) : RowAt W' H t g := by
  obtain ⟨a, b, h1, h2, h3, n1, n2, n3⟩ := r
  exact ⟨a, b, h1, h2, h3, fun z => n1 (s _ z), fun z => n2 (s _ z), fun z => n3 (s _ z)⟩
theorem MvW.weak {W W' : Addr → Prop} {H : Hp} {mv : Addr} {gs : List Gm} {A : Nat → Prop} (m : MvW W H mv gs A) (s : ∀ x, W' x → W x) : MvW W' H mv gs A := by
  obtain ⟨kvs, e, h⟩ := m
  exact ⟨kvs, e, fun g hg => by obtain ⟨gm, t, e1, e2, r⟩ := h g hg; exact ⟨gm, t, e1, e2, r.weak s⟩⟩
theorem MvW.keepW {W : Addr → Prop} {H H' : Hp} {mv : Addr} {gs : List Gm} {A : Nat → Prop} (m : MvW W H mv gs A) (k : Keep W H H') (n : ¬ W mv) : MvW W H' mv gs A := by
  obtain ⟨kvs, e, h⟩ := m
  exact ⟨kvs, k _ _ n e, fun g hg => by obtain ⟨gm, t, e1, e2, r⟩ := h g hg; exact ⟨gm, t, e1, e2, r.keep k⟩⟩
theorem MvW.keep {W : Addr → Prop} {H H' : Hp} {mv : Addr} {gs : List Gm} {A : Nat → Prop} {N : Addr → Prop} (m : MvW W H mv gs A) (k : Keep N H H') (n : ∀ x, N x → (∀ l, H x ≠ some (.lst l)) ∧ (∀ l, H x ≠ some (.tup l)) ∧ ∀ l, H x ≠ some (.dK l)) : MvW W H' mv gs A := by
  obtain ⟨kvs, e, h⟩ := m
  refine ⟨kvs, k _ _ (fun z => (n _ z).2.2 _ e) e, fun g hg => ?_⟩
  obtain ⟨gm, t, e1, e2, u, v, h1, h2, h3, w⟩ := h g hg
  exact ⟨gm, t, e1, e2, u, v, k _ _ (fun z => (n _ z).2.1 _ h1) h1, k _ _ (fun z => (n _ z).1 _ h2) h2, k _ _ (fun z => (n _ z).1 _ h3) h3, w⟩
theorem MvW.same {W : Addr → Prop} {H H' : Hp} {mv : Addr} {gs : List Gm} {A : Nat → Prop} (m : MvW W H mv gs A) (k : Keep Nil H H') : MvW W H' mv gs A := m.keep k fun _ z => z.elim
theorem MvW.list {W : Addr → Prop} {H : Hp} {mv : Addr} {gs : List Gm} {A : Nat → Prop} (m : MvW W H mv gs A) {g : Nat} (hg : A g) : ∃ kvs t a b, H mv = some (.dK kvs) ∧ valV kvs (.inl (g : Int)) = some (.ref t) ∧ H t = some (.tup [.ref a, .ref b]) ∧ H a = some (.lst ((mvs gs g true).map V.int)) ∧ H b = some (.lst ((mvs gs g false).map V.int)) := by
  obtain ⟨kvs, e, h⟩ := m
  obtain ⟨gm, t, e1, e2, u, v, h1, h2, h3, _⟩ := h g hg
  refine ⟨kvs, t, u, v, e, e2, h1, ?_, ?_⟩
  · unfold mvs; rw [e1]; exact h2
  · unfold mvs; rw [e1]; exact h3
theorem v_ixMv {P : Program} {w : World} {K : PySem.W.Frag} {H : Hp} {Q : VK} {d : Addr} {kvs : List KX} {g : Int} {v : V} (e : H d = some (.dK kvs)) (h : valV kvs (.inl g) = some v) (q : Q v H) : bIx P w K (.ref d) (.int g) H Q :=
  .inr (.inr (.inr (.inl ⟨d, v, rfl, h ▸ DGet.k (k := .inl g) e, q⟩)))
theorem v_ixKn {P : Program} {w : World} {K : PySem.W.Frag} {H : Hp} {Q : VK} {d p : Addr} {kvs : List (List L2.Key × V)} {a b : Int} {v : V} (e : H d = some (.dT kvs)) (ep : H p = some (.tup [.int a, .int b])) (h : valV kvs [.inl a, .inl b] = some v) (q : Q v H) : bIx P w K (.ref d) (.ref p) H Q :=
  .inr (.inr (.inr (.inl ⟨d, v, rfl, h ▸ DGet.t (k := [.inl a, .inl b]) e ep, q⟩)))
theorem v_ninK {P : Program} {w : World} {K : PySem.W.Frag} {H : Hp} {Q : VK} {d : Addr} {kvs : List KX} {g : Int} (e : H d = some (.dK kvs)) (q : Q (.bl (!(valV kvs (.inl g)).isSome)) H) : cNotIn P w K (.int g) (.ref d) H Q :=
  .inr (.inr (.inr (.inl ⟨d, _, rfl, DGet.k (k := .inl g) e, by simpa using q⟩)))
theorem v_setK {P : Program} {w : World} {H : Hp} {Q : Hp → Prop} {d : Addr} {kvs : List KX} {g : Int} {v : V} (e : H d = some (.dK kvs)) (l : kvs.length < sizeLine) (q : Q (upd H d (.dK (putK kvs (.inl g) v)))) : bSet P w (.ref d) (.int g) v H Q :=
  .inr (.inl ⟨d, _, rfl, DPut.k (k := .inl g) e l, q⟩)
theorem v_setKn {P : Program} {w : World} {H : Hp} {Q : Hp → Prop} {d p : Addr} {kvs : List (List L2.Key × V)} {a b : Int} {v : V} (e : H d = some (.dT kvs)) (ep : H p = some (.tup [.int a, .int b])) (l : kvs.length < sizeLine) (q : Q (upd H d (.dT (putK kvs [.inl a, .inl b] v)))) : bSet P w (.ref d) (.ref p) v H Q :=
  .inr (.inl ⟨d, _, rfl, DPut.t (k := [.inl a, .inl b]) e ep l, q⟩)
theorem v_pop {H : Hp} {Q : VK} {l : Addr} {xs : List V} {y : V} (h : H l = some (.lst (xs ++ [y]))) (k : Q y (upd H l (.lst xs))) : rPop (.ref l) [] H Q :=
  ⟨l, xs ++ [y], y, rfl, rfl, h, by simp, by rw [List.dropLast_concat]; exact k⟩
theorem putK_len1 {κ : Type} [DecidableEq κ] {kvs : List (κ × V)} {k : κ} {v : V} : (putK kvs k v).length ≤ kvs.length + 1 := by
  unfold putK; split <;> simp
theorem r_dget2 {td ty tx : TE} {σ : L2.St} {H : Hp} {Q : VK} (k : td σ H fun x H1 => ∃ a, x = .ref a ∧ IsD H1 a ∧ ty σ H1 fun y H2 => tx σ H2 fun z H3 => ∃ o, DGet H3 a y o ∧ Q (o.getD z) H3) : tDGet2 td ty tx σ H Q := k
theorem r_ienum {K : PySem.W.Frag} {ta : TA} {σ : L2.St} {H : Hp} {R : It → Hp → Prop} (k : ta σ H fun vs H1 => ∃ a xs, vs = [.ref a] ∧ SqL K H1 a xs ∧ R (Ite K a) H1) : iEnum K ta σ H R := k

/-! compared by pairs: what each def tells, exactly -/
def bRf (gs : List Gm) (G : Int → Int → Bool) (r y : Int) : Option (Int × Int) := (((mvs gs r.toNat true).find? fun l => G l y).map fun l => (l, y)).or (((mvs gs y.toNat false).find? fun q => G r q).map fun q => (r, q))
def bLf (gs : List Gm) (G : Int → Int → Bool) (x p : Int) : Option (Int × Int) := (((mvs gs x.toNat true).find? fun l => G l p).map fun l => (l, p)).or (((mvs gs p.toNat false).find? fun q => G x q).map fun q => (x, q))
def phF (gs : List Gm) (G : Int → Int → Bool) (x y : Int) : Bool := ((mvs gs x.toNat false).all fun r => (bRf gs G r y).isSome) && (mvs gs y.toNat true).all fun p => (bLf gs G x p).isSome
def prD (p : Int × Int) : PyData := .tuple [.int p.1, .int p.2]
def optD : Option (Int × Int) → PyData
  | none => .none
  | some p => prD p
theorem prT_rp {W : Addr → Prop} {H : Hp} {t : Addr} {p : Int × Int} (h : PrT H t p) (n : ¬ W t) : Rp W H (.ref t) (prD p) := Rp.mk2 h n (.int _) (.int _)
theorem prD_ {W : Addr → Prop} {H : Hp} {v : V} {p : Int × Int} (h : Rp W H v (prD p)) : ∃ t, v = .ref t ∧ PrT H t p ∧ ¬ W t := by
  obtain ⟨a, x, y, rfl, e, n, r1, r2⟩ := h.two
  rw [r1.int_, r2.int_] at e
  exact ⟨a, rfl, e, n⟩
abbrev N_behind_right : List Str := ["moves", "known", "r", "y", "l", "q"]
theorem sc_behind_right : FnScope N_behind_right ["moves", "known", "r", "y"] (defScope s_behind_right) := ⟨rfl, rfl, rfl, by decide +kernel, rfl, by decide +kernel, by decide +kernel⟩
def t_behind_right (c : Cn) : TS :=
  (tSeq (tFor (iAny c.K (tOp (bIx c.P c.w c.K) (tOp (bIx c.P c.w c.K) (tVar 0) (tVar 2)) (tC (.int 0)))) (gName 4)
  (tIfS (tTru c.K (tDGet2 (tVar 1) (tTup (tCons (tVar 4) (tCons (tVar 3) tNil))) (tC (.bl false))))
  (tRet (tTup (tCons (tVar 4) (tCons (tVar 3) tNil))))
  tNext))
  (tSeq (tFor (iAny c.K (tOp (bIx c.P c.w c.K) (tOp (bIx c.P c.w c.K) (tVar 0) (tVar 3)) (tC (.int 1)))) (gName 5)
  (tIfS (tTru c.K (tDGet2 (tVar 1) (tTup (tCons (tVar 2) (tCons (tVar 5) tNil))) (tC (.bl false))))
  (tRet (tTup (tCons (tVar 2) (tCons (tVar 5) tNil))))
  tNext))
  (tRet (tC .non))))
def sp_behind_right (c : Cn) : Sp := fun vs H Q E => vs.length = 4 ∧ ∃ (mv kn : Addr) (gs : List Gm) (A : Nat → Prop) (kvs : List TX) (W : Addr → Prop) (r y : Nat), vs = [.ref mv, .ref kn, .int r, .int y] ∧ Al W H ∧ MvAt H mv gs A ∧ A r ∧ A y ∧ Rd H kn (.dT kvs) ∧ BlV kvs ∧
  ∀ (H' : Hp) (v : V), Keep Nil H H' → Rp W H' v (optD (bRf gs (gK kvs) r y)) → Q v H'
theorem p_behind_right {c : Cn} {mg : Str → Option Value} (T : Txt c mg) {vs : List V} {H : Hp} {Q : VK} {E : XK} (h : sp_behind_right c vs H Q E) : t_behind_right c { nx := fun _ H' => Q .non H', rt := Q } (start N_behind_right vs) H := by
  obtain ⟨_, mv, kn, gs, A, kvs, W, r, y, rfl, al, M, Aa, Ab, ek, bl, k⟩ := h
  obtain ⟨kv, t1, a1, b1, e1, w1, t1', l1, l1'⟩ := M.list (g := r) Aa
  obtain ⟨kv2, t2, a2, b2, e2, w2, t2', l2, l2'⟩ := M.list (g := y) Ab
  have rk : ∀ {H'}, Keep Nil H H' → Rd H' kn (.dT kvs) := fun kk => ek.imp (fun z => kk.get (fun z => z) z) fun ⟨o, z⟩ => ⟨o, kk.get (fun z => z) z⟩
  unfold t_behind_right
  repeat kaf_suf
  refine v_ixMv e1 w1 ?_
  repeat kaf_suf
  refine forI (l := mvs gs r true) (fun j H' => Keep Nil H H' ∧ ∀ z ∈ (mvs gs r true).take j, gK kvs z y = false) (fun j H' h => h.1.get (fun z => z) l1) none rfl ⟨Keep.refl, fun _ h => by simp at h⟩ ?_ ?_
  · rintro j z H1 hz ⟨kk, lo⟩
    refine r_if (r_tru (r_getP rfl rfl rfl (rk kk) bl fun H2 k2 => r_tru_bl ?_))
    cases hG : gK kvs z y with
    | true =>
      repeat kaf_suf
      intro p hp
      have e : bRf gs (gK kvs) r y = some (z, (y : Int)) := by
        unfold bRf
        rw [Int.toNat_natCast, find_at hz lo hG]; rfl
      refine k _ _ ((kk.trans k2).new hp) ?_
      rw [e]
      exact prT_rp upd_same (al _ (keep_none (kk.trans k2) hp))
    | false =>
      repeat kaf_suf
      exact ⟨_, rfl, kk.trans k2, take_snoc hz lo hG⟩
  intro o H1 ⟨kk, lo⟩
  rw [List.take_length] at lo
  have e2' := kk.get (fun z => z) e2
  have t2'' := kk.get (fun z => z) t2'
  have l2'' := kk.get (fun z => z) l2'
  repeat kaf_suf
  refine v_ixMv e2' w2 ?_
  repeat kaf_suf
  refine forI (l := mvs gs y false) (fun j H' => Keep Nil H H' ∧ ∀ z ∈ (mvs gs y false).take j, gK kvs r z = false) (fun j H' h => h.1.get (fun z => z) l2') none rfl ⟨kk, fun _ h => by simp at h⟩ ?_ ?_
  · rintro j z H2 hz ⟨kk2, lo2⟩
    refine r_if (r_tru (r_getP rfl rfl rfl (rk kk2) bl fun H3 k3 => r_tru_bl ?_))
    cases hG : gK kvs r z with
    | true =>
      repeat kaf_suf
      intro p hp
      have e : bRf gs (gK kvs) r y = some ((r : Int), z) := by
        unfold bRf
        rw [Int.toNat_natCast, find_no lo, Int.toNat_natCast, find_at hz lo2 hG]; rfl
      refine k _ _ ((kk2.trans k3).new hp) ?_
      rw [e]
      exact prT_rp upd_same (al _ (keep_none (kk2.trans k3) hp))
    | false =>
      repeat kaf_suf
      exact ⟨_, rfl, kk2.trans k3, take_snoc hz lo2 hG⟩
  intro o2 H2 ⟨kk2, lo2⟩
  rw [List.take_length] at lo2
  have e : bRf gs (gK kvs) r y = none := by
    unfold bRf
    rw [Int.toNat_natCast, find_no lo, Int.toNat_natCast, find_no lo2]; rfl
  repeat kaf_suf
  refine k _ _ kk2 ?_
  rw [e]; exact .non
theorem cal_behind_right {c : Cn} {mg : Str → Option Value} {base : Heap} (T : Txt c mg) : Cal c.P c.w c.K mg base CX0 1 "behind_right" (sp_behind_right c) := by
  obtain ⟨f, fd, F, g, b⟩ := T.F_behind_right
  exact ⟨f, fd, ["moves", "known", "r", "y"], F.ok (k := 0) (N := N_behind_right) sc_behind_right (fun vs H Q E h => h.1) (fun cdv A outer s H vs Q E hr h => ⟨t_behind_right c, by
  exact (pss_cons (ps_for PassesOwn.never rfl (pi_any (pe_ix (x_ix (hu64 hr)) (pe_ix (x_ix (hu64 hr)) (pv 0) (pv 2) (fun _ _ => rfl)) pe_int (fun _ _ => rfl))) (pg_name (i := 4) sc_behind_right.nd rfl (Or.inl rfl))
  (pss_one (ps_if (p_tru (pe_dget2 (hu1 hr) (pv 1) (pe_tup (pa_cons (pv 4) (pa_cons (pv 3) pa_nil))) pe_bl ⟨by rfl, by rfl, by rfl, by rfl⟩)) (pss_one (ps_ret (pe_tup (pa_cons (pv 4) (pa_cons (pv 3) pa_nil))))) pss_nil)))
  (pss_cons (ps_for PassesOwn.never rfl (pi_any (pe_ix (x_ix (hu64 hr)) (pe_ix (x_ix (hu64 hr)) (pv 0) (pv 3) (fun _ _ => rfl)) pe_int (fun _ _ => rfl))) (pg_name (i := 5) sc_behind_right.nd rfl (Or.inl rfl))
  (pss_one (ps_if (p_tru (pe_dget2 (hu1 hr) (pv 1) (pe_tup (pa_cons (pv 2) (pa_cons (pv 5) pa_nil))) pe_bl ⟨by rfl, by rfl, by rfl, by rfl⟩)) (pss_one (ps_ret (pe_tup (pa_cons (pv 2) (pa_cons (pv 5) pa_nil))))) pss_nil)))
  (pss_one (ps_ret pe_non)))), p_behind_right T h⟩), g, F.kp, b⟩
abbrev N_behind_left : List Str := ["moves", "known", "x", "p", "l", "q"]
theorem sc_behind_left : FnScope N_behind_left ["moves", "known", "x", "p"] (defScope s_behind_left) := ⟨rfl, rfl, rfl, by decide +kernel, rfl, by decide +kernel, by decide +kernel⟩
def t_behind_left (c : Cn) : TS :=
  (tSeq (tFor (iAny c.K (tOp (bIx c.P c.w c.K) (tOp (bIx c.P c.w c.K) (tVar 0) (tVar 2)) (tC (.int 0)))) (gName 4)
  (tIfS (tTru c.K (tDGet2 (tVar 1) (tTup (tCons (tVar 4) (tCons (tVar 3) tNil))) (tC (.bl false))))
  (tRet (tTup (tCons (tVar 4) (tCons (tVar 3) tNil))))
  tNext))
  (tSeq (tFor (iAny c.K (tOp (bIx c.P c.w c.K) (tOp (bIx c.P c.w c.K) (tVar 0) (tVar 3)) (tC (.int 1)))) (gName 5)
  (tIfS (tTru c.K (tDGet2 (tVar 1) (tTup (tCons (tVar 2) (tCons (tVar 5) tNil))) (tC (.bl false))))
  (tRet (tTup (tCons (tVar 2) (tCons (tVar 5) tNil))))
  tNext))
  (tRet (tC .non))))
def sp_behind_left (c : Cn) : Sp := fun vs H Q E => vs.length = 4 ∧ ∃ (mv kn : Addr) (gs : List Gm) (A : Nat → Prop) (kvs : List TX) (W : Addr → Prop) (x p : Nat), vs = [.ref mv, .ref kn, .int x, .int p] ∧ Al W H ∧ MvAt H mv gs A ∧ A x ∧ A p ∧ Rd H kn (.dT kvs) ∧ BlV kvs ∧
  ∀ (H' : Hp) (v : V), Keep Nil H H' → Rp W H' v (optD (bLf gs (gK kvs) x p)) → Q v H'
theorem p_behind_left {c : Cn} {mg : Str → Option Value} (T : Txt c mg) {vs : List V} {H : Hp} {Q : VK} {E : XK} (h : sp_behind_left c vs H Q E) : t_behind_left c { nx := fun _ H' => Q .non H', rt := Q } (start N_behind_left vs) H := by
  obtain ⟨_, mv, kn, gs, A, kvs, W, x, p, rfl, al, M, Aa, Ab, ek, bl, k⟩ := h
  obtain ⟨kv, t1, a1, b1, e1, w1, t1', l1, l1'⟩ := M.list (g := x) Aa
  obtain ⟨kv2, t2, a2, b2, e2, w2, t2', l2, l2'⟩ := M.list (g := p) Ab
  have rk : ∀ {H'}, Keep Nil H H' → Rd H' kn (.dT kvs) := fun kk => ek.imp (fun z => kk.get (fun z => z) z) fun ⟨o, z⟩ => ⟨o, kk.get (fun z => z) z⟩
  unfold t_behind_left
  repeat kaf_suf
  refine v_ixMv e1 w1 ?_
  repeat kaf_suf
  refine forI (l := mvs gs x true) (fun j H' => Keep Nil H H' ∧ ∀ z ∈ (mvs gs x true).take j, gK kvs z p = false) (fun j H' h => h.1.get (fun z => z) l1) none rfl ⟨Keep.refl, fun _ h => by simp at h⟩ ?_ ?_
  · rintro j z H1 hz ⟨kk, lo⟩
    refine r_if (r_tru (r_getP rfl rfl rfl (rk kk) bl fun H2 k2 => r_tru_bl ?_))
    cases hG : gK kvs z p with
    | true =>
      repeat kaf_suf
      intro pa hpa
      have e : bLf gs (gK kvs) x p = some (z, (p : Int)) := by
        unfold bLf
        rw [Int.toNat_natCast, find_at hz lo hG]; rfl
      refine k _ _ ((kk.trans k2).new hpa) ?_
      rw [e]
      exact prT_rp upd_same (al _ (keep_none (kk.trans k2) hpa))
    | false =>
      repeat kaf_suf
      exact ⟨_, rfl, kk.trans k2, take_snoc hz lo hG⟩
  intro o H1 ⟨kk, lo⟩
  rw [List.take_length] at lo
  have e2' := kk.get (fun z => z) e2
  have t2'' := kk.get (fun z => z) t2'
  have l2'' := kk.get (fun z => z) l2'
  repeat kaf_suf
  refine v_ixMv e2' w2 ?_
  repeat kaf_suf
  refine forI (l := mvs gs p false) (fun j H' => Keep Nil H H' ∧ ∀ z ∈ (mvs gs p false).take j, gK kvs x z = false) (fun j H' h => h.1.get (fun z => z) l2') none rfl ⟨kk, fun _ h => by simp at h⟩ ?_ ?_
  · rintro j z H2 hz ⟨kk2, lo2⟩
    refine r_if (r_tru (r_getP rfl rfl rfl (rk kk2) bl fun H3 k3 => r_tru_bl ?_))
    cases hG : gK kvs x z with
    | true =>
      repeat kaf_suf
      intro pa hpa
      have e : bLf gs (gK kvs) x p = some ((x : Int), z) := by
        unfold bLf
        rw [Int.toNat_natCast, find_no lo, Int.toNat_natCast, find_at hz lo2 hG]; rfl
      refine k _ _ ((kk2.trans k3).new hpa) ?_
      rw [e]
      exact prT_rp upd_same (al _ (keep_none (kk2.trans k3) hpa))
    | false =>
      repeat kaf_suf
      exact ⟨_, rfl, kk2.trans k3, take_snoc hz lo2 hG⟩
  intro o2 H2 ⟨kk2, lo2⟩
  rw [List.take_length] at lo2
  have e : bLf gs (gK kvs) x p = none := by
    unfold bLf
    rw [Int.toNat_natCast, find_no lo, Int.toNat_natCast, find_no lo2]; rfl
  repeat kaf_suf
  refine k _ _ kk2 ?_
  rw [e]; exact .non
theorem cal_behind_left {c : Cn} {mg : Str → Option Value} {base : Heap} (T : Txt c mg) : Cal c.P c.w c.K mg base CX0 1 "behind_left" (sp_behind_left c) := by
  obtain ⟨f, fd, F, g, b⟩ := T.F_behind_left
  exact ⟨f, fd, ["moves", "known", "x", "p"], F.ok (k := 0) (N := N_behind_left) sc_behind_left (fun vs H Q E h => h.1) (fun cdv A outer s H vs Q E hr h => ⟨t_behind_left c, by
  exact (pss_cons (ps_for PassesOwn.never rfl (pi_any (pe_ix (x_ix (hu64 hr)) (pe_ix (x_ix (hu64 hr)) (pv 0) (pv 2) (fun _ _ => rfl)) pe_int (fun _ _ => rfl))) (pg_name (i := 4) sc_behind_left.nd rfl (Or.inl rfl))
  (pss_one (ps_if (p_tru (pe_dget2 (hu1 hr) (pv 1) (pe_tup (pa_cons (pv 4) (pa_cons (pv 3) pa_nil))) pe_bl ⟨by rfl, by rfl, by rfl, by rfl⟩)) (pss_one (ps_ret (pe_tup (pa_cons (pv 4) (pa_cons (pv 3) pa_nil))))) pss_nil)))
  (pss_cons (ps_for PassesOwn.never rfl (pi_any (pe_ix (x_ix (hu64 hr)) (pe_ix (x_ix (hu64 hr)) (pv 0) (pv 3) (fun _ _ => rfl)) pe_int (fun _ _ => rfl))) (pg_name (i := 5) sc_behind_left.nd rfl (Or.inl rfl))
  (pss_one (ps_if (p_tru (pe_dget2 (hu1 hr) (pv 1) (pe_tup (pa_cons (pv 2) (pa_cons (pv 5) pa_nil))) pe_bl ⟨by rfl, by rfl, by rfl, by rfl⟩)) (pss_one (ps_ret (pe_tup (pa_cons (pv 2) (pa_cons (pv 5) pa_nil))))) pss_nil)))
  (pss_one (ps_ret pe_non)))), p_behind_left T h⟩), g, F.kp, b⟩
abbrev N_pair_holds : List Str := ["moves", "known", "x", "y", "r", "p"]
theorem sc_pair_holds : FnScope N_pair_holds ["moves", "known", "x", "y"] (defScope s_pair_holds) := ⟨rfl, rfl, rfl, by decide +kernel, rfl, by decide +kernel, by decide +kernel⟩
def t_pair_holds (c : Cn) : TS :=
  (tSeq (tFor (iAny c.K (tOp (bIx c.P c.w c.K) (tOp (bIx c.P c.w c.K) (tVar 0) (tVar 2)) (tC (.int 1)))) (gName 4)
  (tIfS (tTest (tOp cIs (tCall (sp_behind_right c) [] E0 (tCons (tVar 0) (tCons (tVar 1) (tCons (tVar 4) (tCons (tVar 3) tNil))))) (tC .non)))
  (tRet (tC (.bl false)))
  tNext))
  (tSeq (tFor (iAny c.K (tOp (bIx c.P c.w c.K) (tOp (bIx c.P c.w c.K) (tVar 0) (tVar 3)) (tC (.int 0)))) (gName 5)
  (tIfS (tTest (tOp cIs (tCall (sp_behind_left c) [] E0 (tCons (tVar 0) (tCons (tVar 1) (tCons (tVar 2) (tCons (tVar 5) tNil))))) (tC .non)))
  (tRet (tC (.bl false)))
  tNext))
  (tRet (tC (.bl true)))))
def sp_pair_holds (c : Cn) : Sp := fun vs H Q E => vs.length = 4 ∧ ∃ (mv kn : Addr) (gs : List Gm) (A : Nat → Prop) (kvs : List TX) (x y : Nat), vs = [.ref mv, .ref kn, .int x, .int y] ∧ MvAt H mv gs A ∧ (∀ s, ∀ m ∈ mvs gs x s, A m.toNat) ∧ (∀ s, ∀ m ∈ mvs gs y s, A m.toNat) ∧ A x ∧ A y ∧ GOk gs ∧ Rd H kn (.dT kvs) ∧ BlV kvs ∧
  ∀ (H' : Hp), Keep Nil H H' → Q (.bl (phF gs (gK kvs) x y)) H'
theorem p_pair_holds {c : Cn} {mg : Str → Option Value} (T : Txt c mg) {vs : List V} {H : Hp} {Q : VK} {E : XK} (h : sp_pair_holds c vs H Q E) : t_pair_holds c { nx := fun _ H' => Q .non H', rt := Q } (start N_pair_holds vs) H := by
  obtain ⟨_, mv, kn, gs, A, kvs, x, y, rfl, M, clx, cly, Ax, Ay, go, ek, bl, k⟩ := h
  obtain ⟨kv, t1, a1, b1, e1, w1, t1', _, l1⟩ := M.list Ax
  obtain ⟨kv2, t2, a2, b2, e2, w2, t2', l2, _⟩ := M.list Ay
  have rk : ∀ {H'}, Keep Nil H H' → Rd H' kn (.dT kvs) := fun kk => ek.imp (fun z => kk.get (fun z => z) z) fun ⟨o, z⟩ => ⟨o, kk.get (fun z => z) z⟩
  unfold t_pair_holds
  repeat kaf_suf
  refine v_ixMv e1 w1 ?_
  repeat kaf_suf
  refine forI (l := mvs gs x false) (fun j H' => Keep Nil H H' ∧ ∀ z ∈ (mvs gs x false).take j, (bRf gs (gK kvs) z y).isSome = true) (fun j H' h => h.1.get (fun z => z) l1) none rfl ⟨Keep.refl, fun _ h => by simp at h⟩ ?_ ?_
  · rintro j z H1 hz ⟨kk, lo⟩
    have zm := List.mem_of_getElem? hz
    obtain ⟨m0, _⟩ := mvs_low go zm
    obtain ⟨n, rfl⟩ := Int.eq_ofNat_of_zero_le m0
    have An := clx _ _ zm
    repeat kaf_suf
    refine ⟨rfl, mv, kn, gs, A, kvs, Nil, n, y, rfl, Al.nil, M.same kk, An, Ay, rk kk, bl, fun H2 v k2 rv => ?_⟩
    cases hb : bRf gs (gK kvs) n y with
    | none =>
      rw [hb] at rv
      cases rv.none_
      repeat kaf_suf
      have := k _ (kk.trans k2)
      rw [show phF gs (gK kvs) x y = false by
        unfold phF
        rw [Bool.and_eq_false_iff]
        exact .inl (List.all_eq_false.mpr ⟨_, zm, by rw [hb]; simp⟩)] at this
      exact this
    | some q =>
      rw [hb] at rv
      obtain ⟨t, rfl, _⟩ := prD_ rv
      repeat kaf_suf
      refine r_iteF' (fun z => by cases z) ?_
      repeat kaf_suf
      exact ⟨_, rfl, kk.trans k2, take_snoc hz lo (by rw [hb]; rfl)⟩
  intro o H1 ⟨kk, lo⟩
  rw [List.take_length] at lo
  have e2' := kk.get (fun z => z) e2
  have t2'' := kk.get (fun z => z) t2'
  have l2' := kk.get (fun z => z) l2
  repeat kaf_suf
  refine v_ixMv e2' w2 ?_
  repeat kaf_suf
  refine forI (l := mvs gs y true) (fun j H' => Keep Nil H H' ∧ ∀ z ∈ (mvs gs y true).take j, (bLf gs (gK kvs) x z).isSome = true) (fun j H' h => h.1.get (fun z => z) l2) none rfl ⟨kk, fun _ h => by simp at h⟩ ?_ ?_
  · rintro j z H2 hz ⟨kk2, lo2⟩
    have zm := List.mem_of_getElem? hz
    obtain ⟨m0, _⟩ := mvs_low go zm
    obtain ⟨n, rfl⟩ := Int.eq_ofNat_of_zero_le m0
    have An := cly _ _ zm
    repeat kaf_suf
    refine ⟨rfl, mv, kn, gs, A, kvs, Nil, x, n, rfl, Al.nil, M.same kk2, Ax, An, rk kk2, bl, fun H3 v k3 rv => ?_⟩
    cases hb : bLf gs (gK kvs) x n with
    | none =>
      rw [hb] at rv
      cases rv.none_
      repeat kaf_suf
      have := k _ (kk2.trans k3)
      rw [show phF gs (gK kvs) x y = false by
        unfold phF
        rw [Bool.and_eq_false_iff]
        exact .inr (List.all_eq_false.mpr ⟨_, zm, by rw [hb]; simp⟩)] at this
      exact this
    | some q =>
      rw [hb] at rv
      obtain ⟨t, rfl, _⟩ := prD_ rv
      repeat kaf_suf
      refine r_iteF' (fun z => by cases z) ?_
      repeat kaf_suf
      exact ⟨_, rfl, kk2.trans k3, take_snoc hz lo2 (by rw [hb]; rfl)⟩
  intro o2 H2 ⟨kk2, lo2⟩
  rw [List.take_length] at lo2
  have := k _ kk2
  rw [show phF gs (gK kvs) x y = true by
    unfold phF
    rw [Bool.and_eq_true]
    exact ⟨List.all_eq_true.mpr lo, List.all_eq_true.mpr lo2⟩] at this
  repeat kaf_suf
  exact this
theorem cal_pair_holds {c : Cn} {mg : Str → Option Value} {base : Heap} (T : Txt c mg) : Cal c.P c.w c.K mg base CX0 2 "pair_holds" (sp_pair_holds c) := by
  obtain ⟨f, fd, F, g, b⟩ := T.F_pair_holds
  exact ⟨f, fd, ["moves", "known", "x", "y"], F.ok (k := 1) (N := N_pair_holds) sc_pair_holds (fun vs H Q E h => h.1) (fun cdv A outer s H vs Q E hr h => ⟨t_pair_holds c, by
  exact (pss_cons (ps_for PassesOwn.never rfl (pi_any (pe_ix (x_ix (hu64 hr)) (pe_ix (x_ix (hu64 hr)) (pv 0) (pv 2) (fun _ _ => rfl)) pe_int (fun _ _ => rfl))) (pg_name (i := 4) sc_pair_holds.nd rfl (Or.inl rfl))
  (pss_one (ps_if (pt_cmpR o_is (e_call (cal_behind_right T) hr (by decide) pass0 rfl (pa_cons (pv 0) (pa_cons (pv 1) (pa_cons (pv 4) (pa_cons (pv 3) pa_nil))))) pe_non (nomark _)) (pss_one (ps_ret pe_bl)) pss_nil)))
  (pss_cons (ps_for PassesOwn.never rfl (pi_any (pe_ix (x_ix (hu64 hr)) (pe_ix (x_ix (hu64 hr)) (pv 0) (pv 3) (fun _ _ => rfl)) pe_int (fun _ _ => rfl))) (pg_name (i := 5) sc_pair_holds.nd rfl (Or.inl rfl))
  (pss_one (ps_if (pt_cmpR o_is (e_call (cal_behind_left T) hr (by decide) pass0 rfl (pa_cons (pv 0) (pa_cons (pv 1) (pa_cons (pv 2) (pa_cons (pv 5) pa_nil))))) pe_non (nomark _)) (pss_one (ps_ret pe_bl)) pss_nil)))
  (pss_one (ps_ret pe_bl)))), p_pair_holds T h⟩), g, F.kp, b⟩

abbrev N_reached : List Str := ["book", "g", "found", "waiting", "here", "move"]
theorem sc_reached : FnScope N_reached ["book", "g"] (defScope s_reached) := ⟨rfl, rfl, rfl, by decide +kernel, rfl, by decide +kernel, by decide +kernel⟩
def t_reached (c : Cn) : TS :=
  (tSeq (tDrop (tMeth c.cBook "depth" (sp_Book_depth c) [] E0 (tVar 0) (tCons (tVar 1) tNil)))
  (tSeq (tAsg (tDisp (((tVar 1), (tC (.bl true))) :: [])) (gName 2))
  (tSeq (tAsg (tLst (tCons (tVar 1) tNil)) (gName 3))
  (tSeq (tWhile (tTest (tOp (cNe c.K) (tVar 3) (tLst tNil)))
  (tSeq (tAsg (tBM0 c.K "list" rPop (tVar 3)) (gName 4))
  (tFor (iAny c.K (tOp (bAdd c.K) (tMeth c.cBook "lefts" (sp_Book_lefts c) [] E0 (tVar 0) (tCons (tVar 4) tNil)) (tMeth c.cBook "rights" (sp_Book_rights c) [] E0 (tVar 0) (tCons (tVar 4) tNil)))) (gName 5)
  (tIfS (tTest (tOp (cNotIn c.P c.w c.K) (tVar 5) (tVar 2)))
  (tSeq (tAsg (tC (.bl true)) (gSub (tVar 2) (tVar 5) (bSet c.P c.w)))
  (tDrop (tBM c.K "list" rAppend (tVar 3) (tCons (tVar 5) tNil))))
  tNext))))
  (tRet (tCB (kSorted c.K c.w) (tCons (tVar 2) tNil)))))))
/-- what can be come to from g: rising, closed, none greater -/
structure Rch (gs : List Gm) (g : Nat) (rs : List Int) : Prop where
  up : rs.Pairwise (· < ·)
  mem : (g : Int) ∈ rs
  low : ∀ z ∈ rs, 0 ≤ z ∧ z ≤ g
  cl : ∀ z ∈ rs, ∀ s, ∀ m ∈ mvs gs z.toNat s, m ∈ rs
theorem lt_of_nodup : ∀ {l : List Int}, l.Pairwise (· ≤ ·) → l.Nodup → l.Pairwise (· < ·)
  | [], _, _ => .nil
  | x :: r, h, n => by
    obtain ⟨h1, h2⟩ := List.pairwise_cons.mp h
    obtain ⟨n1, n2⟩ := List.nodup_cons.mp n
    refine List.pairwise_cons.mpr ⟨fun y hy => ?_, lt_of_nodup h2 n2⟩
    have := h1 y hy
    have : x ≠ y := fun e => n1 (e ▸ hy)
    omega
theorem keys_bound {ks : List Int} {g : Nat} (n : ks.Nodup) (h : ∀ z ∈ ks, 0 ≤ z ∧ z ≤ g) : ks.length ≤ g + 1 := by
  have := nodup_le ks ((List.range (g + 1)).map Int.ofNat) n fun z hz => by
    have := h z hz
    exact List.mem_map.mpr ⟨z.toNat, List.mem_range.mpr (by omega), by show ((z.toNat : Nat) : Int) = z; omega⟩
  rw [List.length_map, List.length_range] at this
  exact this
theorem keysM {kvs : List KX} {ks : List Int} (e : kvs.map (·.1) = ks.map Sum.inl) (z : Int) : (valV kvs (.inl z)).isSome = decide (z ∈ ks) := by
  rw [← valV_any]
  have : (kvs.any fun kv => decide (kv.1 = (Sum.inl z : Key))) = (kvs.map (·.1)).any fun k => decide (k = Sum.inl z) := by rw [List.any_map]; rfl
  rw [this, e, List.any_map]
  by_cases h : z ∈ ks
  · rw [decide_eq_true h]
    exact List.any_eq_true.mpr ⟨z, h, by simp⟩
  · rw [decide_eq_false h]
    exact List.any_eq_false.mpr fun y hy => by
      simp only [Function.comp, decide_eq_true_eq]
      intro q; injection q with q; exact h (q ▸ hy)
def sp_reached (c : Cn) : Sp := fun vs H Q E => vs.length = 2 ∧ ∃ (b : Addr) (M : Addr → Prop) (gs : List Gm) (ds : List Int) (g : Nat), vs = [.ref b, .int g] ∧ BookAt c H b M gs ds ∧ g < gs.length ∧ gs.length ≤ 40000 ∧
  ∀ (H' : Hp) (p : Addr) (rs : List Int), Keep Nil H H' → H p = none → H' p = some (.lst (rs.map V.int)) → Rch gs g rs → Q (.ref p) H'
theorem p_reached {c : Cn} {mg : Str → Option Value} (T : Txt c mg) {vs : List V} {H : Hp} {Q : VK} {E : XK} (h : sp_reached c vs H Q E) : t_reached c { nx := fun _ H' => Q .non H', rt := Q } (start N_reached vs) H := by
  obtain ⟨_, b, M, gs, ds, g, rfl, B, hg, few, k⟩ := h
  obtain ⟨dg, hdg⟩ : ∃ v, ds[g]? = some v := ⟨_, List.getElem?_eq_getElem (by have := B.dok.len; omega)⟩
  obtain ⟨bx, bm, bn, bd, hb⟩ := B.ins_
  unfold t_reached
  repeat kaf_suf
  refine ⟨rfl, b, M, gs, ds, g, dg, rfl, B, hdg, ?_⟩
  repeat kaf_suf
  refine fun fd hfd => ?_
  simp only [tPairs]
  repeat kaf_suf
  refine ⟨upd_same, [(.inl (g : Int), .bl true)], rfl, by simp, ?_⟩
  repeat kaf_suf
  intro wt hwt
  repeat kaf_suf
  have k0 : Keep Nil H (upd (upd (upd H fd (.dK [])) fd (.dK (mergeK [] [(.inl (g : Int), .bl true)]))) wt (.lst [.int g])) := ((Keep.alloc hfd).setN hfd).new hwt
  have hwt0 : H wt = none := by
    have := none_of_upd (none_of_upd hwt); exact this
  have efd : (upd (upd (upd H fd (.dK [])) fd (.dK (mergeK [] [(.inl (g : Int), .bl true)]))) wt (.lst [.int g])) fd = some (.dK [(.inl (g : Int), .bl true)]) := get_new hwt upd_same
  have ewt : (upd (upd (upd H fd (.dK [])) fd (.dK (mergeK [] [(.inl (g : Int), .bl true)]))) wt (.lst [.int g])) wt = some (.lst [.int g]) := upd_same
  generalize upd (upd (upd H fd (.dK [])) fd (.dK (mergeK [] [(.inl (g : Int), .bl true)]))) wt (.lst [.int g]) = H0 at k0 efd ewt ⊢
  clear hwt
  have nfw : fd ≠ wt := fun z => by rw [z, ewt] at efd; cases efd
  refine ⟨fun m σ H' => ∃ (x4 x5 : Option V) (ks ws : List Int) (kvs : List KX), σ = [some (.ref b), some (.int g), some (.ref fd), some (.ref wt), x4, x5] ∧ kvs.map (·.1) = ks.map Sum.inl ∧ H' fd = some (.dK kvs) ∧ H' wt = some (.lst (ws.map V.int)) ∧ Keep Nil H H' ∧
    ks.Nodup ∧ (∀ z ∈ ks, 0 ≤ z ∧ z ≤ g) ∧ (g : Int) ∈ ks ∧ (∀ z ∈ ws, z ∈ ks) ∧ (∀ z ∈ ks, z ∉ ws → ∀ s, ∀ m ∈ mvs gs z.toNat s, m ∈ ks) ∧ ws.Nodup ∧ m = 2 * (g + 1 - ks.length) + ws.length, ⟨_, _, _, [(g : Int)], [(g : Int)], _, rfl, rfl, efd, ewt, k0, by simp, (fun z hz => by simp at hz; omega), by simp, (fun z hz => hz), (fun z hz n => absurd hz n), by simp, rfl⟩, ?_⟩
  rintro m σ H1 ⟨x4, x5, ks, ws, kvs, rfl, hks, e1, e2, k1, nd, lo, gm, wk, cl, wl, rfl⟩
  clear efd ewt k0
  repeat kaf_suf
  intro q hq
  repeat kaf_suf
  refine v_neD (dp_ints (get_new hq e2)) (.lst (SqL.of upd_same) .nil) (dInts_sh _) (dInts_sh []) ?_
  rw [show PyData.eqv (dInts ws) (.list []) = decide (ws = []) from eqv_dInts ws []]
  have e1q : (upd H1 q (.lst [])) fd = some (.dK kvs) := get_new hq e1
  have e2q : (upd H1 q (.lst [])) wt = some (.lst (ws.map V.int)) := get_new hq e2
  have k1q : Keep Nil H (upd H1 q (.lst [])) := k1.new hq
  generalize upd H1 q (.lst []) = H2 at e1q e2q k1q ⊢
  clear e1 e2 k1 hq
  have ksb := keys_bound nd lo
  rcases List.eq_nil_or_concat ws with rfl | ⟨w2, z, rfl⟩
  · repeat kaf_suf
    refine r_iteNF' rfl ?_
    repeat kaf_suf
    refine v_sortedD e1q hks fun rs p pr ris hp => ?_
    have rn : rs.Nodup := pr.nodup_iff.mpr nd
    exact k _ p rs (k1q.new hp) (keep_none k1q hp) upd_same ⟨lt_of_nodup ris rn, pr.mem_iff.mpr gm, fun z hz => lo z (pr.mem_iff.mp hz), fun z hz s m hm => pr.mem_iff.mpr (cl z (pr.mem_iff.mp hz) (by simp) s m hm)⟩
  · rw [List.concat_eq_append] at e2q wk cl wl ⊢
    refine r_kB ?_
    refine r_iteNT' (by simp) ?_
    rw [List.map_append] at e2q
    have zk : z ∈ ks := wk z (by simp)
    obtain ⟨z0, zg⟩ := lo z zk
    obtain ⟨zn, rfl⟩ := Int.eq_ofNat_of_zero_le z0
    obtain ⟨gmz, hgz⟩ : ∃ x, gs[zn]? = some x := ⟨_, List.getElem?_eq_getElem (by omega)⟩
    have emz : ∀ s, mvs gs zn s = if s then gmz.1 else gmz.2 := fun s => by unfold mvs; rw [hgz]
    refine ⟨fun σ' H' => ∃ (x4 x5 : Option V) (ks' ws' : List Int) (kvs' : List KX), σ' = [some (.ref b), some (.int g), some (.ref fd), some (.ref wt), x4, x5] ∧ kvs'.map (·.1) = ks'.map Sum.inl ∧ H' fd = some (.dK kvs') ∧ H' wt = some (.lst (ws'.map V.int)) ∧ Keep Nil H H' ∧
      ks'.Nodup ∧ (∀ z ∈ ks', 0 ≤ z ∧ z ≤ g) ∧ (g : Int) ∈ ks' ∧ (∀ z ∈ ws', z ∈ ks') ∧ (∀ z ∈ ks', z ∉ ws' → ∀ s, ∀ m ∈ mvs gs z.toNat s, m ∈ ks') ∧ ws'.Nodup ∧ 2 * (g + 1 - ks'.length) + ws'.length < 2 * (g + 1 - ks.length) + (w2 ++ [(zn : Int)]).length, fun σ' H' ⟨x4, x5, ks', ws', kvs', h1, h2, h3, h4, h5, h6, h7, h8, h9, h10, h11, h12⟩ => ⟨_, h12, x4, x5, ks', ws', kvs', h1, h2, h3, h4, h5, h6, h7, h8, h9, h10, h11, rfl⟩, ?_⟩
    repeat kaf_suf
    refine v_pop e2q ?_
    have e1p : (upd H2 wt (.lst (w2.map V.int))) fd = some (.dK kvs) := get_set nfw e1q
    have e2p : (upd H2 wt (.lst (w2.map V.int))) wt = some (.lst (w2.map V.int)) := upd_same
    have kp : Keep Nil H (upd H2 wt (.lst (w2.map V.int))) := k1q.setN hwt0
    have Bp := B.same kp
    generalize upd H2 wt (.lst (w2.map V.int)) = H3 at e1p e2p kp Bp ⊢
    clear e1q e2q k1q
    obtain ⟨bx3, bm3, bn3, bd3, hb3⟩ := Bp.ins_
    repeat kaf_suf
    refine ⟨rfl, b, M, gs, ds, zn, gmz, rfl, Bp, hgz, fun r1 hr1 => ?_⟩
    repeat kaf_suf
    refine ⟨rfl, b, M, gs, ds, zn, gmz, rfl, Bp.same (Keep.alloc hr1), hgz, fun r2 hr2 => ?_⟩
    have u1 := B.ok.up gmz (List.mem_of_getElem? hgz)
    have lw := B.ok.low zn gmz hgz
    have n1 := up_len _ 0 zn u1.1 (fun x hx => lw x (List.mem_append_left _ hx)) (by omega)
    have n2 := up_len _ 0 zn u1.2 (fun x hx => lw x (List.mem_append_right _ hx)) (by omega)
    repeat kaf_suf
    intro r3 hr3
    have e3 : (upd (upd (upd H3 r1 (.lst (gmz.1.map V.int))) r2 (.lst (gmz.2.map V.int))) r3 (.lst (gmz.1.map V.int ++ gmz.2.map V.int))) r3 = some (.lst ((gmz.1 ++ gmz.2).map V.int)) := by rw [List.map_append]; exact upd_same
    have k3 : Keep Nil H3 (upd (upd (upd H3 r1 (.lst (gmz.1.map V.int))) r2 (.lst (gmz.2.map V.int))) r3 (.lst (gmz.1.map V.int ++ gmz.2.map V.int))) := ((Keep.alloc hr1).new hr2).new hr3
    have e13 := k3.get (fun z => z) e1p
    have e23 := k3.get (fun z => z) e2p
    have k03 := kp.trans k3
    have nr3 : r3 ≠ wt := ne_new hr3 (get_new hr2 (get_new hr1 e2p))
    have nr3' : r3 ≠ fd := ne_new hr3 (get_new hr2 (get_new hr1 e1p))
    generalize upd (upd (upd H3 r1 (.lst (gmz.1.map V.int))) r2 (.lst (gmz.2.map V.int))) r3 (.lst (gmz.1.map V.int ++ gmz.2.map V.int)) = H4 at e3 e13 e23 k03 ⊢
    clear hr1 hr2 hr3 k3 e1p e2p kp Bp hb3
    repeat kaf_suf
    have hfd0 : H fd = none := hfd
    refine for_list (xs := (gmz.1 ++ gmz.2).map V.int) (fun j σ H' => ∃ (x5 : Option V) (ks' ws' : List Int) (kvs' : List KX), σ = [some (.ref b), some (.int g), some (.ref fd), some (.ref wt), some (.int zn), x5] ∧ kvs'.map (·.1) = ks'.map Sum.inl ∧ H' fd = some (.dK kvs') ∧ H' wt = some (.lst (ws'.map V.int)) ∧ Keep Nil H H' ∧ H' r3 = some (.lst ((gmz.1 ++ gmz.2).map V.int)) ∧
      ks'.Nodup ∧ (∀ z ∈ ks', 0 ≤ z ∧ z ≤ g) ∧ (∀ z ∈ ks, z ∈ ks') ∧ (∀ z ∈ ws', z ∈ ks') ∧ (∀ z ∈ w2, z ∈ ws') ∧ (∀ z ∈ ks', z ∉ ks → z ∈ ws') ∧ (∀ m ∈ (gmz.1 ++ gmz.2).take j, m ∈ ks') ∧ ws'.Nodup ∧ ws'.length + ks.length = w2.length + ks'.length) ⟨_, ks, w2, kvs, rfl, hks, e13, e23, k03, e3, nd, lo, (fun z hz => hz), (fun z hz => wk z (by simp [hz])), (fun z hz => hz), (fun z hz n => absurd hz n), (fun m hm => by simp at hm), (List.nodup_append.mp wl).1, rfl⟩ ?_ ?_ ?_
    · rintro j σ H' _ ⟨_, _, _, _, _, _, _, _, _, h, _⟩; exact SqL.of h
    · rintro j x σ H5 hj ⟨x5, ks', ws', kvs', rfl, hks', f1, f2, kk, f3, nd', lo', sub, wk', w2s, new', tk, wl', eq'⟩
      rw [List.getElem?_map] at hj
      obtain ⟨mm, hm, rfl⟩ := Option.map_eq_some_iff.mp hj
      have hmm := List.mem_of_getElem? hm
      obtain ⟨m0, m1⟩ := lw mm hmm
      have tk1 : (gmz.1 ++ gmz.2).take (j + 1) = (gmz.1 ++ gmz.2).take j ++ [mm] := by rw [List.take_succ, hm]; rfl
      have kb := keys_bound nd' lo'
      have wkl := nodup_le ws' ks' wl' wk'
      repeat kaf_suf
      refine v_ninK f1 ?_
      rw [keysM hks']
      refine r_kB (r_iteN (fun hn => ?_) (fun hn => ?_))
      · have wl2 : ws'.length ≤ 90000 := by omega
        repeat kaf_suf
        have lk : kvs'.length = ks'.length := by have := congrArg List.length hks'; rw [List.length_map, List.length_map] at this; exact this
        refine v_setK f1 (few1 (by omega)) ?_
        have f1' : (upd H5 fd (.dK (putK kvs' (.inl mm) (.bl true)))) fd = some (.dK (putK kvs' (.inl mm) (.bl true))) := upd_same
        have f2' : (upd H5 fd (.dK (putK kvs' (.inl mm) (.bl true)))) wt = some (.lst (ws'.map V.int)) := get_set nfw.symm f2
        have f3' : (upd H5 fd (.dK (putK kvs' (.inl mm) (.bl true)))) r3 = some (.lst ((gmz.1 ++ gmz.2).map V.int)) := get_set nr3' f3
        have nn : valV kvs' (.inl mm) = none := by
          have := keysM hks' mm
          rw [decide_eq_false hn] at this
          cases e : valV kvs' (.inl mm) with
          | none => rfl
          | some v => rw [e] at this; cases this
        have kk' : Keep Nil H (upd H5 fd (.dK (putK kvs' (.inl mm) (.bl true)))) := kk.setN hfd0
        generalize hX : upd H5 fd (.dK (putK kvs' (.inl mm) (.bl true))) = H6 at f1' f2' f3' kk' ⊢
        repeat kaf_suf
        refine ⟨_, ks' ++ [mm], ws' ++ [mm], putK kvs' (.inl mm) (.bl true), rfl, by rw [putK_new nn, List.map_append, List.map_append, hks']; rfl, get_set nfw f1', by rw [List.map_append]; exact upd_same, kk'.setN hwt0, get_set nr3 f3', ?_, ?_, (fun z hz => List.mem_append_left _ (sub z hz)), ?_, (fun z hz => List.mem_append_left _ (w2s z hz)), ?_, ?_, ?_, by rw [List.length_append, List.length_append]; simp only [List.length_singleton]; omega⟩
        · rw [List.nodup_append]
          refine ⟨nd', by simp, fun x hx y hy => ?_⟩
          cases List.mem_singleton.mp hy
          exact fun e => hn (e ▸ hx)
        · intro z hz
          rcases List.mem_append.mp hz with h | h
          · exact lo' z h
          · cases List.mem_singleton.mp h; omega
        · intro z hz
          rcases List.mem_append.mp hz with h | h
          · exact List.mem_append_left _ (wk' z h)
          · exact List.mem_append_right _ h
        · intro z hz hn'
          rcases List.mem_append.mp hz with h | h
          · exact List.mem_append_left _ (new' z h hn')
          · exact List.mem_append_right _ h
        · intro m hm'
          rw [tk1] at hm'
          rcases List.mem_append.mp hm' with h | h
          · exact List.mem_append_left _ (tk m h)
          · exact List.mem_append_right _ h
        · rw [List.nodup_append]
          refine ⟨wl', by simp, fun x hx y hy => ?_⟩
          cases List.mem_singleton.mp hy
          exact fun e => hn (e ▸ wk' x hx)
      · repeat kaf_suf
        refine ⟨_, ks', ws', kvs', rfl, hks', f1, f2, kk, f3, nd', lo', sub, wk', w2s, new', fun m hm' => ?_, wl', eq'⟩
        rw [tk1] at hm'
        rcases List.mem_append.mp hm' with h | h
        · exact tk m h
        · cases List.mem_singleton.mp h; exact hn
    · rintro σ H5 ⟨x5, ks', ws', kvs', rfl, hks', f1, f2, kk, f3, nd', lo', sub, wk', w2s, new', tk, wl', eq'⟩
      rw [List.length_map, List.take_length] at tk
      repeat kaf_suf
      refine ⟨_, _, ks', ws', kvs', rfl, hks', f1, f2, kk, nd', lo', sub _ gm, wk', fun y hy hn s m hm => ?_, wl', ?_⟩
      · by_cases e : y = (zn : Int)
        · subst e
          rw [Int.toNat_natCast, emz] at hm
          refine tk m ?_
          cases s
          · exact List.mem_append_right _ hm
          · exact List.mem_append_left _ hm
        · by_cases hy' : y ∈ ks
          · refine sub m (cl y hy' (fun z => ?_) s m hm)
            rcases List.mem_append.mp z with h | h
            · exact hn (w2s y h)
            · exact e (List.mem_singleton.mp h)
          · exact absurd (new' y hy hy') hn
      · have kb := keys_bound nd' lo'
        rw [List.length_append]
        simp only [List.length_singleton]
        have := nodup_le ks ks' nd sub
        omega
theorem cal_reached {c : Cn} {mg : Str → Option Value} {base : Heap} (T : Txt c mg) : Cal c.P c.w c.K mg base CX0 3 "reached" (sp_reached c) := by
  obtain ⟨f, fd, F, g, b⟩ := T.F_reached
  exact ⟨f, fd, ["book", "g"], F.ok (k := 2) (N := N_reached) sc_reached (fun vs H Q E h => h.1) (fun cdv A outer s H vs Q E hr h => ⟨t_reached c, by
  exact (pss_cons (ps_expr (e_meth (met_Book_depth T) hr (by decide) pass0 (pv 0) (pa_cons (pv 1) pa_nil)))
  (pss_cons (ps_set (i := 2) sc_reached.nd rfl (Or.inl rfl) (pe_disp (pps_cons (pv 1) pe_bl pps_nil) rfl rfl (by simp) (by decide)))
  (pss_cons (ps_set (i := 3) sc_reached.nd rfl (Or.inl rfl) (pe_lst (pa_cons (pv 1) pa_nil)))
  (pss_cons (ps_while PassesOwn.never (pt_cmpR (o_ne (hu64 hr)) (pv 3) (pe_lst pa_nil) (nomark _))
  (pss_cons (ps_set (i := 4) sc_reached.nd rfl (Or.inl rfl) (pe_bm0 PySem.F.plainAttrs_list PySem.F.slot_list_pop PySem.F.type_list_pop mt_pop (pv 3)))
  (pss_one (ps_for PassesOwn.never rfl (pi_any (pe_op o_add (e_meth (met_Book_lefts T) hr (by decide) pass0 (pv 0) (pa_cons (pv 4) pa_nil)) (e_meth (met_Book_rights T) hr (by decide) pass0 (pv 0) (pa_cons (pv 4) pa_nil)))) (pg_name (i := 5) sc_reached.nd rfl (Or.inl rfl))
  (pss_one (ps_if (pt_cmpR (o_notin (hu65 hr)) (pv 5) (pv 2) (by rfl)) (pss_cons (ps_asg pe_bl (pg_sub (pv 2) (pv 5) (s_set (hu64 hr))))
  (pss_one (ps_expr (pe_bm PySem.F.plainAttrs_list PySem.F.slot_list_append PySem.F.type_list_append mt_append (pv 3) (pa_cons (pv 5) pa_nil))))) pss_nil))))))
  (pss_one (ps_ret (pe_callB (k_sorted rfl) (by rfl) T.n_sorted (by decide +kernel) (pa_cons (pv 2) pa_nil)))))))), p_reached T h⟩), g, F.kp, b⟩

theorem rowSet {H : Hp} {d t : Addr} {kvs : List KX} {o : HO} {gm : Gm} (r : RowAt Nil H t gm) (e : H d = some (.dK kvs)) : RowAt Nil (upd H d o) t gm := by
  obtain ⟨a, b, h1, h2, h3, w⟩ := r
  exact ⟨a, b, get_set (fun z => by rw [z, e] at h1; cases h1) h1, get_set (fun z => by rw [z, e] at h2; cases h2) h2, get_set (fun z => by rw [z, e] at h3; cases h3) h3, w⟩
theorem take_lt : ∀ {l : List Int} {i : Nat} {x z : Int}, l.Pairwise (· < ·) → l[i]? = some x → z ∈ l → z < x → z ∈ l.take i
  | [], _, _, _, _, h, _, _ => by simp at h
  | a :: r, 0, x, z, u, h, hz, lt => by
    simp at h; subst h
    rcases List.mem_cons.mp hz with e | hz
    · omega
    · have := (List.pairwise_cons.mp u).1 z hz; omega
  | a :: r, i + 1, x, z, u, h, hz, lt => by
    rw [List.take_succ_cons]
    rcases List.mem_cons.mp hz with e | hz
    · exact e ▸ List.mem_cons_self
    · exact List.mem_cons_of_mem _ (take_lt (List.pairwise_cons.mp u).2 (by simpa using h) hz lt)
theorem nodup_lt {l : List Int} (u : l.Pairwise (· < ·)) : l.Nodup := u.imp fun h e => by omega
abbrev N_moves_by : List Str := ["book", "games", "moves", "here"]
theorem sc_moves_by : FnScope N_moves_by ["book", "games"] (defScope s_moves_by) := ⟨rfl, rfl, rfl, by decide +kernel, rfl, by decide +kernel, by decide +kernel⟩
def t_moves_by (c : Cn) : TS :=
  (tSeq (tAsg (uDNew c.P c.w) (gName 2))
  (tSeq (tFor (iAny c.K (tVar 1)) (gName 3)
  (tAsg (tTup (tCons (tMeth c.cBook "lefts" (sp_Book_lefts c) [] E0 (tVar 0) (tCons (tVar 3) tNil)) (tCons (tMeth c.cBook "rights" (sp_Book_rights c) [] E0 (tVar 0) (tCons (tVar 3) tNil)) tNil))) (gSub (tVar 2) (tVar 3) (bSet c.P c.w))))
  (tRet (tVar 2))))
def sp_moves_by (c : Cn) : Sp := fun vs H Q E => vs.length = 2 ∧ ∃ (b l : Addr) (M : Addr → Prop) (gs : List Gm) (ds ns : List Int), vs = [.ref b, .ref l] ∧ BookAt c H b M gs ds ∧ H l = some (.lst (ns.map V.int)) ∧ (∀ z ∈ ns, 0 ≤ z ∧ z < gs.length) ∧ ns.length ≤ 90000 ∧
  ∀ (H' : Hp) (p : Addr), Keep Nil H H' → H p = none → MvAt H' p gs (fun g => (g : Int) ∈ ns) → Q (.ref p) H'
theorem p_moves_by {c : Cn} {mg : Str → Option Value} (T : Txt c mg) {vs : List V} {H : Hp} {Q : VK} {E : XK} (h : sp_moves_by c vs H Q E) : t_moves_by c { nx := fun _ H' => Q .non H', rt := Q } (start N_moves_by vs) H := by
  obtain ⟨_, b, l, M, gs, ds, ns, rfl, B, hl, R, few, k⟩ := h
  unfold t_moves_by
  repeat kaf_suf
  refine .inl ⟨true, fun md hmd => ?_⟩
  rw [if_pos rfl]
  repeat kaf_suf
  refine for_list (xs := ns.map V.int) (fun i σ H' => ∃ (x3 : Option V) (kvs : List KX), σ = [some (.ref b), some (.ref l), some (.ref md), x3] ∧ Keep Nil H H' ∧ H' md = some (.dK kvs) ∧ kvs.length ≤ i ∧ ∀ g : Nat, (g : Int) ∈ ns.take i → ∃ gm t, gs[g]? = some gm ∧ valV kvs (.inl (g : Int)) = some (.ref t) ∧ RowAt Nil H' t gm) ⟨_, [], rfl, Keep.alloc hmd, upd_same, Nat.zero_le _, fun g h => by simp at h⟩ ?_ ?_ ?_
  · rintro i σ H' _ ⟨_, _, _, kk, _⟩; exact SqL.of (kk.get (fun z => z) hl)
  · rintro i x σ H1 hi ⟨x3, kvs, rfl, kk, e1, kl, hk⟩
    rw [List.getElem?_map] at hi
    obtain ⟨m, hm, rfl⟩ := Option.map_eq_some_iff.mp hi
    have il := (List.getElem?_eq_some_iff.mp hm).1
    obtain ⟨m0, m1⟩ := R m (List.mem_of_getElem? hm)
    obtain ⟨g, rfl⟩ := Int.eq_ofNat_of_zero_le m0
    obtain ⟨gm, hg⟩ : ∃ x, gs[g]? = some x := ⟨_, List.getElem?_eq_getElem (by omega)⟩
    have B1 := B.same kk
    obtain ⟨bx, bm, bn, bd, hb⟩ := B1.ins_
    repeat kaf_suf
    refine ⟨rfl, b, M, gs, ds, g, gm, rfl, B1, hg, fun r1 hr1 => ?_⟩
    repeat kaf_suf
    refine ⟨rfl, b, M, gs, ds, g, gm, rfl, B1.same (Keep.alloc hr1), hg, fun r2 hr2 => ?_⟩
    repeat kaf_suf
    intro t ht
    repeat kaf_suf
    have k3 : Keep Nil H1 (upd (upd (upd H1 r1 (.lst (gm.1.map V.int))) r2 (.lst (gm.2.map V.int))) t (.tup [.ref r1, .ref r2])) := ((Keep.alloc hr1).new hr2).new ht
    have rw3 : RowAt Nil (upd (upd (upd H1 r1 (.lst (gm.1.map V.int))) r2 (.lst (gm.2.map V.int))) t (.tup [.ref r1, .ref r2])) t gm := ⟨r1, r2, upd_same, by kaf_pre, by kaf_pre, fun z => z, fun z => z, fun z => z⟩
    have e3 := k3.get (fun z => z) e1
    refine v_setK e3 (few1 (by omega)) ?_
    repeat kaf_suf
    refine ⟨_, _, rfl, (kk.trans k3).setN hmd, upd_same, by have := putK_len1 (kvs := kvs) (k := Sum.inl (g : Int)) (v := V.ref t); omega, fun g' hg' => ?_⟩
    rw [valV_put]
    by_cases e : g' = g
    · subst e
      exact ⟨gm, t, hg, by rw [if_pos rfl], rowSet rw3 e3⟩
    · have ne : ¬ ((Sum.inl (g' : Int) : Key) = Sum.inl (g : Int)) := fun z => by injection z with z; omega
      rw [if_neg ne]
      rw [List.take_succ, hm] at hg'
      rcases List.mem_append.mp hg' with h | h
      · obtain ⟨gm', t', q1, q2, q3⟩ := hk g' h
        exact ⟨gm', t', q1, q2, rowSet (q3.keep k3) e3⟩
      · have := List.mem_singleton.mp h
        omega
  · rintro σ H1 ⟨x3, kvs, rfl, kk, e1, kl, hk⟩
    rw [List.length_map, List.take_length] at hk
    repeat kaf_suf
    exact k _ _ kk hmd ⟨kvs, e1, hk⟩
theorem cal_moves_by {c : Cn} {mg : Str → Option Value} {base : Heap} (T : Txt c mg) : Cal c.P c.w c.K mg base CX0 3 "moves_by" (sp_moves_by c) := by
  obtain ⟨f, fd, F, g, b⟩ := T.F_moves_by
  exact ⟨f, fd, ["book", "games"], F.ok (k := 2) (N := N_moves_by) sc_moves_by (fun vs H Q E h => h.1) (fun cdv A outer s H vs Q E hr h => ⟨t_moves_by c, by
  exact (pss_cons (ps_set (i := 2) sc_moves_by.nd rfl (Or.inl rfl) pe_dnew)
  (pss_cons (ps_for PassesOwn.never rfl (pi_any (pv 1)) (pg_name (i := 3) sc_moves_by.nd rfl (Or.inl rfl))
  (pss_one (ps_asg (pe_tup (pa_cons (e_meth (met_Book_lefts T) hr (by decide) pass0 (pv 0) (pa_cons (pv 3) pa_nil)) (pa_cons (e_meth (met_Book_rights T) hr (by decide) pass0 (pv 0) (pa_cons (pv 3) pa_nil)) pa_nil))) (pg_sub (pv 2) (pv 3) (s_set (hu64 hr))))))
  (pss_one (ps_ret (pv 2))))), p_moves_by T h⟩), g, F.kp, b⟩
abbrev N_pairs_by : List Str := ["book", "g", "h", "ones", "others", "moves", "known", "x", "y"]
theorem sc_pairs_by : FnScope N_pairs_by ["book", "g", "h"] (defScope s_pairs_by) := ⟨rfl, rfl, rfl, by decide +kernel, rfl, by decide +kernel, by decide +kernel⟩
def t_pairs_by (c : Cn) : TS :=
  (tSeq (tAsg (tCall (sp_reached c) [] E0 (tCons (tVar 0) (tCons (tVar 1) tNil))) (gName 3))
  (tSeq (tAsg (tCall (sp_reached c) [] E0 (tCons (tVar 0) (tCons (tVar 2) tNil))) (gName 4))
  (tSeq (tAsg (tCall (sp_moves_by c) [] E0 (tCons (tVar 0) (tCons (tOp (bAdd c.K) (tVar 3) (tVar 4)) tNil))) (gName 5))
  (tSeq (tAsg (uDNew c.P c.w) (gName 6))
  (tSeq (tFor (iAny c.K (tVar 3)) (gName 7)
  (tFor (iAny c.K (tVar 4)) (gName 8)
  (tAsg (tCall (sp_pair_holds c) [] E0 (tCons (tVar 5) (tCons (tVar 6) (tCons (tVar 7) (tCons (tVar 8) tNil))))) (gSub (tVar 6) (tTup (tCons (tVar 7) (tCons (tVar 8) tNil))) (bSet c.P c.w)))))
  (tRet (tTup (tCons (tVar 5) (tCons (tVar 6) tNil)))))))))
def geI (gs : List Gm) (x y : Int) : Bool := ge gs x.toNat y.toNat
theorem find_isS {α : Type} {p : α → Bool} : ∀ {l : List α}, (l.find? p).isSome = l.any p
  | [] => rfl
  | x :: r => by
    rw [List.find?_cons, List.any_cons]
    cases p x with
    | true => rfl
    | false => rw [Bool.false_or]; exact find_isS
theorem bRf_some {gs : List Gm} {G : Int → Int → Bool} {r y : Int} : (bRf gs G r y).isSome = (((mvs gs r.toNat true).any fun l => G l y) || ((mvs gs y.toNat false).any fun q => G r q)) := by
  unfold bRf
  rw [Option.isSome_or, Option.isSome_map, Option.isSome_map, find_isS, find_isS]
theorem bLf_some {gs : List Gm} {G : Int → Int → Bool} {x p : Int} : (bLf gs G x p).isSome = (((mvs gs x.toNat true).any fun l => G l p) || ((mvs gs p.toNat false).any fun q => G x q)) := by
  unfold bLf
  rw [Option.isSome_or, Option.isSome_map, Option.isSome_map, find_isS, find_isS]
theorem phF_ge {gs : List Gm} (o : GOk gs) {x y : Nat} {G : Int → Int → Bool} (h1 : ∀ r ∈ mvs gs x false, (∀ l ∈ mvs gs r.toNat true, G l y = geI gs l y) ∧ ∀ q ∈ mvs gs y false, G r q = geI gs r q)
    (h2 : ∀ p ∈ mvs gs y true, (∀ l ∈ mvs gs x true, G l p = geI gs l p) ∧ ∀ q ∈ mvs gs p.toNat false, G x q = geI gs x q) : phF gs G x y = ge gs x y := by
  rw [ge_eq o]
  unfold phF gB
  have e1 : ((mvs gs x false).all fun r => (bRf gs G r y).isSome) = (mvs gs x false).all fun r => gR gs (ge gs) r.toNat y := all_eq fun r hr => by
    rw [bRf_some]
    unfold gR
    rw [Int.toNat_natCast, any_eq (h1 r hr).1, any_eq (h1 r hr).2]; rfl
  have e2 : ((mvs gs y true).all fun p => (bLf gs G x p).isSome) = (mvs gs y true).all fun p => gL gs (ge gs) x p.toNat := all_eq fun p hp => by
    rw [bLf_some]
    unfold gL
    rw [Int.toNat_natCast, any_eq (h2 p hp).1, any_eq (h2 p hp).2]; rfl
  rw [Int.toNat_natCast, Int.toNat_natCast, e1, e2]
theorem BlV.put {kvs : List TX} (h : BlV kvs) {k : List L2.Key} {b : Bool} : BlV (putK kvs k (.bl b)) := fun k' v e => by
  rw [valV_put] at e
  split at e
  · exact ⟨b, (Option.some.inj e).symm⟩
  · exact h k' v e
theorem BlV.nil : BlV [] := fun k v e => by simp [valV] at e
def KnOk (gs : List Gm) (kvs : List (List L2.Key × V)) (P : Int → Int → Prop) : Prop := ∀ x y : Nat, P x y → valV kvs [.inl (x : Int), .inl (y : Int)] = some (.bl (ge gs x y))
theorem KnOk.gk {gs : List Gm} {kvs : List (List L2.Key × V)} {P : Int → Int → Prop} (h : KnOk gs kvs P) {x y : Int} (x0 : 0 ≤ x) (y0 : 0 ≤ y) (hp : P x y) : gK kvs x y = geI gs x y := by
  have := h x.toNat y.toNat (by rw [show ((x.toNat : Nat) : Int) = x by omega, show ((y.toNat : Nat) : Int) = y by omega]; exact hp)
  rw [show ((x.toNat : Nat) : Int) = x by omega, show ((y.toNat : Nat) : Int) = y by omega] at this
  unfold gK pk
  rw [this]; rfl
theorem KnOk.put {gs : List Gm} {kvs : List (List L2.Key × V)} {P P' : Int → Int → Prop} (h : KnOk gs kvs P) {a b : Nat} (n : ∀ x y : Nat, P' x y → P x y ∨ (x = a ∧ y = b)) : KnOk gs (putK kvs [.inl (a : Int), .inl (b : Int)] (.bl (ge gs a b))) P' := fun x y hp => by
  rw [valV_put]
  split
  · rename_i e
    injection e with e1 e
    injection e with e2 _
    injection e1 with e1
    injection e2 with e2
    obtain rfl : x = a := by omega
    obtain rfl : y = b := by omega
    rfl
  · rename_i e
    rcases n x y hp with h' | ⟨rfl, rfl⟩
    · exact h x y h'
    · exact absurd rfl e
def sp_pairs_by (c : Cn) : Sp := fun vs H Q E => vs.length = 3 ∧ ∃ (b : Addr) (M : Addr → Prop) (gs : List Gm) (ds : List Int) (g h : Nat), vs = [.ref b, .int g, .int h] ∧ BookAt c H b M gs ds ∧ g < gs.length ∧ h < gs.length ∧ gs.length ≤ 40000 ∧ (g + 1) * (h + 1) ≤ 90000 ∧
  ∀ (H' : Hp) (p mv kn : Addr) (ones others : List Int) (kvs : List (List L2.Key × V)), Keep Nil H H' → H p = none → H' p = some (.tup [.ref mv, .ref kn]) → MvAt H' mv gs (fun z => (z : Int) ∈ ones ++ others) → H' kn = some (.dT kvs) → BlV kvs → KnOk gs kvs (fun x y => x ∈ ones ∧ y ∈ others) → Rch gs g ones → Rch gs h others → Q (.ref p) H'
theorem p_pairs_by {c : Cn} {mg : Str → Option Value} (T : Txt c mg) {vs : List V} {H : Hp} {Q : VK} {E : XK} (h : sp_pairs_by c vs H Q E) : t_pairs_by c { nx := fun _ H' => Q .non H', rt := Q } (start N_pairs_by vs) H := by
  obtain ⟨_, b, M, gs, ds, g, h, rfl, B, hg, hh, few, few2, k⟩ := h
  have go := B.ok
  unfold t_pairs_by
  repeat kaf_suf
  refine ⟨rfl, b, M, gs, ds, g, rfl, B, hg, few, fun H1 p1 r1 k1 hp1 e1 R1 => ?_⟩
  repeat kaf_suf
  refine ⟨rfl, b, M, gs, ds, h, rfl, B.same k1, hh, few, fun H2 p2 r2 k2 hp2 e2 R2 => ?_⟩
  have l1 := keys_bound (nodup_lt R1.up) R1.low
  have l2 := keys_bound (nodup_lt R2.up) R2.low
  have e1' := k2.get (fun z => z) e1
  have k02 := k1.trans k2
  clear k1 k2 e1 hp1 hp2
  repeat kaf_suf
  intro pc hpc
  repeat kaf_suf
  have kc : Keep Nil H2 (upd H2 pc (.lst (r1.map V.int ++ r2.map V.int))) := Keep.alloc hpc
  refine ⟨rfl, b, pc, M, gs, ds, r1 ++ r2, rfl, B.same (k02.trans kc), by rw [List.map_append]; exact upd_same, fun z hz => ?_, by rw [List.length_append]; omega, fun H3 mv k3 hmv Mv => ?_⟩
  · rcases List.mem_append.mp hz with q | q
    · have := R1.low z q; omega
    · have := R2.low z q; omega
  have k03 := k02.trans (kc.trans k3)
  have e13 := k3.get (fun z => z) (kc.get (fun z => z) e1')
  have e23 := k3.get (fun z => z) (kc.get (fun z => z) e2)
  clear k02 kc k3 e1' e2 hpc hmv
  repeat kaf_suf
  refine .inr fun kn hkn => ?_
  have kn0 : H kn = none := keep_none k03 hkn
  have k4 : Keep Nil H3 (upd H3 kn (.dT [])) := Keep.alloc hkn
  have e14 := k4.get (fun z => z) e13
  have e24 := k4.get (fun z => z) e23
  have Mv4 := Mv.same k4
  have k04 := k03.trans k4
  have ek4 : (upd H3 kn (.dT [])) kn = some (.dT []) := upd_same
  generalize upd H3 kn (.dT []) = H4 at e14 e24 Mv4 k04 ek4 ⊢
  clear k4 k03 e13 e23 Mv hkn
  have n1 : p1 ≠ kn := fun z => by rw [z, ek4] at e14; cases e14
  have n2 : p2 ≠ kn := fun z => by rw [z, ek4] at e24; cases e24
  have cl : ∀ g : Nat, (g : Int) ∈ r1 ++ r2 → ∀ s, ∀ m ∈ mvs gs g s, ((m.toNat : Nat) : Int) ∈ r1 ++ r2 := fun g hg s m hm => by
    have := mvs_low go hm
    rw [show ((m.toNat : Nat) : Int) = m by omega]
    rcases List.mem_append.mp hg with q | q
    · exact List.mem_append_left _ (R1.cl _ q s m (by rw [Int.toNat_natCast]; exact hm))
    · exact List.mem_append_right _ (R2.cl _ q s m (by rw [Int.toNat_natCast]; exact hm))
  have c1 : ∀ g : Nat, (g : Int) ∈ r1 → ∀ s, ∀ m : Nat, (m : Int) ∈ mvs gs g s → (m : Int) ∈ r1 := fun g hg s m hm => R1.cl _ hg s m (by rw [Int.toNat_natCast]; exact hm)
  have c2 : ∀ g : Nat, (g : Int) ∈ r2 → ∀ s, ∀ m : Nat, (m : Int) ∈ mvs gs g s → (m : Int) ∈ r2 := fun g hg s m hm => R2.cl _ hg s m (by rw [Int.toNat_natCast]; exact hm)
  repeat kaf_suf
  refine for_list (xs := r1.map V.int) (fun i σ H' => ∃ (x7 x8 : Option V) (kvs : List (List L2.Key × V)), σ = [some (.ref b), some (.int g), some (.int h), some (.ref p1), some (.ref p2), some (.ref mv), some (.ref kn), x7, x8] ∧ Keep Nil H H' ∧ H' p1 = some (.lst (r1.map V.int)) ∧ H' p2 = some (.lst (r2.map V.int)) ∧ MvAt H' mv gs (fun z => (z : Int) ∈ r1 ++ r2) ∧ H' kn = some (.dT kvs) ∧ kvs.length ≤ i * r2.length ∧ BlV kvs ∧ KnOk gs kvs fun x y => x ∈ r1.take i ∧ y ∈ r2) ⟨_, _, [], rfl, k04, e14, e24, Mv4, ek4, by simp, BlV.nil, fun x y hp => by simp at hp⟩ ?_ ?_ ?_
  · rintro i σ H' _ ⟨_, _, _, _, _, h, _⟩; exact SqL.of h
  · rintro i xx σ H5 hi ⟨x7, x8, kvs, rfl, k5, f1, f2, Mv5, fk, kl, bl5, ok⟩
    rw [List.getElem?_map] at hi
    obtain ⟨xv, hx, rfl⟩ := Option.map_eq_some_iff.mp hi
    have xm := List.mem_of_getElem? hx
    have il := (List.getElem?_eq_some_iff.mp hx).1
    obtain ⟨xn, rfl⟩ := Int.eq_ofNat_of_zero_le (R1.low xv xm).1
    repeat kaf_suf
    refine for_list (xs := r2.map V.int) (fun j σ H' => ∃ (x8 : Option V) (kvs : List (List L2.Key × V)), σ = [some (.ref b), some (.int g), some (.int h), some (.ref p1), some (.ref p2), some (.ref mv), some (.ref kn), some (.int xn), x8] ∧ Keep Nil H H' ∧ H' p1 = some (.lst (r1.map V.int)) ∧ H' p2 = some (.lst (r2.map V.int)) ∧ MvAt H' mv gs (fun z => (z : Int) ∈ r1 ++ r2) ∧ H' kn = some (.dT kvs) ∧ kvs.length ≤ i * r2.length + j ∧ BlV kvs ∧ KnOk gs kvs fun x y => (x ∈ r1.take i ∧ y ∈ r2) ∨ (x = xn ∧ y ∈ r2.take j)) ⟨_, kvs, rfl, k5, f1, f2, Mv5, fk, kl, bl5, fun x y hp => ok x y (hp.elim (fun z => z) fun z => by simp at z)⟩ ?_ ?_ ?_
    · rintro j σ H' _ ⟨_, _, _, _, _, h, _⟩; exact SqL.of h
    · rintro j yy σ H6 hj ⟨x8, kvs6, rfl, k6, g1, g2, Mv6, gk, kl6, bl6, ok6⟩
      rw [List.getElem?_map] at hj
      obtain ⟨yv, hy, rfl⟩ := Option.map_eq_some_iff.mp hj
      have ym := List.mem_of_getElem? hy
      have jl := (List.getElem?_eq_some_iff.mp hy).1
      obtain ⟨yn, rfl⟩ := Int.eq_ofNat_of_zero_le (R2.low yv ym).1
      clear k5 f1 f2 Mv5 fk kl ok
      have Ax : ((xn : Int)) ∈ r1 ++ r2 := List.mem_append_left _ xm
      have Ay : ((yn : Int)) ∈ r1 ++ r2 := List.mem_append_right _ ym
      have bl : i * r2.length + j + 1 ≤ 90000 := by
        have q1 : (i + 1) * r2.length ≤ r1.length * r2.length := Nat.mul_le_mul_right _ il
        have q2 : r1.length * r2.length ≤ (g + 1) * (h + 1) := Nat.mul_le_mul l1 l2
        rw [Nat.succ_mul] at q1
        omega
      have ee : phF gs (gK kvs6) xn yn = ge gs xn yn := phF_ge go (fun r hr => ?_) fun q hq => ?_
      rotate_left
      · have a1 := mvs_low go hr
        obtain ⟨rn, rfl⟩ := Int.eq_ofNat_of_zero_le a1.1
        refine ⟨fun l hl => ?_, fun q hq => ?_⟩
        · have a2 := mvs_low go hl
          obtain ⟨ln, rfl⟩ := Int.eq_ofNat_of_zero_le a2.1
          exact ok6.gk (by omega) (by omega) (.inl ⟨take_lt R1.up hx (c1 rn (c1 xn xm _ rn hr) _ ln hl) (by omega), ym⟩)
        · have a2 := mvs_low go hq
          obtain ⟨qn, rfl⟩ := Int.eq_ofNat_of_zero_le a2.1
          exact ok6.gk (by omega) (by omega) (.inl ⟨take_lt R1.up hx (c1 xn xm _ rn hr) (by omega), c2 yn ym _ qn hq⟩)
      · have a1 := mvs_low go hq
        obtain ⟨pn, rfl⟩ := Int.eq_ofNat_of_zero_le a1.1
        refine ⟨fun l hl => ?_, fun m hm => ?_⟩
        · have a2 := mvs_low go hl
          obtain ⟨ln, rfl⟩ := Int.eq_ofNat_of_zero_le a2.1
          exact ok6.gk (by omega) (by omega) (.inl ⟨take_lt R1.up hx (c1 xn xm _ ln hl) (by omega), c2 yn ym _ pn hq⟩)
        · have a2 := mvs_low go hm
          obtain ⟨mn, rfl⟩ := Int.eq_ofNat_of_zero_le a2.1
          exact ok6.gk (by omega) (by omega) (.inr ⟨rfl, take_lt R2.up hy (c2 pn (c2 yn ym _ pn hq) _ mn hm) (by omega)⟩)
      repeat kaf_suf
      refine ⟨rfl, mv, kn, gs, _, kvs6, xn, yn, rfl, Mv6, cl xn Ax, cl yn Ay, Ax, Ay, go, .inl gk, bl6, fun H7 k7 => ?_⟩
      rw [ee]
      have k67 := k6.trans k7
      have g17 := k7.get (fun z => z) g1
      have g27 := k7.get (fun z => z) g2
      have gk7 := k7.get (fun z => z) gk
      have Mv7 := Mv6.same k7
      repeat kaf_suf
      intro q hq
      repeat kaf_suf
      have kq : Keep Nil H7 (upd H7 q (.tup [.int xn, .int yn])) := Keep.alloc hq
      refine v_setKn (kq.get (fun z => z) gk7) upd_same (few1 (by omega)) ?_
      have gkq := kq.get (fun z => z) gk7
      repeat kaf_suf
      refine ⟨_, _, rfl, (k67.trans kq).setN kn0, get_set n1 (kq.get (fun z => z) g17), get_set n2 (kq.get (fun z => z) g27), (Mv7.same kq).keep (N := fun x => x = kn) (Keep.refl.set rfl) fun x e => ?_, upd_same, ?_, bl6.put, ok6.put fun x y hp => ?_⟩
      · subst e
        exact ⟨(fun l z => by rw [gkq] at z; cases z), (fun l z => by rw [gkq] at z; cases z), (fun l z => by rw [gkq] at z; cases z)⟩
      · have := putK_len1 (kvs := kvs6) (k := [Sum.inl (xn : Int), Sum.inl (yn : Int)]) (v := V.bl (ge gs xn yn)); omega
      · rcases hp with hp | ⟨e, hp⟩
        · exact .inl (.inl hp)
        · rw [List.take_succ, hy] at hp
          rcases List.mem_append.mp hp with w | w
          · exact .inl (.inr ⟨e, w⟩)
          · have := List.mem_singleton.mp w
            exact .inr ⟨by omega, by omega⟩
    · rintro σ H6 ⟨x8, kvs, rfl, k6, f1, f2, Mv6, fk, kl, bl6, ok⟩
      rw [List.length_map] at kl ok
      rw [List.take_length] at ok
      repeat kaf_suf
      refine ⟨_, _, kvs, rfl, k6, f1, f2, Mv6, fk, by rw [Nat.succ_mul]; exact kl, bl6, fun x y hp => ok x y ?_⟩
      rw [List.take_succ, hx] at hp
      rcases List.mem_append.mp hp.1 with q | q
      · exact .inl ⟨q, hp.2⟩
      · exact .inr ⟨List.mem_singleton.mp q, hp.2⟩
  · rintro σ H5 ⟨x7, x8, kvs, rfl, k5, f1, f2, Mv5, fk, kl, bl5, ok⟩
    rw [List.length_map, List.take_length] at ok
    repeat kaf_suf
    intro p hp
    have kp : Keep Nil H5 (upd H5 p (.tup [.ref mv, .ref kn])) := Keep.alloc hp
    exact k _ p mv kn r1 r2 kvs (k5.trans kp) (keep_none k5 hp) upd_same (Mv5.same kp) (kp.get (fun z => z) fk) bl5 ok R1 R2
theorem cal_pairs_by {c : Cn} {mg : Str → Option Value} {base : Heap} (T : Txt c mg) : Cal c.P c.w c.K mg base CX0 4 "pairs_by" (sp_pairs_by c) := by
  obtain ⟨f, fd, F, g, b⟩ := T.F_pairs_by
  exact ⟨f, fd, ["book", "g", "h"], F.ok (k := 3) (N := N_pairs_by) sc_pairs_by (fun vs H Q E h => h.1) (fun cdv A outer s H vs Q E hr h => ⟨t_pairs_by c, by
  exact (pss_cons (ps_set (i := 3) sc_pairs_by.nd rfl (Or.inl rfl) (e_call (cal_reached T) hr (by decide) pass0 rfl (pa_cons (pv 0) (pa_cons (pv 1) pa_nil))))
  (pss_cons (ps_set (i := 4) sc_pairs_by.nd rfl (Or.inl rfl) (e_call (cal_reached T) hr (by decide) pass0 rfl (pa_cons (pv 0) (pa_cons (pv 2) pa_nil))))
  (pss_cons (ps_set (i := 5) sc_pairs_by.nd rfl (Or.inl rfl) (e_call (cal_moves_by T) hr (by decide) pass0 rfl (pa_cons (pv 0) (pa_cons (pe_op o_add (pv 3) (pv 4)) pa_nil))))
  (pss_cons (ps_set (i := 6) sc_pairs_by.nd rfl (Or.inl rfl) pe_dnew)
  (pss_cons (ps_for PassesOwn.never rfl (pi_any (pv 3)) (pg_name (i := 7) sc_pairs_by.nd rfl (Or.inl rfl))
  (pss_one (ps_for PassesOwn.never rfl (pi_any (pv 4)) (pg_name (i := 8) sc_pairs_by.nd rfl (Or.inl rfl))
  (pss_one (ps_asg (e_call (cal_pair_holds T) hr (by decide) pass0 rfl (pa_cons (pv 5) (pa_cons (pv 6) (pa_cons (pv 7) (pa_cons (pv 8) pa_nil))))) (pg_sub (pv 6) (pe_tup (pa_cons (pv 7) (pa_cons (pv 8) pa_nil))) (s_set (hu64 hr))))))))
  (pss_one (ps_ret (pe_tup (pa_cons (pv 5) (pa_cons (pv 6) pa_nil)))))))))), p_pairs_by T h⟩), g, F.kp, b⟩

abbrev N_no_less : List Str := ["book", "g", "h", "moves", "known"]
theorem sc_no_less : FnScope N_no_less ["book", "g", "h"] (defScope s_no_less) := ⟨rfl, rfl, rfl, by decide +kernel, rfl, by decide +kernel, by decide +kernel⟩
def t_no_less (c : Cn) : TS :=
  (tSeq (tAsg (tCall (sp_pairs_by c) [] E0 (tCons (tVar 0) (tCons (tVar 1) (tCons (tVar 2) tNil)))) (gSeq c.K 2 (gCons (gName 3) (gCons (gName 4) gNil))))
  (tRet (tOp (bIx c.P c.w c.K) (tVar 4) (tTup (tCons (tVar 1) (tCons (tVar 2) tNil))))))
def sp_no_less (c : Cn) : Sp := fun vs H Q E => vs.length = 3 ∧ ∃ (b : Addr) (M : Addr → Prop) (gs : List Gm) (ds : List Int) (g h : Nat), vs = [.ref b, .int g, .int h] ∧ BookAt c H b M gs ds ∧ g < gs.length ∧ h < gs.length ∧ gs.length ≤ 40000 ∧ (g + 1) * (h + 1) ≤ 90000 ∧
  ∀ (H' : Hp), Keep Nil H H' → Q (.bl (ge gs g h)) H'
theorem p_no_less {c : Cn} {mg : Str → Option Value} (T : Txt c mg) {vs : List V} {H : Hp} {Q : VK} {E : XK} (h : sp_no_less c vs H Q E) : t_no_less c { nx := fun _ H' => Q .non H', rt := Q } (start N_no_less vs) H := by
  obtain ⟨_, b, M, gs, ds, g, h, rfl, B, hg, hh, few, few2, k⟩ := h
  unfold t_no_less
  repeat kaf_suf
  refine ⟨rfl, b, M, gs, ds, g, h, rfl, B, hg, hh, few, few2, fun H1 p mv kn r1 r2 kvs k1 hp ep Mv ek bl ok R1 R2 => ?_⟩
  refine r_seqT ep rfl (r_gcons ?_)
  repeat kaf_suf
  refine r_gcons ?_
  repeat kaf_suf
  refine r_gnil ?_
  repeat kaf_suf
  intro q hq
  repeat kaf_suf
  exact v_ixKn (get_new hq ek) upd_same (ok g h ⟨R1.mem, R2.mem⟩) (k _ (k1.new hq))
theorem cal_no_less {c : Cn} {mg : Str → Option Value} {base : Heap} (T : Txt c mg) : Cal c.P c.w c.K mg base CX0 5 "no_less" (sp_no_less c) := by
  obtain ⟨f, fd, F, g, b⟩ := T.F_no_less
  exact ⟨f, fd, ["book", "g", "h"], F.ok (k := 4) (N := N_no_less) sc_no_less (fun vs H Q E h => h.1) (fun cdv A outer s H vs Q E hr h => ⟨t_no_less c, by
  exact (pss_cons (ps_asg (e_call (cal_pairs_by T) hr (by decide) pass0 rfl (pa_cons (pv 0) (pa_cons (pv 1) (pa_cons (pv 2) pa_nil)))) (g_seq rfl (pgs_cons (pg_name (i := 3) sc_no_less.nd rfl (Or.inl rfl)) (pgs_cons (pg_name (i := 4) sc_no_less.nd rfl (Or.inl rfl)) pgs_nil))))
  (pss_one (ps_ret (pe_ix (x_ix (hu64 hr)) (pv 4) (pe_tup (pa_cons (pv 1) (pa_cons (pv 2) pa_nil))) (fun _ _ => rfl))))), p_no_less T h⟩), g, F.kp, b⟩

/-! papers: what they list -/
def hoF (gs : List Gm) (G : Int → Int → Bool) (x y : Int) : List (Option (Int × Int)) := ((mvs gs x.toNat false).map fun r => bRf gs G r y) ++ (mvs gs y.toNat true).map fun p => bLf gs G x p
def prR (gs : List Gm) (r y : Int) : List (Int × Int) := ((mvs gs r.toNat true).map fun l => (l, y)) ++ (mvs gs y.toNat false).map fun q => (r, q)
def prL (gs : List Gm) (p x : Int) : List (Int × Int) := ((mvs gs x.toNat true).map fun l => (l, p)) ++ (mvs gs p.toNat false).map fun q => (x, q)
def baF (gs : List Gm) (G : Int → Int → Bool) (x y : Int) : List (Int × Int) := match (mvs gs x.toNat false).find? fun r => (bRf gs G r y).isNone with
  | some r => prR gs r y
  | none => match (mvs gs y.toNat true).find? fun p => (bLf gs G x p).isNone with
    | some p => prL gs p x
    | none => []
theorem mvs_len {gs : List Gm} (o : GOk gs) {g : Nat} {s : Bool} : (mvs gs g s).length ≤ gs.length := by
  unfold mvs
  cases e : gs[g]? with
  | none => simp
  | some x =>
    have u := o.up x (List.mem_of_getElem? e)
    have lw := o.low g x e
    have l := (List.getElem?_eq_some_iff.mp e).1
    cases s
    · have := up_len _ 0 gs.length u.2 (fun m hm => by have := lw m (List.mem_append_right _ hm); omega) (by omega)
      show x.2.length ≤ _; omega
    · have := up_len _ 0 gs.length u.1 (fun m hm => by have := lw m (List.mem_append_left _ hm); omega) (by omega)
      show x.1.length ≤ _; omega
theorem sh_pairs (l : List (Int × Int)) : SeqAt.shaped (.list (l.map prD)) = true := by
  refine sh_pl (show plA _ = true from plA_map fun x => rfl) ?_
  have := depth_list (n := 2) (ds := l.map prD) fun d hd => by
    obtain ⟨x, _, rfl⟩ := List.mem_map.mp hd
    simp [prD, PyData.depth, PyData.depthAll]
  omega
abbrev N_pairs_right : List Str := ["moves", "r", "x", "y", "l", "q"]
theorem sc_pairs_right : FnScope N_pairs_right ["moves", "r", "x", "y"] (defScope s_pairs_right) := ⟨rfl, rfl, rfl, by decide +kernel, rfl, by decide +kernel, by decide +kernel⟩
def t_pairs_right (c : Cn) : TS :=
  (tRet (tOp (bAdd c.K) (tLc (iAny c.K (tOp (bIx c.P c.w c.K) (tOp (bIx c.P c.w c.K) (tVar 0) (tVar 1)) (tC (.int 0)))) (gName 4) tYes (tTup (tCons (tVar 4) (tCons (tVar 3) tNil))) [4]) (tLc (iAny c.K (tOp (bIx c.P c.w c.K) (tOp (bIx c.P c.w c.K) (tVar 0) (tVar 3)) (tC (.int 1)))) (gName 5) tYes (tTup (tCons (tVar 1) (tCons (tVar 5) tNil))) [5])))
def sp_pairs_right (c : Cn) : Sp := fun vs H Q E => vs.length = 4 ∧ ∃ (mv : Addr) (gs : List Gm) (A : Nat → Prop) (W : Addr → Prop) (r x y : Nat), vs = [.ref mv, .int r, .int x, .int y] ∧ Al W H ∧ MvAt H mv gs A ∧ A r ∧ A y ∧ GOk gs ∧ gs.length ≤ 40000 ∧
  ∀ (H' : Hp) (v : V), Keep Nil H H' → Rp W H' v (.list ((prR gs r y).map prD)) → Q v H'
theorem p_pairs_right {c : Cn} {mg : Str → Option Value} (T : Txt c mg) {vs : List V} {H : Hp} {Q : VK} {E : XK} (h : sp_pairs_right c vs H Q E) : t_pairs_right c { nx := fun _ H' => Q .non H', rt := Q } (start N_pairs_right vs) H := by
  obtain ⟨_, mv, gs, A, W, r, x, y, rfl, al, M, Aa, Ab, go, few, k⟩ := h
  obtain ⟨kv, t1, a1, b1, e1, w1, t1', l1, _⟩ := M.list (g := r) Aa
  obtain ⟨kv2, t2, a2, b2, e2, w2, t2', _, l2⟩ := M.list (g := y) Ab
  have m1 := mvs_len go (g := r) (s := true)
  have m2 := mvs_len go (g := y) (s := false)
  unfold t_pairs_right
  repeat kaf_suf
  refine v_ixMv e1 w1 ?_
  repeat kaf_suf
  refine lcT W PyData.int (mvs gs r true) (fun _ => true) (fun l => prD (l, (y : Int))) al (few1 (by omega)) (fun D hD => yv_ints l1 fun z => z) ?_ ?_
  · intro D i v d H1 R N hD hd k1 al1 rx hR hN
    cases rx.int_
    repeat kaf_suf
    refine ⟨rfl, ?_⟩
    repeat kaf_suf
    intro p hp
    exact hR _ _ (Keep.alloc hp) (prT_rp upd_same (al1 _ hp)) rfl
  intro D1 H1 hD1 k1 r1
  have e2' := k1.get (fun z => z) e2
  have t2'' := k1.get (fun z => z) t2'
  have l2' := k1.get (fun z => z) l2
  repeat kaf_suf
  refine v_ixMv e2' w2 ?_
  repeat kaf_suf
  refine lcT W PyData.int (mvs gs y false) (fun _ => true) (fun q => prD ((r : Int), q)) (al.same k1) (few1 (by omega)) (fun D hD => yv_ints l2' fun z => z) ?_ ?_
  · intro D i v d H2 R N hD hd k2 al2 rx hR hN
    cases rx.int_
    repeat kaf_suf
    refine ⟨rfl, ?_⟩
    repeat kaf_suf
    intro p hp
    exact hR _ _ (Keep.alloc hp) (prT_rp upd_same (al2 _ hp)) rfl
  intro D2 H2 hD2 k2 r2
  rw [filter_tt] at r1 r2
  refine v_addV (al.same (k1.trans k2)) (r1.same k2) r2 (by simp; omega) fun p H3 k3 r3 => ?_
  refine k _ _ ((k1.trans k2).trans k3) ?_
  unfold prR
  rw [List.map_append, List.map_map, List.map_map, Int.toNat_natCast, Int.toNat_natCast]
  exact r3
theorem cal_pairs_right {c : Cn} {mg : Str → Option Value} {base : Heap} (T : Txt c mg) : Cal c.P c.w c.K mg base CX0 1 "pairs_right" (sp_pairs_right c) := by
  obtain ⟨f, fd, F, g, b⟩ := T.F_pairs_right
  exact ⟨f, fd, ["moves", "r", "x", "y"], F.ok (k := 0) (N := N_pairs_right) sc_pairs_right (fun vs H Q E h => h.1) (fun cdv A outer s H vs Q E hr h => ⟨t_pairs_right c, by
  exact (pss_one (ps_ret (pe_op o_add (pe_lc (own := [("l", 4)]) rfl sc_pairs_right.nd (pi_any (pe_ix (x_ix (hu64 hr)) (pe_ix (x_ix (hu64 hr)) (pv 0) (pv 1) (fun _ _ => rfl)) pe_int (fun _ _ => rfl))) (blkOk_by (own := [("l", 4)]) (N := N_pairs_right) (sc := defScope s_pairs_right) (by decide +kernel)) (fun _ _ _ _ _ => (pg_name (i := 4) sc_pairs_right.nd rfl (Or.inl rfl))) (fun _ _ _ _ _ => pts_nil) (fun _ _ _ _ _ => (pe_tup (pa_cons (pv 4) (pa_cons (pv 3) pa_nil))))) (pe_lc (own := [("q", 5)]) rfl sc_pairs_right.nd (pi_any (pe_ix (x_ix (hu64 hr)) (pe_ix (x_ix (hu64 hr)) (pv 0) (pv 3) (fun _ _ => rfl)) pe_int (fun _ _ => rfl))) (blkOk_by (own := [("q", 5)]) (N := N_pairs_right) (sc := defScope s_pairs_right) (by decide +kernel)) (fun _ _ _ _ _ => (pg_name (i := 5) sc_pairs_right.nd rfl (Or.inl rfl))) (fun _ _ _ _ _ => pts_nil) (fun _ _ _ _ _ => (pe_tup (pa_cons (pv 1) (pa_cons (pv 5) pa_nil)))))))), p_pairs_right T h⟩), g, F.kp, b⟩
abbrev N_pairs_left : List Str := ["moves", "p", "x", "y", "l", "q"]
theorem sc_pairs_left : FnScope N_pairs_left ["moves", "p", "x", "y"] (defScope s_pairs_left) := ⟨rfl, rfl, rfl, by decide +kernel, rfl, by decide +kernel, by decide +kernel⟩
def t_pairs_left (c : Cn) : TS :=
  (tRet (tOp (bAdd c.K) (tLc (iAny c.K (tOp (bIx c.P c.w c.K) (tOp (bIx c.P c.w c.K) (tVar 0) (tVar 2)) (tC (.int 0)))) (gName 4) tYes (tTup (tCons (tVar 4) (tCons (tVar 1) tNil))) [4]) (tLc (iAny c.K (tOp (bIx c.P c.w c.K) (tOp (bIx c.P c.w c.K) (tVar 0) (tVar 1)) (tC (.int 1)))) (gName 5) tYes (tTup (tCons (tVar 2) (tCons (tVar 5) tNil))) [5])))
def sp_pairs_left (c : Cn) : Sp := fun vs H Q E => vs.length = 4 ∧ ∃ (mv : Addr) (gs : List Gm) (A : Nat → Prop) (W : Addr → Prop) (p x y : Nat), vs = [.ref mv, .int p, .int x, .int y] ∧ Al W H ∧ MvAt H mv gs A ∧ A p ∧ A x ∧ GOk gs ∧ gs.length ≤ 40000 ∧
  ∀ (H' : Hp) (v : V), Keep Nil H H' → Rp W H' v (.list ((prL gs p x).map prD)) → Q v H'
theorem p_pairs_left {c : Cn} {mg : Str → Option Value} (T : Txt c mg) {vs : List V} {H : Hp} {Q : VK} {E : XK} (h : sp_pairs_left c vs H Q E) : t_pairs_left c { nx := fun _ H' => Q .non H', rt := Q } (start N_pairs_left vs) H := by
  obtain ⟨_, mv, gs, A, W, p, x, y, rfl, al, M, Aa, Ab, go, few, k⟩ := h
  obtain ⟨kv, t1, a1, b1, e1, w1, t1', l1, _⟩ := M.list (g := x) Ab
  obtain ⟨kv2, t2, a2, b2, e2, w2, t2', _, l2⟩ := M.list (g := p) Aa
  have m1 := mvs_len go (g := x) (s := true)
  have m2 := mvs_len go (g := p) (s := false)
  unfold t_pairs_left
  repeat kaf_suf
  refine v_ixMv e1 w1 ?_
  repeat kaf_suf
  refine lcT W PyData.int (mvs gs x true) (fun _ => true) (fun l => prD (l, (p : Int))) al (few1 (by omega)) (fun D hD => yv_ints l1 fun z => z) ?_ ?_
  · intro D i v d H1 R N hD hd k1 al1 rx hR hN
    cases rx.int_
    repeat kaf_suf
    refine ⟨rfl, ?_⟩
    repeat kaf_suf
    intro p hp
    exact hR _ _ (Keep.alloc hp) (prT_rp upd_same (al1 _ hp)) rfl
  intro D1 H1 hD1 k1 r1
  have e2' := k1.get (fun z => z) e2
  have t2'' := k1.get (fun z => z) t2'
  have l2' := k1.get (fun z => z) l2
  repeat kaf_suf
  refine v_ixMv e2' w2 ?_
  repeat kaf_suf
  refine lcT W PyData.int (mvs gs p false) (fun _ => true) (fun q => prD ((x : Int), q)) (al.same k1) (few1 (by omega)) (fun D hD => yv_ints l2' fun z => z) ?_ ?_
  · intro D i v d H2 R N hD hd k2 al2 rx hR hN
    cases rx.int_
    repeat kaf_suf
    refine ⟨rfl, ?_⟩
    repeat kaf_suf
    intro p hp
    exact hR _ _ (Keep.alloc hp) (prT_rp upd_same (al2 _ hp)) rfl
  intro D2 H2 hD2 k2 r2
  rw [filter_tt] at r1 r2
  refine v_addV (al.same (k1.trans k2)) (r1.same k2) r2 (by simp; omega) fun p H3 k3 r3 => ?_
  refine k _ _ ((k1.trans k2).trans k3) ?_
  unfold prL
  rw [List.map_append, List.map_map, List.map_map, Int.toNat_natCast, Int.toNat_natCast]
  exact r3
theorem cal_pairs_left {c : Cn} {mg : Str → Option Value} {base : Heap} (T : Txt c mg) : Cal c.P c.w c.K mg base CX0 1 "pairs_left" (sp_pairs_left c) := by
  obtain ⟨f, fd, F, g, b⟩ := T.F_pairs_left
  exact ⟨f, fd, ["moves", "p", "x", "y"], F.ok (k := 0) (N := N_pairs_left) sc_pairs_left (fun vs H Q E h => h.1) (fun cdv A outer s H vs Q E hr h => ⟨t_pairs_left c, by
  exact (pss_one (ps_ret (pe_op o_add (pe_lc (own := [("l", 4)]) rfl sc_pairs_left.nd (pi_any (pe_ix (x_ix (hu64 hr)) (pe_ix (x_ix (hu64 hr)) (pv 0) (pv 2) (fun _ _ => rfl)) pe_int (fun _ _ => rfl))) (blkOk_by (own := [("l", 4)]) (N := N_pairs_left) (sc := defScope s_pairs_left) (by decide +kernel)) (fun _ _ _ _ _ => (pg_name (i := 4) sc_pairs_left.nd rfl (Or.inl rfl))) (fun _ _ _ _ _ => pts_nil) (fun _ _ _ _ _ => (pe_tup (pa_cons (pv 4) (pa_cons (pv 1) pa_nil))))) (pe_lc (own := [("q", 5)]) rfl sc_pairs_left.nd (pi_any (pe_ix (x_ix (hu64 hr)) (pe_ix (x_ix (hu64 hr)) (pv 0) (pv 1) (fun _ _ => rfl)) pe_int (fun _ _ => rfl))) (blkOk_by (own := [("q", 5)]) (N := N_pairs_left) (sc := defScope s_pairs_left) (by decide +kernel)) (fun _ _ _ _ _ => (pg_name (i := 5) sc_pairs_left.nd rfl (Or.inl rfl))) (fun _ _ _ _ _ => pts_nil) (fun _ _ _ _ _ => (pe_tup (pa_cons (pv 2) (pa_cons (pv 5) pa_nil)))))))), p_pairs_left T h⟩), g, F.kp, b⟩
abbrev N_holding : List Str := ["moves", "known", "x", "y", "found", "r", "p"]
theorem sc_holding : FnScope N_holding ["moves", "known", "x", "y"] (defScope s_holding) := ⟨rfl, rfl, rfl, by decide +kernel, rfl, by decide +kernel, by decide +kernel⟩
def t_holding (c : Cn) : TS :=
  (tSeq (tAsg (tLc (iAny c.K (tOp (bIx c.P c.w c.K) (tOp (bIx c.P c.w c.K) (tVar 0) (tVar 2)) (tC (.int 1)))) (gName 5) tYes (tCall (sp_behind_right c) [] E0 (tCons (tVar 0) (tCons (tVar 1) (tCons (tVar 5) (tCons (tVar 3) tNil))))) [5]) (gName 4))
  (tRet (tOp (bAdd c.K) (tVar 4) (tLc (iAny c.K (tOp (bIx c.P c.w c.K) (tOp (bIx c.P c.w c.K) (tVar 0) (tVar 3)) (tC (.int 0)))) (gName 6) tYes (tCall (sp_behind_left c) [] E0 (tCons (tVar 0) (tCons (tVar 1) (tCons (tVar 2) (tCons (tVar 6) tNil))))) [6]))))
def sp_holding (c : Cn) : Sp := fun vs H Q E => vs.length = 4 ∧ ∃ (mv kn : Addr) (gs : List Gm) (A : Nat → Prop) (kvs : List TX) (W : Addr → Prop) (x y : Nat), vs = [.ref mv, .ref kn, .int x, .int y] ∧ Al W H ∧ MvAt H mv gs A ∧ (∀ g, A g → ∀ s, ∀ m ∈ mvs gs g s, A m.toNat) ∧ A x ∧ A y ∧ GOk gs ∧ gs.length ≤ 40000 ∧ Rd H kn (.dT kvs) ∧ BlV kvs ∧
  ∀ (H' : Hp) (v : V), Keep Nil H H' → Rp W H' v (.list ((hoF gs (gK kvs) x y).map optD)) → Q v H'
theorem p_holding {c : Cn} {mg : Str → Option Value} (T : Txt c mg) {vs : List V} {H : Hp} {Q : VK} {E : XK} (h : sp_holding c vs H Q E) : t_holding c { nx := fun _ H' => Q .non H', rt := Q } (start N_holding vs) H := by
  obtain ⟨_, mv, kn, gs, A, kvs, W, x, y, rfl, al, M, cl, Ax, Ay, go, few, ek, bl, k⟩ := h
  obtain ⟨kv, t1, a1, b1, e1, w1, t1', _, l1⟩ := M.list Ax
  obtain ⟨kv2, t2, a2, b2, e2, w2, t2', l2, _⟩ := M.list Ay
  have rk : ∀ {H'}, Keep Nil H H' → Rd H' kn (.dT kvs) := fun kk => ek.imp (fun z => kk.get (fun z => z) z) fun ⟨o, z⟩ => ⟨o, kk.get (fun z => z) z⟩
  have m1 := mvs_len go (g := x) (s := false)
  have m2 := mvs_len go (g := y) (s := true)
  unfold t_holding
  repeat kaf_suf
  refine v_ixMv e1 w1 ?_
  repeat kaf_suf
  refine lcT W PyData.int (mvs gs x false) (fun _ => true) (fun r => optD (bRf gs (gK kvs) r y)) al (few1 (by omega)) (fun D hD => yv_ints l1 fun z => z) ?_ ?_
  · intro D i v d H1 R N hD hd k1 al1 rx hR hN
    cases rx.int_
    have dm := List.mem_of_getElem? hd
    obtain ⟨m0, _⟩ := mvs_low go dm
    obtain ⟨n, rfl⟩ := Int.eq_ofNat_of_zero_le m0
    repeat kaf_suf
    refine ⟨rfl, ?_⟩
    repeat kaf_suf
    exact ⟨rfl, mv, kn, gs, A, kvs, _, n, y, rfl, al1, M.same k1, cl _ Ax _ _ dm, Ay, rk k1, bl, fun H2 v k2 rv => hR _ _ k2 rv rfl⟩
  intro D1 H1 hD1 k1 r1
  have e2' := k1.get (fun z => z) e2
  have t2'' := k1.get (fun z => z) t2'
  have l2' := k1.get (fun z => z) l2
  repeat kaf_suf
  refine v_ixMv e2' w2 ?_
  repeat kaf_suf
  refine lcT W PyData.int (mvs gs y true) (fun _ => true) (fun p => optD (bLf gs (gK kvs) x p)) (al.same k1) (few1 (by omega)) (fun D hD => yv_ints l2' fun z => z) ?_ ?_
  · intro D i v d H2 R N hD hd k2 al2 rx hR hN
    cases rx.int_
    have dm := List.mem_of_getElem? hd
    obtain ⟨m0, _⟩ := mvs_low go dm
    obtain ⟨n, rfl⟩ := Int.eq_ofNat_of_zero_le m0
    repeat kaf_suf
    refine ⟨rfl, ?_⟩
    repeat kaf_suf
    exact ⟨rfl, mv, kn, gs, A, kvs, _, x, n, rfl, al2, M.same (k1.trans k2), Ax, cl _ Ay _ _ dm, rk (k1.trans k2), bl, fun H3 v k3 rv => hR _ _ k3 rv rfl⟩
  intro D2 H2 hD2 k2 r2
  rw [filter_tt] at r1 r2
  refine v_addV (al.same (k1.trans k2)) (r1.same k2) r2 (by simp; omega) fun p H3 k3 r3 => ?_
  refine k _ _ ((k1.trans k2).trans k3) ?_
  unfold hoF
  rw [List.map_append, List.map_map, List.map_map, Int.toNat_natCast, Int.toNat_natCast]
  exact r3
theorem cal_holding {c : Cn} {mg : Str → Option Value} {base : Heap} (T : Txt c mg) : Cal c.P c.w c.K mg base CX0 2 "holding" (sp_holding c) := by
  obtain ⟨f, fd, F, g, b⟩ := T.F_holding
  exact ⟨f, fd, ["moves", "known", "x", "y"], F.ok (k := 1) (N := N_holding) sc_holding (fun vs H Q E h => h.1) (fun cdv A outer s H vs Q E hr h => ⟨t_holding c, by
  exact (pss_cons (ps_setLc (i := 4) (own := [("r", 5)]) rfl sc_holding.nd rfl rfl (sw_true rfl rfl rfl (by decide +kernel)) (pi_any (pe_ix (x_ix (hu64 hr)) (pe_ix (x_ix (hu64 hr)) (pv 0) (pv 2) (fun _ _ => rfl)) pe_int (fun _ _ => rfl))) (blkOk_by (own := [("r", 5)]) (N := N_holding) (sc := defScope s_holding) (by decide +kernel)) (fun _ _ _ _ _ => (pg_name (i := 5) sc_holding.nd rfl (Or.inl rfl))) (fun _ _ _ _ _ => pts_nil) (fun _ _ _ _ _ => (e_call (cal_behind_right T) hr (by decide) pass0 rfl (pa_cons (pv 0) (pa_cons (pv 1) (pa_cons (pv 5) (pa_cons (pv 3) pa_nil)))))))
  (pss_one (ps_ret (pe_op o_add (pv 4) (pe_lc (own := [("p", 6)]) rfl sc_holding.nd (pi_any (pe_ix (x_ix (hu64 hr)) (pe_ix (x_ix (hu64 hr)) (pv 0) (pv 3) (fun _ _ => rfl)) pe_int (fun _ _ => rfl))) (blkOk_by (own := [("p", 6)]) (N := N_holding) (sc := defScope s_holding) (by decide +kernel)) (fun _ _ _ _ _ => (pg_name (i := 6) sc_holding.nd rfl (Or.inl rfl))) (fun _ _ _ _ _ => pts_nil) (fun _ _ _ _ _ => (e_call (cal_behind_left T) hr (by decide) pass0 rfl (pa_cons (pv 0) (pa_cons (pv 1) (pa_cons (pv 2) (pa_cons (pv 6) pa_nil))))))))))), p_holding T h⟩), g, F.kp, b⟩
abbrev N_barring : List Str := ["moves", "known", "x", "y", "r", "p"]
theorem sc_barring : FnScope N_barring ["moves", "known", "x", "y"] (defScope s_barring) := ⟨rfl, rfl, rfl, by decide +kernel, rfl, by decide +kernel, by decide +kernel⟩
def t_barring (c : Cn) : TS :=
  (tSeq (tFor (iAny c.K (tOp (bIx c.P c.w c.K) (tOp (bIx c.P c.w c.K) (tVar 0) (tVar 2)) (tC (.int 1)))) (gName 4)
  (tIfS (tTest (tOp cIs (tCall (sp_behind_right c) [] E0 (tCons (tVar 0) (tCons (tVar 1) (tCons (tVar 4) (tCons (tVar 3) tNil))))) (tC .non)))
  (tRet (tCall (sp_pairs_right c) [] E0 (tCons (tVar 0) (tCons (tVar 4) (tCons (tVar 2) (tCons (tVar 3) tNil))))))
  tNext))
  (tSeq (tFor (iAny c.K (tOp (bIx c.P c.w c.K) (tOp (bIx c.P c.w c.K) (tVar 0) (tVar 3)) (tC (.int 0)))) (gName 5)
  (tIfS (tTest (tOp cIs (tCall (sp_behind_left c) [] E0 (tCons (tVar 0) (tCons (tVar 1) (tCons (tVar 2) (tCons (tVar 5) tNil))))) (tC .non)))
  (tRet (tCall (sp_pairs_left c) [] E0 (tCons (tVar 0) (tCons (tVar 5) (tCons (tVar 2) (tCons (tVar 3) tNil))))))
  tNext))
  (tRet (tLst tNil))))
def sp_barring (c : Cn) : Sp := fun vs H Q E => vs.length = 4 ∧ ∃ (mv kn : Addr) (gs : List Gm) (A : Nat → Prop) (kvs : List TX) (W : Addr → Prop) (x y : Nat), vs = [.ref mv, .ref kn, .int x, .int y] ∧ Al W H ∧ MvAt H mv gs A ∧ (∀ g, A g → ∀ s, ∀ m ∈ mvs gs g s, A m.toNat) ∧ A x ∧ A y ∧ GOk gs ∧ gs.length ≤ 40000 ∧ Rd H kn (.dT kvs) ∧ BlV kvs ∧
  ∀ (H' : Hp) (v : V), Keep Nil H H' → Rp W H' v (.list ((baF gs (gK kvs) x y).map prD)) → Q v H'
theorem p_barring {c : Cn} {mg : Str → Option Value} (T : Txt c mg) {vs : List V} {H : Hp} {Q : VK} {E : XK} (h : sp_barring c vs H Q E) : t_barring c { nx := fun _ H' => Q .non H', rt := Q } (start N_barring vs) H := by
  obtain ⟨_, mv, kn, gs, A, kvs, W, x, y, rfl, al, M, cl, Ax, Ay, go, few, ek, bl, k⟩ := h
  obtain ⟨kv, t1, a1, b1, e1, w1, t1', _, l1⟩ := M.list Ax
  obtain ⟨kv2, t2, a2, b2, e2, w2, t2', l2, _⟩ := M.list Ay
  have rk : ∀ {H'}, Keep Nil H H' → Rd H' kn (.dT kvs) := fun kk => ek.imp (fun z => kk.get (fun z => z) z) fun ⟨o, z⟩ => ⟨o, kk.get (fun z => z) z⟩
  unfold t_barring
  repeat kaf_suf
  refine v_ixMv e1 w1 ?_
  repeat kaf_suf
  refine forI (l := mvs gs x false) (fun j H' => Keep Nil H H' ∧ ∀ z ∈ (mvs gs x false).take j, (bRf gs (gK kvs) z y).isNone = false) (fun j H' h => h.1.get (fun z => z) l1) none rfl ⟨Keep.refl, fun _ h => by simp at h⟩ ?_ ?_
  · rintro j z H1 hz ⟨kk, lo⟩
    have zm := List.mem_of_getElem? hz
    obtain ⟨m0, _⟩ := mvs_low go zm
    obtain ⟨n, rfl⟩ := Int.eq_ofNat_of_zero_le m0
    have An := cl _ Ax _ _ zm
    repeat kaf_suf
    refine ⟨rfl, mv, kn, gs, A, kvs, Nil, n, y, rfl, Al.nil, M.same kk, An, Ay, rk kk, bl, fun H2 v k2 rv => ?_⟩
    cases hb : bRf gs (gK kvs) n y with
    | none =>
      rw [hb] at rv
      cases rv.none_
      have e : baF gs (gK kvs) x y = prR gs n y := by
        unfold baF
        rw [Int.toNat_natCast, find_at hz lo (by rw [hb]; rfl)]
      repeat kaf_suf
      refine ⟨rfl, mv, gs, A, W, n, x, y, rfl, al.same (kk.trans k2), M.same (kk.trans k2), An, Ay, go, few, fun H3 v k3 rv => ?_⟩
      exact k _ _ ((kk.trans k2).trans k3) (by rw [e]; exact rv)
    | some q =>
      rw [hb] at rv
      obtain ⟨t, rfl, _⟩ := prD_ rv
      repeat kaf_suf
      refine r_iteF' (fun z => by cases z) ?_
      repeat kaf_suf
      exact ⟨_, rfl, kk.trans k2, take_snoc hz lo (by rw [hb]; rfl)⟩
  intro o H1 ⟨kk, lo⟩
  rw [List.take_length] at lo
  have e2' := kk.get (fun z => z) e2
  have t2'' := kk.get (fun z => z) t2'
  have l2' := kk.get (fun z => z) l2
  repeat kaf_suf
  refine v_ixMv e2' w2 ?_
  repeat kaf_suf
  refine forI (l := mvs gs y true) (fun j H' => Keep Nil H H' ∧ ∀ z ∈ (mvs gs y true).take j, (bLf gs (gK kvs) x z).isNone = false) (fun j H' h => h.1.get (fun z => z) l2) none rfl ⟨kk, fun _ h => by simp at h⟩ ?_ ?_
  · rintro j z H2 hz ⟨kk2, lo2⟩
    have zm := List.mem_of_getElem? hz
    obtain ⟨m0, _⟩ := mvs_low go zm
    obtain ⟨n, rfl⟩ := Int.eq_ofNat_of_zero_le m0
    have An := cl _ Ay _ _ zm
    repeat kaf_suf
    refine ⟨rfl, mv, kn, gs, A, kvs, Nil, x, n, rfl, Al.nil, M.same kk2, Ax, An, rk kk2, bl, fun H3 v k3 rv => ?_⟩
    cases hb : bLf gs (gK kvs) x n with
    | none =>
      rw [hb] at rv
      cases rv.none_
      have e : baF gs (gK kvs) x y = prL gs n x := by
        unfold baF
        rw [Int.toNat_natCast, find_no lo, Int.toNat_natCast, find_at hz lo2 (by rw [hb]; rfl)]
      repeat kaf_suf
      refine ⟨rfl, mv, gs, A, W, n, x, y, rfl, al.same (kk2.trans k3), M.same (kk2.trans k3), An, Ax, go, few, fun H4 v k4 rv => ?_⟩
      exact k _ _ ((kk2.trans k3).trans k4) (by rw [e]; exact rv)
    | some q =>
      rw [hb] at rv
      obtain ⟨t, rfl, _⟩ := prD_ rv
      repeat kaf_suf
      refine r_iteF' (fun z => by cases z) ?_
      repeat kaf_suf
      exact ⟨_, rfl, kk2.trans k3, take_snoc hz lo2 (by rw [hb]; rfl)⟩
  intro o2 H2 ⟨kk2, lo2⟩
  rw [List.take_length] at lo2
  have e : baF gs (gK kvs) x y = [] := by
    unfold baF
    rw [Int.toNat_natCast, find_no lo, Int.toNat_natCast, find_no lo2]
  repeat kaf_suf
  intro p hp
  refine k _ _ (kk2.new hp) ?_
  rw [e]
  exact .lst upd_same (al _ (keep_none kk2 hp)) .nil
theorem cal_barring {c : Cn} {mg : Str → Option Value} {base : Heap} (T : Txt c mg) : Cal c.P c.w c.K mg base CX0 2 "barring" (sp_barring c) := by
  obtain ⟨f, fd, F, g, b⟩ := T.F_barring
  exact ⟨f, fd, ["moves", "known", "x", "y"], F.ok (k := 1) (N := N_barring) sc_barring (fun vs H Q E h => h.1) (fun cdv A outer s H vs Q E hr h => ⟨t_barring c, by
  exact (pss_cons (ps_for PassesOwn.never rfl (pi_any (pe_ix (x_ix (hu64 hr)) (pe_ix (x_ix (hu64 hr)) (pv 0) (pv 2) (fun _ _ => rfl)) pe_int (fun _ _ => rfl))) (pg_name (i := 4) sc_barring.nd rfl (Or.inl rfl))
  (pss_one (ps_if (pt_cmpR o_is (e_call (cal_behind_right T) hr (by decide) pass0 rfl (pa_cons (pv 0) (pa_cons (pv 1) (pa_cons (pv 4) (pa_cons (pv 3) pa_nil))))) pe_non (nomark _)) (pss_one (ps_ret (e_call (cal_pairs_right T) hr (by decide) pass0 rfl (pa_cons (pv 0) (pa_cons (pv 4) (pa_cons (pv 2) (pa_cons (pv 3) pa_nil))))))) pss_nil)))
  (pss_cons (ps_for PassesOwn.never rfl (pi_any (pe_ix (x_ix (hu64 hr)) (pe_ix (x_ix (hu64 hr)) (pv 0) (pv 3) (fun _ _ => rfl)) pe_int (fun _ _ => rfl))) (pg_name (i := 5) sc_barring.nd rfl (Or.inl rfl))
  (pss_one (ps_if (pt_cmpR o_is (e_call (cal_behind_left T) hr (by decide) pass0 rfl (pa_cons (pv 0) (pa_cons (pv 1) (pa_cons (pv 2) (pa_cons (pv 5) pa_nil))))) pe_non (nomark _)) (pss_one (ps_ret (e_call (cal_pairs_left T) hr (by decide) pass0 rfl (pa_cons (pv 0) (pa_cons (pv 5) (pa_cons (pv 2) (pa_cons (pv 3) pa_nil))))))) pss_nil)))
  (pss_one (ps_ret (pe_lst pa_nil))))), p_barring T h⟩), g, F.kp, b⟩

/-! the paper -/
theorem find_eq {α : Type} {f g : α → Bool} : ∀ {l : List α}, (∀ m ∈ l, f m = g m) → l.find? f = l.find? g
  | [], _ => rfl
  | x :: r, h => by
    rw [List.find?_cons, List.find?_cons, h x List.mem_cons_self, find_eq fun m hm => h m (List.mem_cons_of_mem _ hm)]
/-- G and G' tell the same of all pairs that are asked of at (x, y) -/
structure Ag (gs : List Gm) (G G' : Int → Int → Bool) (x y : Int) : Prop where
  a1 : ∀ r ∈ mvs gs x.toNat false, ∀ l ∈ mvs gs r.toNat true, G l y = G' l y
  a2 : ∀ r ∈ mvs gs x.toNat false, ∀ q ∈ mvs gs y.toNat false, G r q = G' r q
  a3 : ∀ p ∈ mvs gs y.toNat true, ∀ l ∈ mvs gs x.toNat true, G l p = G' l p
  a4 : ∀ p ∈ mvs gs y.toNat true, ∀ q ∈ mvs gs p.toNat false, G x q = G' x q
section
variable {gs : List Gm} {G G' : Int → Int → Bool} {x y : Int}
theorem Ag.r (a : Ag gs G G' x y) {r : Int} (h : r ∈ mvs gs x.toNat false) : bRf gs G r y = bRf gs G' r y := by
  unfold bRf
  rw [find_eq (a.a1 r h), find_eq (a.a2 r h)]
theorem Ag.l (a : Ag gs G G' x y) {p : Int} (h : p ∈ mvs gs y.toNat true) : bLf gs G x p = bLf gs G' x p := by
  unfold bLf
  rw [find_eq (a.a3 p h), find_eq (a.a4 p h)]
theorem Ag.ho (a : Ag gs G G' x y) : hoF gs G x y = hoF gs G' x y := by
  unfold hoF
  rw [List.map_congr_left fun r h => a.r h, List.map_congr_left fun p h => a.l h]
theorem Ag.ba (a : Ag gs G G' x y) : baF gs G x y = baF gs G' x y := by
  unfold baF
  rw [find_eq fun r h => by rw [a.r h], find_eq (l := mvs gs y.toNat true) fun p h => by rw [a.l h]]
theorem Ag.ph (a : Ag gs G G' x y) : phF gs G x y = phF gs G' x y := by
  unfold phF
  rw [all_eq fun r h => by rw [a.r h], all_eq (l := mvs gs y.toNat true) fun p h => by rw [a.l h]]
theorem bRf_is {r : Int} {q : Int × Int} (h : bRf gs G r y = some q) : G q.1 q.2 = true ∧ ((q.1 ∈ mvs gs r.toNat true ∧ q.2 = y) ∨ (q.1 = r ∧ q.2 ∈ mvs gs y.toNat false)) := by
  unfold bRf at h
  cases e : (mvs gs r.toNat true).find? fun l => G l y with
  | some l =>
    rw [e] at h
    cases (show some (l, y) = some q from h)
    exact ⟨List.find?_some (p := fun l => G l y) e, .inl ⟨List.mem_of_find?_eq_some e, rfl⟩⟩
  | none =>
    rw [e] at h
    cases e2 : (mvs gs y.toNat false).find? fun q => G r q with
    | some l =>
      rw [e2] at h
      cases (show some (r, l) = some q from h)
      exact ⟨List.find?_some (p := fun q => G r q) e2, .inr ⟨rfl, List.mem_of_find?_eq_some e2⟩⟩
    | none => rw [e2] at h; cases h
theorem bLf_is {p : Int} {q : Int × Int} (h : bLf gs G x p = some q) : G q.1 q.2 = true ∧ ((q.1 ∈ mvs gs x.toNat true ∧ q.2 = p) ∨ (q.1 = x ∧ q.2 ∈ mvs gs p.toNat false)) := by
  unfold bLf at h
  cases e : (mvs gs x.toNat true).find? fun l => G l p with
  | some l =>
    rw [e] at h
    cases (show some (l, p) = some q from h)
    exact ⟨List.find?_some (p := fun l => G l p) e, .inl ⟨List.mem_of_find?_eq_some e, rfl⟩⟩
  | none =>
    rw [e] at h
    cases e2 : (mvs gs p.toNat false).find? fun q => G x q with
    | some l =>
      rw [e2] at h
      cases (show some (x, l) = some q from h)
      exact ⟨List.find?_some (p := fun q => G x q) e2, .inr ⟨rfl, List.mem_of_find?_eq_some e2⟩⟩
    | none => rw [e2] at h; cases h
theorem prR_is {r : Int} {q : Int × Int} : q ∈ prR gs r y ↔ (q.1 ∈ mvs gs r.toNat true ∧ q.2 = y) ∨ (q.1 = r ∧ q.2 ∈ mvs gs y.toNat false) := by
  unfold prR
  rw [List.mem_append, List.mem_map, List.mem_map]
  constructor
  · rintro (⟨l, h, rfl⟩ | ⟨l, h, rfl⟩)
    · exact .inl ⟨h, rfl⟩
    · exact .inr ⟨rfl, h⟩
  · rintro (⟨h, e⟩ | ⟨e, h⟩)
    · exact .inl ⟨q.1, h, by rw [← e]⟩
    · exact .inr ⟨q.2, h, by rw [← e]⟩
theorem prL_is {p : Int} {q : Int × Int} : q ∈ prL gs p x ↔ (q.1 ∈ mvs gs x.toNat true ∧ q.2 = p) ∨ (q.1 = x ∧ q.2 ∈ mvs gs p.toNat false) := by
  unfold prL
  rw [List.mem_append, List.mem_map, List.mem_map]
  constructor
  · rintro (⟨l, h, rfl⟩ | ⟨l, h, rfl⟩)
    · exact .inl ⟨h, rfl⟩
    · exact .inr ⟨rfl, h⟩
  · rintro (⟨h, e⟩ | ⟨e, h⟩)
    · exact .inl ⟨q.1, h, by rw [← e]⟩
    · exact .inr ⟨q.2, h, by rw [← e]⟩
theorem bRf_no {r : Int} (h : (bRf gs G r y).isNone = true) {q : Int × Int} (hq : q ∈ prR gs r y) : G q.1 q.2 = false := by
  have h' : (bRf gs G r y).isSome = false := by rw [Option.isSome_eq_false_iff]; exact h
  rw [bRf_some, Bool.or_eq_false_iff] at h'
  rcases prR_is.mp hq with ⟨m, e⟩ | ⟨e, m⟩
  · have := List.any_eq_false.mp h'.1 _ m
    rw [e]; simpa using this
  · have := List.any_eq_false.mp h'.2 _ m
    rw [e]; simpa using this
theorem bLf_no {p : Int} (h : (bLf gs G x p).isNone = true) {q : Int × Int} (hq : q ∈ prL gs p x) : G q.1 q.2 = false := by
  have h' : (bLf gs G x p).isSome = false := by rw [Option.isSome_eq_false_iff]; exact h
  rw [bLf_some, Bool.or_eq_false_iff] at h'
  rcases prL_is.mp hq with ⟨m, e⟩ | ⟨e, m⟩
  · have := List.any_eq_false.mp h'.1 _ m
    rw [e]; simpa using this
  · have := List.any_eq_false.mp h'.2 _ m
    rw [e]; simpa using this
theorem baF_is {q : Int × Int} (hq : q ∈ baF gs G x y) : (∃ r ∈ mvs gs x.toNat false, (bRf gs G r y).isNone = true ∧ baF gs G x y = prR gs r y) ∨ ∃ p ∈ mvs gs y.toNat true, (bLf gs G x p).isNone = true ∧ baF gs G x y = prL gs p x := by
  unfold baF at hq ⊢
  cases e : (mvs gs x.toNat false).find? fun r => (bRf gs G r y).isNone with
  | some r => exact .inl ⟨r, List.mem_of_find?_eq_some e, List.find?_some (p := fun r => (bRf gs G r y).isNone) e, rfl⟩
  | none =>
    rw [e] at hq
    cases e2 : (mvs gs y.toNat true).find? fun p => (bLf gs G x p).isNone with
    | some p => exact .inr ⟨p, List.mem_of_find?_eq_some e2, List.find?_some (p := fun p => (bLf gs G x p).isNone) e2, rfl⟩
    | none => rw [e2] at hq; simp at hq
/-- where a pair doesn't hold there is a move by which it is barred -/
theorem baF_bar (h : phF gs G x y = false) : (∃ r ∈ mvs gs x.toNat false, baF gs G x y = prR gs r y) ∨ ∃ p ∈ mvs gs y.toNat true, baF gs G x y = prL gs p x := by
  unfold baF
  cases e : (mvs gs x.toNat false).find? fun r => (bRf gs G r y).isNone with
  | some r => exact .inl ⟨r, List.mem_of_find?_eq_some e, rfl⟩
  | none =>
    cases e2 : (mvs gs y.toNat true).find? fun p => (bLf gs G x p).isNone with
    | some p => exact .inr ⟨p, List.mem_of_find?_eq_some e2, rfl⟩
    | none =>
      have h1 := List.find?_eq_none.mp e
      have h2 := List.find?_eq_none.mp e2
      have : phF gs G x y = true := by
        unfold phF
        rw [Bool.and_eq_true]
        refine ⟨List.all_eq_true.mpr fun r hr => ?_, List.all_eq_true.mpr fun p hp => ?_⟩
        · have := h1 r hr
          cases q : bRf gs G r y with
          | none => rw [q] at this; simp at this
          | some _ => rfl
        · have := h2 p hp
          cases q : bLf gs G x p with
          | none => rw [q] at this; simp at this
          | some _ => rfl
      rw [this] at h; cases h
end
/-- what is put to a paper for a pair of it -/
def pwF (gs : List Gm) (w : Bool) (z : Int × Int) : List (Int × Int) := if w = true then (hoF gs (geI gs) z.1 z.2).filterMap id else baF gs (geI gs) z.1 z.2
theorem phF_I {gs : List Gm} (o : GOk gs) {x y : Int} (x0 : 0 ≤ x) (y0 : 0 ≤ y) : phF gs (geI gs) x y = geI gs x y := by
  obtain ⟨n, rfl⟩ := Int.eq_ofNat_of_zero_le x0
  obtain ⟨m, rfl⟩ := Int.eq_ofNat_of_zero_le y0
  exact phF_ge o (fun r hr => ⟨fun _ _ => rfl, fun _ _ => rfl⟩) fun p hp => ⟨fun _ _ => rfl, fun _ _ => rfl⟩
theorem hoF_mem {gs : List Gm} {G : Int → Int → Bool} {x y : Int} {q : Int × Int} : q ∈ (hoF gs G x y).filterMap id ↔ (∃ r ∈ mvs gs x.toNat false, bRf gs G r y = some q) ∨ ∃ p ∈ mvs gs y.toNat true, bLf gs G x p = some q := by
  unfold hoF
  rw [List.filterMap_append, List.mem_append, List.mem_filterMap, List.mem_filterMap]
  constructor
  · rintro (⟨o, h, e⟩ | ⟨o, h, e⟩)
    · obtain ⟨r, hr, rfl⟩ := List.mem_map.mp h
      exact .inl ⟨r, hr, e⟩
    · obtain ⟨r, hr, rfl⟩ := List.mem_map.mp h
      exact .inr ⟨r, hr, e⟩
  · rintro (⟨r, hr, e⟩ | ⟨r, hr, e⟩)
    · exact .inl ⟨_, List.mem_map.mpr ⟨r, hr, rfl⟩, e⟩
    · exact .inr ⟨_, List.mem_map.mpr ⟨r, hr, rfl⟩, e⟩
theorem hoF_all {gs : List Gm} {G : Int → Int → Bool} {x y : Int} (h : phF gs G x y = true) : ∀ o ∈ hoF gs G x y, o.isSome = true := fun o ho => by
  unfold phF at h
  rw [Bool.and_eq_true] at h
  unfold hoF at ho
  rcases List.mem_append.mp ho with q | q
  · obtain ⟨r, hr, rfl⟩ := List.mem_map.mp q
    exact List.all_eq_true.mp h.1 r hr
  · obtain ⟨r, hr, rfl⟩ := List.mem_map.mp q
    exact List.all_eq_true.mp h.2 r hr
theorem map_optD : ∀ {l : List (Option (Int × Int))}, (∀ o ∈ l, o.isSome = true) → l.map optD = (l.filterMap id).map prD
  | [], _ => rfl
  | none :: r, h => by have := h none List.mem_cons_self; cases this
  | some q :: r, h => by
    rw [List.map_cons, List.filterMap_cons, map_optD fun o ho => h o (List.mem_cons_of_mem _ ho)]; rfl
theorem pwF_ge {gs : List Gm} (o : GOk gs) {w : Bool} {z q : Int × Int} (hq : q ∈ pwF gs w z) : geI gs q.1 q.2 = w := by
  unfold pwF at hq
  cases w with
  | true =>
    rw [if_pos rfl] at hq
    rcases hoF_mem.mp hq with ⟨r, hr, e⟩ | ⟨r, hr, e⟩
    · exact (bRf_is e).1
    · exact (bLf_is e).1
  | false =>
    rw [if_neg (by decide)] at hq
    rcases baF_is hq with ⟨r, hr, n, e⟩ | ⟨r, hr, n, e⟩
    · exact bRf_no n (by rw [← e]; exact hq)
    · exact bLf_no n (by rw [← e]; exact hq)
def Cl (gs : List Gm) (S : Int → Prop) : Prop := ∀ x, S x → ∀ s, ∀ m ∈ mvs gs x.toNat s, S m
theorem pwF_cl {gs : List Gm} {S1 S2 : Int → Prop} (c1 : Cl gs S1) (c2 : Cl gs S2) {w : Bool} {z q : Int × Int} (h1 : S1 z.1) (h2 : S2 z.2) (hq : q ∈ pwF gs w z) : S1 q.1 ∧ S2 q.2 := by
  have kR : ∀ {r : Int}, r ∈ mvs gs z.1.toNat false → ((q.1 ∈ mvs gs r.toNat true ∧ q.2 = z.2) ∨ (q.1 = r ∧ q.2 ∈ mvs gs z.2.toNat false)) → S1 q.1 ∧ S2 q.2 := fun hr h => by
    have sr := c1 _ h1 _ _ hr
    rcases h with ⟨m, e⟩ | ⟨e, m⟩
    · exact ⟨c1 _ sr _ _ m, by rw [e]; exact h2⟩
    · exact ⟨by rw [e]; exact sr, c2 _ h2 _ _ m⟩
  have kL : ∀ {p : Int}, p ∈ mvs gs z.2.toNat true → ((q.1 ∈ mvs gs z.1.toNat true ∧ q.2 = p) ∨ (q.1 = z.1 ∧ q.2 ∈ mvs gs p.toNat false)) → S1 q.1 ∧ S2 q.2 := fun hp h => by
    have sp := c2 _ h2 _ _ hp
    rcases h with ⟨m, e⟩ | ⟨e, m⟩
    · exact ⟨c1 _ h1 _ _ m, by rw [e]; exact sp⟩
    · exact ⟨by rw [e]; exact h1, c2 _ sp _ _ m⟩
  unfold pwF at hq
  split at hq
  · rcases hoF_mem.mp hq with ⟨r, hr, e⟩ | ⟨r, hr, e⟩
    · exact kR hr (bRf_is e).2
    · exact kL hr (bLf_is e).2
  · rcases baF_is hq with ⟨r, hr, n, e⟩ | ⟨r, hr, n, e⟩
    · exact kR hr (prR_is.mp (by rw [← e]; exact hq))
    · exact kL hr (prL_is.mp (by rw [← e]; exact hq))
structure Pap (gs : List Gm) (g h : Nat) (ys : List (Int × Int)) : Prop where
  nd : ys.Nodup
  ris : RisP ys
  mem : ((g : Int), (h : Int)) ∈ ys
  val : ∀ z ∈ ys, geI gs z.1 z.2 = ge gs g h
  cl : ∀ z ∈ ys, ∀ q ∈ pwF gs (ge gs g h) z, q ∈ ys
  low : ∀ S : Int × Int → Prop, S (g, h) → (∀ z, S z → ∀ q ∈ pwF gs (ge gs g h) z, S q) → ∀ z ∈ ys, S z
theorem Pap.uniq {gs : List Gm} {g h : Nat} {ys zs : List (Int × Int)} (a : Pap gs g h ys) (b : Pap gs g h zs) : ys = zs := by
  have s1 : ∀ z ∈ ys, z ∈ zs := a.low (· ∈ zs) b.mem b.cl
  have s2 : ∀ z ∈ zs, z ∈ ys := b.low (· ∈ ys) a.mem a.cl
  refine risP_eq ?_ a.ris b.ris
  exact (List.perm_ext_iff_of_nodup a.nd b.nd).mpr fun z => ⟨s1 z, s2 z⟩
theorem keysT {kvs : List TX} {ks : List (Int × Int)} (e : kvs.map (·.1) = ks.map pk) (z : Int × Int) : (valV kvs (pk z)).isSome = decide (z ∈ ks) := by
  rw [← valV_any]
  have : (kvs.any fun kv => decide (kv.1 = pk z)) = (kvs.map (·.1)).any fun k => decide (k = pk z) := by rw [List.any_map]; rfl
  rw [this, e, List.any_map]
  by_cases h : z ∈ ks
  · rw [decide_eq_true h]
    exact List.any_eq_true.mpr ⟨z, h, by simp⟩
  · rw [decide_eq_false h]
    exact List.any_eq_false.mpr fun y hy => by
      simp only [Function.comp, decide_eq_true_eq]
      intro q; exact h (pk_inj q ▸ hy)
theorem putT_new {kvs : List TX} {k : List L2.Key} {v : V} (h : valV kvs k = none) : putK kvs k v = kvs ++ [(k, v)] := by
  have n : (kvs.any fun kv => decide (kv.1 = k)) = false := by rw [valV_any, h]; rfl
  unfold putK
  rw [if_neg (by rw [n]; simp)]
theorem keysT_put {kvs : List TX} {ks : List (Int × Int)} (e : kvs.map (·.1) = ks.map pk) {z : Int × Int} {v : V} (h : z ∉ ks) : (putK kvs (pk z) v).map (·.1) = (ks ++ [z]).map pk := by
  have hn : valV kvs (pk z) = none := by
    have := keysT e z
    rw [decide_eq_false h] at this
    cases q : valV kvs (pk z) with
    | none => rfl
    | some v => rw [q] at this; cases this
  rw [putT_new hn, List.map_append, List.map_append, e]; rfl
theorem v_ninT {P : Program} {w : World} {K : PySem.W.Frag} {H : Hp} {Q : VK} {d t : Addr} {kvs : List TX} {ks : List (Int × Int)} {z : Int × Int} (e : Rd H d (.dT kvs)) (ke : kvs.map (·.1) = ks.map pk) (ht : PrT H t z) (q : Q (.bl (!decide (z ∈ ks))) H) : cNotIn P w K (.ref t) (.ref d) H Q :=
  .inr (.inr (.inr (.inl ⟨d, _, rfl, .inr ⟨kvs, pk z, t, e, rfl, ht, rfl⟩, by rw [keysT ke]; simpa using q⟩)))
theorem v_setT {P : Program} {w : World} {H : Hp} {Q : Hp → Prop} {d t : Addr} {kvs : List TX} {z : Int × Int} {v : V} (e : H d = some (.dT kvs)) (ht : PrT H t z) (l : kvs.length < sizeLine) (q : Q (upd H d (.dT (putK kvs (pk z) v)))) : bSet P w (.ref d) (.ref t) v H Q :=
  .inr (.inl ⟨d, _, rfl, DPut.t (k := pk z) e ht l, q⟩)
theorem prod_len {α : Type} [DecidableEq α] {ks : List (α × α)} {a b : List α} (nd : ks.Nodup) (h : ∀ z ∈ ks, z.1 ∈ a ∧ z.2 ∈ b) : ks.length ≤ a.length * b.length := by
  have := nodup_le ks (a.flatMap fun x => b.map fun y => (x, y)) nd fun z hz => by
    obtain ⟨h1, h2⟩ := h z hz
    exact List.mem_flatMap.mpr ⟨z.1, h1, List.mem_map.mpr ⟨z.2, h2, rfl⟩⟩
  have e : ∀ a : List α, (a.flatMap fun x => b.map fun y => (x, y)).length = a.length * b.length := by
    intro a
    induction a with
    | nil => simp
    | cons x r ih => rw [List.flatMap_cons, List.length_append, ih, List.length_map, List.length_cons, Nat.succ_mul, Nat.add_comm]
  rw [e] at this; exact this
theorem snocP_inv {α β : Type} {R : α → β → Prop} : ∀ {xs : List α} {ys : List β} {y : β}, Paired R xs (ys ++ [y]) → ∃ xs' x, xs = xs' ++ [x] ∧ Paired R xs' ys ∧ R x y
  | _, [], _, .cons r .nil => ⟨[], _, rfl, .nil, r⟩
  | _, _ :: ys, _, .cons r t => by
    obtain ⟨xs', x, rfl, p, q⟩ := snocP_inv t
    exact ⟨_ :: xs', x, rfl, .cons r p, q⟩
theorem rpa_pr {W : Addr → Prop} {H : Hp} : ∀ {bs : List Addr} {ys : List (Int × Int)}, Paired (PrT H) bs ys → (∀ b ∈ bs, ¬ W b) → RpA W H (bs.map V.ref) (ys.map prD)
  | _, _, .nil, _ => .nil
  | _, _, .cons r t, h => .cons (prT_rp r (h _ List.mem_cons_self)) (rpa_pr t fun b hb => h b (List.mem_cons_of_mem _ hb))
theorem prT_tup {H : Hp} {W : Addr → Prop} (hW : ∀ x, W x → ∀ l, H x ≠ some (.tup l)) {bs : List Addr} {ys : List (Int × Int)} (p : Paired (PrT H) bs ys) : ∀ b ∈ bs, ¬ W b := by
  induction p with
  | nil => exact fun _ h => nomatch h
  | cons r _ ih =>
    intro b hb
    rcases List.mem_cons.mp hb with rfl | hb
    · exact fun z => hW _ z _ r
    · exact ih b hb
theorem MvW.grow {W W' : Addr → Prop} {H : Hp} {mv : Addr} {gs : List Gm} {A : Nat → Prop} (m : MvW W H mv gs A) (s : ∀ x, W' x → H x = none) : MvW W' H mv gs A := by
  obtain ⟨kvs, e, h⟩ := m
  refine ⟨kvs, e, fun g hg => ?_⟩
  obtain ⟨gm, t, e1, e2, a, b, h1, h2, h3, _⟩ := h g hg
  have n : ∀ x o, H x = some o → ¬ W' x := fun x o e z => by rw [s x z] at e; cases e
  exact ⟨gm, t, e1, e2, a, b, h1, h2, h3, n _ _ h1, n _ _ h2, n _ _ h3⟩
theorem MvW.ne {W : Addr → Prop} {H : Hp} {mv p : Addr} {gs : List Gm} {A : Nat → Prop} (m : MvW W H mv gs A) (h : H p = none) : mv ≠ p := by
  obtain ⟨kvs, e, _⟩ := m
  exact ne_old h e
abbrev N_paper : List Str := ["book", "g", "h", "moves", "known", "word", "found", "waiting", "x", "y", "wanted", "pair"]
theorem sc_paper : FnScope N_paper ["book", "g", "h"] (defScope s_paper) := ⟨rfl, rfl, rfl, by decide +kernel, rfl, by decide +kernel, by decide +kernel⟩
def t_paper (c : Cn) : TS :=
  (tSeq (tAsg (tCall (sp_pairs_by c) [] E0 (tCons (tVar 0) (tCons (tVar 1) (tCons (tVar 2) tNil)))) (gSeq c.K 2 (gCons (gName 3) (gCons (gName 4) gNil))))
  (tSeq (tAsg (tC (.str "bars")) (gName 5))
  (C8.tCut (tIfS (tTru c.K (tOp (bIx c.P c.w c.K) (tVar 4) (tTup (tCons (tVar 1) (tCons (tVar 2) tNil)))))
  (tAsg (tC (.str "holds")) (gName 5))
  tNext)
  (tSeq (tAsg (uDispT (tTup (tCons (tVar 1) (tCons (tVar 2) tNil))) (tC (.bl true))) (gName 6))
  (tSeq (tAsg (tLst (tCons (tTup (tCons (tVar 1) (tCons (tVar 2) tNil))) tNil)) (gName 7))
  (tSeq (tWhile (tTest (tOp (cNe c.K) (tVar 7) (tLst tNil)))
  (tSeq (tAsg (tBM0 c.K "list" rPop (tVar 7)) (gSeq c.K 2 (gCons (gName 8) (gCons (gName 9) gNil))))
  (tSeq (tAsg (tCall (sp_barring c) [] E0 (tCons (tVar 3) (tCons (tVar 4) (tCons (tVar 8) (tCons (tVar 9) tNil))))) (gName 10))
  (C8.tCut (tIfS (tTest (tOp (cEq c.K) (tVar 5) (tC (.str "holds"))))
  (tAsg (tCall (sp_holding c) [] E0 (tCons (tVar 3) (tCons (tVar 4) (tCons (tVar 8) (tCons (tVar 9) tNil))))) (gName 10))
  tNext)
  (tFor (iAny c.K (tVar 10)) (gName 11)
  (tIfS (tTest (tOp (cNotIn c.P c.w c.K) (tVar 11) (tVar 6)))
  (tSeq (tAsg (tC (.bl true)) (gSub (tVar 6) (tVar 11) (bSet c.P c.w)))
  (tDrop (tBM c.K "list" rAppend (tVar 7) (tCons (tVar 11) tNil))))
  tNext))))))
  (tRet (tTup (tCons (tVar 5) (tCons (tCB uSortDictP (tCons (tVar 6) tNil)) tNil))))))))))
def pWord (b : Bool) : Str := if b = true then "holds" else "bars"
def sp_paper (c : Cn) : Sp := fun vs H Q E => vs.length = 3 ∧ ∃ (b : Addr) (M : Addr → Prop) (gs : List Gm) (ds : List Int) (g h : Nat), vs = [.ref b, .int g, .int h] ∧ BookAt c H b M gs ds ∧ g < gs.length ∧ h < gs.length ∧ gs.length ≤ 40000 ∧ (g + 1) * (h + 1) ≤ 90000 ∧
  ∀ (H' : Hp) (p l : Addr) (bs : List Addr) (ys : List (Int × Int)), Keep Nil H H' → H p = none → H l = none → H' p = some (.tup [.str (pWord (ge gs g h)), .ref l]) → H' l = some (.lst (bs.map V.ref)) → Paired (PrT H') bs ys → Pap gs g h ys → Q (.ref p) H'
theorem p_paper {c : Cn} {mg : Str → Option Value} (T : Txt c mg) {vs : List V} {H : Hp} {Q : VK} {E : XK} (h : sp_paper c vs H Q E) : t_paper c { nx := fun _ H' => Q .non H', rt := Q } (start N_paper vs) H := by
  obtain ⟨_, b, M, gs, ds, g, h, rfl, B, hg, hh, few, few2, k⟩ := h
  have go := B.ok
  unfold t_paper
  repeat kaf_suf
  refine ⟨rfl, b, M, gs, ds, g, h, rfl, B, hg, hh, few, few2, fun H1 p0 mv kn r1 r2 kvs k1 hp0 ep0 Mv ek bl ok R1 R2 => ?_⟩
  have l1 := keys_bound (nodup_lt R1.up) R1.low
  have l2 := keys_bound (nodup_lt R2.up) R2.low
  have l12 : r1.length * r2.length ≤ 90000 := Nat.le_trans (Nat.mul_le_mul l1 l2) few2
  refine r_seqT ep0 rfl (r_gcons ?_)
  repeat kaf_suf
  refine r_gcons ?_
  repeat kaf_suf
  refine r_gnil ?_
  repeat kaf_suf
  refine ⟨fun σ' H' => Keep Nil H1 H' ∧ σ' = [some (.ref b), some (.int g), some (.int h), some (.ref mv), some (.ref kn), some (.str (pWord (ge gs g h))), none, none, none, none, none, none], ?_, ?_⟩
  · repeat kaf_suf
    intro q hq
    repeat kaf_suf
    refine v_ixKn (get_new hq ek) upd_same (ok g h ⟨R1.mem, R2.mem⟩) ?_
    have kq : Keep Nil H1 (upd H1 q (.tup [.int g, .int h])) := Keep.alloc hq
    repeat kaf_suf
    cases hw : ge gs g h with
    | true =>
      repeat kaf_suf
      exact ⟨kq, rfl⟩
    | false =>
      repeat kaf_suf
      exact ⟨kq, rfl⟩
  rintro σ' H2 ⟨k2, rfl⟩
  have ek2 := k2.get (fun z => z) ek
  have Mv2 := Mv.same k2
  have k02 := k1.trans k2
  clear ep0 ek Mv k1 k2 hp0
  repeat kaf_suf
  intro fd hfd
  repeat kaf_suf
  intro t0 ht0
  repeat kaf_suf
  refine ⟨pk ((g : Int), (h : Int)), t0, rfl, get_new ht0 upd_same, upd_same, ?_⟩
  have hfd0 : H fd = none := keep_none k02 hfd
  have nkf : kn ≠ fd := ne_old hfd ek2
  have nmf : mv ≠ fd := Mv2.ne hfd
  have k3 : Keep Nil H (upd (upd (upd H2 fd (.dT [])) t0 (.tup [.int g, .int h])) fd (.dT [(pk ((g : Int), (h : Int)), .bl true)])) := ((k02.new hfd).new ht0).setN hfd0
  have nft : fd ≠ t0 := ne_old ht0 upd_same
  have k23 : Keep Nil H2 (upd (upd (upd H2 fd (.dT [])) t0 (.tup [.int g, .int h])) fd (.dT [(pk ((g : Int), (h : Int)), .bl true)])) := ((Keep.alloc hfd).new ht0).setN hfd
  have ef : (upd (upd (upd H2 fd (.dT [])) t0 (.tup [.int g, .int h])) fd (.dT [(pk ((g : Int), (h : Int)), .bl true)])) fd = some (.dT [(pk ((g : Int), (h : Int)), .bl true)]) := upd_same
  generalize upd (upd (upd H2 fd (.dT [])) t0 (.tup [.int g, .int h])) fd (.dT [(pk ((g : Int), (h : Int)), .bl true)]) = H3 at k3 k23 ef ⊢
  have ek3 := k23.get (fun z => z) ek2
  have k23' := k23
  clear ht0 nft k23 ek2 k02
  repeat kaf_suf
  intro t1 ht1
  repeat kaf_suf
  intro wt hwt
  have k4 := (k3.new (o := .tup [.int g, .int h]) ht1).new (o := .lst [.ref t1]) hwt
  have k34 := (Keep.alloc (M := Nil) (o := .tup [.int g, .int h]) ht1).new (o := .lst [.ref t1]) hwt
  have hwt0 : H wt = none := keep_none k3 (none_of_upd hwt)
  have ef4 := k34.get (fun z => z) ef
  have ek4 := k34.get (fun z => z) ek3
  have hwt2 : H2 wt = none := keep_none k23' (none_of_upd hwt)
  have nmw : mv ≠ wt := Mv2.ne hwt2
  have Mv4 : MvW (fun x => x = fd ∨ x = wt) _ mv gs _ := (Mv2.grow (W' := fun x => x = fd ∨ x = wt) fun x h => h.elim (fun e => e ▸ hfd) fun e => e ▸ hwt2).keepW (k23'.trans k34).weak (fun z => z.elim nmf nmw)
  have et4 : (upd (upd H3 t1 (.tup [.int g, .int h])) wt (.lst [.ref t1])) t1 = some (.tup [.int g, .int h]) := get_new hwt upd_same
  have ew4 : (upd (upd H3 t1 (.tup [.int g, .int h])) wt (.lst [.ref t1])) wt = some (.lst [.ref t1]) := upd_same
  generalize upd (upd H3 t1 (.tup [.int g, .int h])) wt (.lst [.ref t1]) = H4 at k4 ef4 ek4 Mv4 et4 ew4 ⊢
  have nkw : kn ≠ wt := ne_old hwt (get_new ht1 ek3)
  clear k34 ek3 ef k3 hwt ht1 hfd Mv2 k23' hwt2
  have nfw : fd ≠ wt := fun z => by rw [z, ew4] at ef4; cases ef4
  have c1 : Cl gs (· ∈ r1) := fun x hx s m hm => R1.cl x hx s m hm
  have c2 : Cl gs (· ∈ r2) := fun x hx s m hm => R2.cl x hx s m hm
  repeat kaf_suf
  refine ⟨fun m σ H' => ∃ (x8 x9 x10 x11 : Option V) (ks ws : List (Int × Int)) (bs : List Addr) (kvf : List TX), σ = [some (.ref b), some (.int g), some (.int h), some (.ref mv), some (.ref kn), some (.str (pWord (ge gs g h))), some (.ref fd), some (.ref wt), x8, x9, x10, x11] ∧ Keep Nil H H' ∧ H' kn = some (.dT kvs) ∧ MvW (fun x => x = fd ∨ x = wt) H' mv gs (fun z => (z : Int) ∈ r1 ++ r2) ∧ kvf.map (·.1) = ks.map pk ∧ H' fd = some (.dT kvf) ∧ H' wt = some (.lst (bs.map V.ref)) ∧ Paired (PrT H') bs ws ∧
    ks.Nodup ∧ ((g : Int), (h : Int)) ∈ ks ∧ (∀ z ∈ ks, geI gs z.1 z.2 = ge gs g h ∧ z.1 ∈ r1 ∧ z.2 ∈ r2) ∧ (∀ z ∈ ws, z ∈ ks) ∧ (∀ z ∈ ks, z ∉ ws → ∀ q ∈ pwF gs (ge gs g h) z, q ∈ ks) ∧ (∀ S : Int × Int → Prop, S (g, h) → (∀ z, S z → ∀ q ∈ pwF gs (ge gs g h) z, S q) → ∀ z ∈ ks, S z) ∧ ws.Nodup ∧ m = 2 * (r1.length * r2.length - ks.length) + ws.length,
    ⟨_, _, _, _, _, [((g : Int), (h : Int))], [((g : Int), (h : Int))], [t1], _, rfl, k4, ek4, Mv4, rfl, ef4, ew4, .cons et4 .nil, by simp, by simp, (fun z hz => by simp at hz; subst hz; exact ⟨rfl, R1.mem, R2.mem⟩), (fun z hz => hz), (fun z hz n => absurd hz n), (fun S s0 _ z hz => by simp at hz; subst hz; exact s0), by simp, rfl⟩, ?_⟩
  rintro m σ H5 ⟨x8, x9, x10, x11, ks, ws, bs, kvf, rfl, k5, ek5, Mv5, kf, ef5, ew5, pw5, nd, mem, val, wk, cl, low, wnd, rfl⟩
  clear ef4 ek4 Mv4 et4 ew4 k4
  have kl := prod_len nd fun z hz => ⟨(val z hz).2.1, (val z hz).2.2⟩
  repeat kaf_suf
  intro q hq
  repeat kaf_suf
  refine v_neV (W := Nil) (.lst (get_new hq ew5) (fun z => z) (rpa_pr (paired_keep pw5 fun t z r => get_new hq r) fun b hb z => z)) (.lst upd_same (fun z => z) .nil) (sh_pairs _) (by rfl) ?_
  rw [show PyData.eqv (.list (ws.map prD)) (.list []) = decide (ws = []) by cases ws <;> simp [PyData.eqv, PyData.eqvAll]]
  have kq : Keep Nil H5 (upd H5 q (.lst [])) := Keep.alloc hq
  have k6 := k5.trans kq
  have ek6 := kq.get (fun z => z) ek5
  have Mv6 := Mv5.same kq
  have ef6 := kq.get (fun z => z) ef5
  have ew6 := kq.get (fun z => z) ew5
  have pw6 : Paired (PrT (upd H5 q (.lst []))) bs ws := paired_keep pw5 fun t z r => kq.get (fun z => z) r
  generalize upd H5 q (.lst []) = H6 at k6 ek6 Mv6 ef6 ew6 pw6 ⊢
  clear hq kq k5 ek5 Mv5 ef5 ew5 pw5
  rcases List.eq_nil_or_concat ws with rfl | ⟨w2, z, rfl⟩
  · rw [decide_eq_true rfl]
    repeat kaf_suf
    refine v_sortedP ef6 kf fun bs2 ys p pr ris pp hp => ?_
    repeat kaf_suf
    intro p2 hp2
    have kk := (Keep.alloc (M := Nil) (o := .lst (bs2.map V.ref)) hp).new (o := .tup [.str (pWord (ge gs g h)), .ref p]) hp2
    refine k _ p2 p bs2 ys (k6.trans kk) (keep_none k6 (none_of_upd hp2)) (keep_none k6 hp) upd_same (get_new hp2 upd_same) (paired_keep pp fun t z r => kk.get (fun z => z) r) ⟨pr.nodup_iff.mpr nd, ris, pr.mem_iff.mpr mem, fun z hz => (val z (pr.mem_iff.mp hz)).1, fun z hz q hq => pr.mem_iff.mpr (cl z (pr.mem_iff.mp hz) (by simp) q hq), fun S s0 s1 z hz => low S s0 s1 z (pr.mem_iff.mp hz)⟩
  rw [List.concat_eq_append] at pw6 wk cl wnd ⊢
  rw [decide_eq_false (by simp)]
  refine r_kB (r_ite_nf ?_)
  obtain ⟨bs2, tz, rfl, pw2, hz⟩ := snocP_inv pw6
  rw [List.map_append] at ew6
  have zk : z ∈ ks := wk z (by simp)
  obtain ⟨zv, z1, z2⟩ := val z zk
  obtain ⟨xn, hxn⟩ := Int.eq_ofNat_of_zero_le (R1.low _ z1).1
  obtain ⟨yn, hyn⟩ := Int.eq_ofNat_of_zero_le (R2.low _ z2).1
  obtain ⟨zx, zy⟩ := z
  simp only at hxn hyn zv z1 z2
  subst hxn hyn
  refine ⟨fun σ' H' => ∃ (x8 x9 x10 x11 : Option V) (ks' ws' : List (Int × Int)) (bs' : List Addr) (kvf' : List TX), σ' = [some (.ref b), some (.int g), some (.int h), some (.ref mv), some (.ref kn), some (.str (pWord (ge gs g h))), some (.ref fd), some (.ref wt), x8, x9, x10, x11] ∧ Keep Nil H H' ∧ H' kn = some (.dT kvs) ∧ MvW (fun x => x = fd ∨ x = wt) H' mv gs (fun z => (z : Int) ∈ r1 ++ r2) ∧ kvf'.map (·.1) = ks'.map pk ∧ H' fd = some (.dT kvf') ∧ H' wt = some (.lst (bs'.map V.ref)) ∧ Paired (PrT H') bs' ws' ∧
    ks'.Nodup ∧ ((g : Int), (h : Int)) ∈ ks' ∧ (∀ z ∈ ks', geI gs z.1 z.2 = ge gs g h ∧ z.1 ∈ r1 ∧ z.2 ∈ r2) ∧ (∀ z ∈ ws', z ∈ ks') ∧ (∀ z ∈ ks', z ∉ ws' → ∀ q ∈ pwF gs (ge gs g h) z, q ∈ ks') ∧ (∀ S : Int × Int → Prop, S (g, h) → (∀ z, S z → ∀ q ∈ pwF gs (ge gs g h) z, S q) → ∀ z ∈ ks', S z) ∧ ws'.Nodup ∧ 2 * (r1.length * r2.length - ks'.length) + ws'.length < 2 * (r1.length * r2.length - ks.length) + (w2 ++ [((xn : Int), (yn : Int))]).length, fun σ' H' ⟨a1, a2, a3, a4, a5, a6, a7, a8, h1, h2, h3, h4, h5, h6, h7, h8, h9, h10, h11, h12, h13, h14, h15, h16⟩ => ⟨_, h16, a1, a2, a3, a4, a5, a6, a7, a8, h1, h2, h3, h4, h5, h6, h7, h8, h9, h10, h11, h12, h13, h14, h15, rfl⟩, ?_⟩
  have wl := nodup_le _ _ wnd wk
  rw [List.length_append, List.length_singleton] at wl
  repeat kaf_suf
  refine v_pop ew6 ?_
  have k7 : Keep Nil H (upd H6 wt (.lst (bs2.map V.ref))) := k6.setN hwt0
  have kw : Keep (fun x => x = wt) H6 (upd H6 wt (.lst (bs2.map V.ref))) := Keep.refl.set rfl
  have ek7 := get_set (u := .lst (bs2.map V.ref)) nkw ek6
  have ef7 := get_set (u := .lst (bs2.map V.ref)) nfw ef6
  have ew7 : (upd H6 wt (.lst (bs2.map V.ref))) wt = some (.lst (bs2.map V.ref)) := upd_same
  have tw : ∀ {t z}, PrT H6 t z → PrT (upd H6 wt (.lst (bs2.map V.ref))) t z := fun r => get_set (lt_ne ew6 r) r
  have pw7 := paired_keep pw2 fun t z r => tw r
  have hz7 := tw hz
  have Mv7 : MvW (fun x => x = fd ∨ x = wt) (upd H6 wt (.lst (bs2.map V.ref))) mv gs (fun z => (z : Int) ∈ r1 ++ r2) := Mv6.keepW (kw.mono fun _ h => .inr h) fun z => z.elim nmf nmw
  generalize upd H6 wt (.lst (bs2.map V.ref)) = H7 at k7 ek7 ef7 ew7 pw7 hz7 Mv7 ⊢
  clear kw tw k6 ek6 ef6 ew6 pw2 hz Mv6
  repeat kaf_suf
  refine r_seqT hz7 rfl (r_gcons ?_)
  repeat kaf_suf
  refine r_gcons ?_
  repeat kaf_suf
  refine r_gnil ?_
  have al7 : Al (fun x => x = fd ∨ x = wt) H7 := fun x hx z => z.elim (fun e => by rw [e, ef7] at hx; cases hx) fun e => by rw [e, ew7] at hx; cases hx
  have cl12 : ∀ g : Nat, (g : Int) ∈ r1 ++ r2 → ∀ s, ∀ m ∈ mvs gs g s, ((m.toNat : Nat) : Int) ∈ r1 ++ r2 := fun g hg s m hm => by
    have := mvs_low go hm
    rw [show ((m.toNat : Nat) : Int) = m by omega]
    rcases List.mem_append.mp hg with q | q
    · exact List.mem_append_left _ (R1.cl _ q s m (by rw [Int.toNat_natCast]; exact hm))
    · exact List.mem_append_right _ (R2.cl _ q s m (by rw [Int.toNat_natCast]; exact hm))
  have Ax : (xn : Int) ∈ r1 ++ r2 := List.mem_append_left _ z1
  have Ay : (yn : Int) ∈ r1 ++ r2 := List.mem_append_right _ z2
  have i0 : ∀ {x s m}, m ∈ mvs gs x s → 0 ≤ m := fun h => (mvs_low go h).1
  have ag : Ag gs (gK kvs) (geI gs) xn yn :=
    ⟨fun r hr l hl => ok.gk (i0 hl) (by omega) ⟨c1 _ (c1 _ z1 _ _ hr) _ _ hl, z2⟩, fun r hr q hq => ok.gk (i0 hr) (i0 hq) ⟨c1 _ z1 _ _ hr, c2 _ z2 _ _ hq⟩,
     fun p hp l hl => ok.gk (i0 hl) (i0 hp) ⟨c1 _ z1 _ _ hl, c2 _ z2 _ _ hp⟩, fun p hp q hq => ok.gk (by omega) (i0 hq) ⟨z1, c2 _ (c2 _ z2 _ _ hp) _ _ hq⟩⟩
  repeat kaf_suf
  refine ⟨rfl, mv, kn, gs, _, kvs, _, xn, yn, rfl, al7, Mv7.weak (fun _ z => z.elim), cl12, Ax, Ay, go, few, .inl ek7, bl, fun H8 v8 k8 rv8 => ?_⟩
  repeat kaf_suf
  refine ⟨fun σ' H' => ∃ wv, σ' = [some (.ref b), some (.int g), some (.int h), some (.ref mv), some (.ref kn), some (.str (pWord (ge gs g h))), some (.ref fd), some (.ref wt), some (.int xn), some (.int yn), some wv, x11] ∧ Keep Nil H7 H' ∧ Rp (fun x => x = fd ∨ x = wt) H' wv (.list ((pwF gs (ge gs g h) ((xn : Int), (yn : Int))).map prD)), ?_, ?_⟩
  · repeat kaf_suf
    refine r_ite (fun hw => ?_) (fun hw => ?_)
    · have hw2 : ge gs g h = true := by
        cases e : ge gs g h with
        | true => rfl
        | false => rw [e] at hw; exact absurd hw (by decide)
      repeat kaf_suf
      refine ⟨rfl, mv, kn, gs, _, kvs, _, xn, yn, rfl, al7.same k8, (Mv7.same k8).weak (fun _ z => z.elim), cl12, Ax, Ay, go, few, .inl (k8.get (fun z => z) ek7), bl, fun H9 v9 k9 rv9 => ?_⟩
      repeat kaf_suf
      refine ⟨v9, rfl, k8.trans k9, ?_⟩
      rw [ag.ho, map_optD (hoF_all (by rw [phF_I go (by omega) (by omega), zv]; exact hw2))] at rv9
      unfold pwF
      rw [if_pos hw2]
      exact rv9
    · have hw2 : ge gs g h = false := by
        cases e : ge gs g h with
        | false => rfl
        | true => rw [e] at hw; exact absurd rfl hw
      repeat kaf_suf
      refine ⟨v8, rfl, k8, ?_⟩
      unfold pwF
      rw [if_neg (by rw [hw2]; decide), ← ag.ba]
      exact rv8
  rintro σ' H9 ⟨wv, rfl, k9, rv9⟩
  clear rv8 k8
  obtain ⟨la, us, rfl, ela, nla, rus⟩ := rv9.list_
  have k09 := k7.trans k9
  have ek9 := k9.get (fun z => z) ek7
  have ef9 := k9.get (fun z => z) ef7
  have ew9 := k9.get (fun z => z) ew7
  have Mv9 := Mv7.same k9
  have pw9 := paired_keep pw7 fun t z (r : PrT _ t z) => k9.get (fun z => z) r
  clear rv9 k9 k7 ek7 ef7 ew7 Mv7 pw7 hz7 al7
  have hul := rus.len
  rw [List.length_map] at hul
  repeat kaf_suf
  refine for_list (xs := us) (fun j σ H' => ∃ (x11 : Option V) (ks' ws' : List (Int × Int)) (bs' : List Addr) (kvf' : List TX), σ = [some (.ref b), some (.int g), some (.int h), some (.ref mv), some (.ref kn), some (.str (pWord (ge gs g h))), some (.ref fd), some (.ref wt), some (.int xn), some (.int yn), some (.ref la), x11] ∧ Keep Nil H H' ∧ H' kn = some (.dT kvs) ∧ MvW (fun x => x = fd ∨ x = wt) H' mv gs (fun z => (z : Int) ∈ r1 ++ r2) ∧ H' la = some (.lst us) ∧ RpA (fun x => x = fd ∨ x = wt) H' us ((pwF gs (ge gs g h) ((xn : Int), (yn : Int))).map prD) ∧ kvf'.map (·.1) = ks'.map pk ∧ H' fd = some (.dT kvf') ∧ H' wt = some (.lst (bs'.map V.ref)) ∧ Paired (PrT H') bs' ws' ∧
    ks'.Nodup ∧ (∀ z ∈ ks, z ∈ ks') ∧ (∀ z ∈ ks', geI gs z.1 z.2 = ge gs g h ∧ z.1 ∈ r1 ∧ z.2 ∈ r2) ∧ (∀ z ∈ ws', z ∈ ks') ∧ (∀ z ∈ w2, z ∈ ws') ∧ (∀ z ∈ ks', z ∉ ks → z ∈ ws') ∧ (∀ q ∈ (pwF gs (ge gs g h) ((xn : Int), (yn : Int))).take j, q ∈ ks') ∧ (∀ S : Int × Int → Prop, S (g, h) → (∀ z, S z → ∀ q ∈ pwF gs (ge gs g h) z, S q) → ∀ z ∈ ks', S z) ∧ ws'.Nodup ∧ ws'.length + ks.length = w2.length + ks'.length)
    ⟨_, ks, w2, bs2, kvf, rfl, k09, ek9, Mv9, ela, rus, kf, ef9, ew9, pw9, nd, (fun z hz => hz), val, (fun z hz => wk z (by simp [hz])), (fun z hz => hz), (fun z hz n => absurd hz n), (fun q hq => by simp at hq), low, (List.nodup_append.mp wnd).1, rfl⟩ ?_ ?_ ?_
  · rintro j σ H' _ ⟨_, _, _, _, _, _, _, _, _, h, _⟩; exact SqL.of h
  · rintro j x σ H10 hj ⟨y11, ks', ws', bs', kvf', rfl, k10, ek10, Mv10, ela10, rus10, kf', ef10, ew10, pw10, nd', sub, val', wk', w2s, new', tk, low', wnd', eq'⟩
    clear k09 ek9 Mv9 ela rus ef9 ew9 pw9
    obtain ⟨dd, hdd, rx⟩ := rus10.at' hj
    rw [List.getElem?_map] at hdd
    obtain ⟨q, hq, rfl⟩ := Option.map_eq_some_iff.mp hdd
    obtain ⟨tq, rfl, hqt, nqt⟩ := prD_ rx
    have qm := List.mem_of_getElem? hq
    have kl' := prod_len nd' fun z hz => ⟨(val' z hz).2.1, (val' z hz).2.2⟩
    have wl' := nodup_le _ _ wnd' wk'
    have bl' : bs'.length = ws'.length := Paired.length pw10
    have kfl : kvf'.length = ks'.length := by have := congrArg List.length kf'; rw [List.length_map, List.length_map] at this; exact this
    repeat kaf_suf
    refine v_ninT (.inl ef10) kf' hqt ?_
    refine r_kB (r_iteN (fun hn => ?_) (fun hn => ?_))
    · have hbl2 : (bs'.map V.ref).length ≤ 90000 := by rw [List.length_map]; omega
      repeat kaf_suf
      refine v_setT ef10 hqt (few1 (by omega)) ?_
      have nf : ∀ {t l}, H10 t = some (.tup l) → t ≠ fd := fun h => fun z => by rw [z, ef10] at h; cases h
      have nw : ∀ {t l}, H10 t = some (.tup l) → t ≠ wt := fun h => lt_ne ew10 h
      have ef11 : (upd H10 fd (.dT (putK kvf' (pk q) (.bl true)))) fd = some (.dT (putK kvf' (pk q) (.bl true))) := upd_same
      have ew11 := get_set (u := .dT (putK kvf' (pk q) (.bl true))) nfw.symm ew10
      have k11 : Keep (fun x => x = fd ∨ x = wt) H10 (upd (upd H10 fd (.dT (putK kvf' (pk q) (.bl true)))) wt (.lst (bs'.map V.ref ++ [V.ref tq]))) := (Keep.refl.set (.inl rfl)).set (.inr rfl)
      have nx : ∀ x, (x = fd ∨ x = wt) → ∀ l, H10 x ≠ some (.tup l) := fun x e l z => e.elim (fun e => nf z e) fun e => nw z e
      have Mv11 := Mv10.keepW k11 fun z => z.elim nmf nmw
      repeat kaf_suf
      refine ⟨_, ks' ++ [q], ws' ++ [q], bs' ++ [tq], putK kvf' (pk q) (.bl true), rfl, (k10.setN hfd0).setN hwt0, k11 _ _ (fun z => z.elim (fun e => nkf e) fun e => nkw e) ek10, Mv11, k11 _ _ nla ela10, rus10.keep k11, keysT_put kf' hn, get_set nfw ef11, by rw [List.map_append]; exact upd_same, Paired.snoc (paired_keep pw10 fun t z (r : PrT _ t z) => k11 _ _ (fun e => nx _ e _ r) r) (k11 _ _ (fun e => nx _ e _ hqt) hqt), ?_, (fun z hz => List.mem_append_left _ (sub z hz)), ?_, ?_, (fun z hz => List.mem_append_left _ (w2s z hz)), ?_, ?_, ?_, ?_, by rw [List.length_append, List.length_append]; simp only [List.length_singleton]; omega⟩
      · rw [List.nodup_append]
        refine ⟨nd', by simp, fun x hx y hy => ?_⟩
        cases List.mem_singleton.mp hy
        exact fun e => hn (e ▸ hx)
      · intro z hz
        rcases List.mem_append.mp hz with h | h
        · exact val' z h
        · cases List.mem_singleton.mp h
          exact ⟨pwF_ge go qm, pwF_cl c1 c2 z1 z2 qm⟩
      · intro z hz
        rcases List.mem_append.mp hz with h | h
        · exact List.mem_append_left _ (wk' z h)
        · exact List.mem_append_right _ h
      · intro z hz hn'
        rcases List.mem_append.mp hz with h | h
        · exact List.mem_append_left _ (new' z h hn')
        · exact List.mem_append_right _ h
      · exact take_snoc hq (fun z hz => List.mem_append_left _ (tk z hz)) (List.mem_append_right _ (List.mem_singleton.mpr rfl))
      · intro S s0 s1 z hz
        rcases List.mem_append.mp hz with h | h
        · exact low' S s0 s1 z h
        · cases List.mem_singleton.mp h
          exact s1 _ (low S s0 s1 _ zk) _ qm
      · rw [List.nodup_append]
        refine ⟨wnd', by simp, fun x hx y hy => ?_⟩
        cases List.mem_singleton.mp hy
        exact fun e => hn (e ▸ wk' x hx)
    · repeat kaf_suf
      exact ⟨_, ks', ws', bs', kvf', rfl, k10, ek10, Mv10, ela10, rus10, kf', ef10, ew10, pw10, nd', sub, val', wk', w2s, new', take_snoc hq tk hn, low', wnd', eq'⟩
  · rintro σ H10 ⟨y11, ks', ws', bs', kvf', rfl, k10, ek10, Mv10, ela10, rus10, kf', ef10, ew10, pw10, nd', sub, val', wk', w2s, new', tk, low', wnd', eq'⟩
    rw [hul, List.take_length] at tk
    have kl' := prod_len nd' fun z hz => ⟨(val' z hz).2.1, (val' z hz).2.2⟩
    have sl := nodup_le _ _ nd sub
    repeat kaf_suf
    refine ⟨_, _, _, _, ks', ws', bs', kvf', rfl, k10, ek10, Mv10, kf', ef10, ew10, pw10, nd', sub _ mem, val', wk', fun z hz hn => ?_, low', wnd', by rw [List.length_append, List.length_singleton]; omega⟩
    by_cases e : z = ((xn : Int), (yn : Int))
    · subst e; exact tk
    · by_cases hzk : z ∈ ks
      · refine fun q hq => sub q (cl z hzk (fun h => ?_) q hq)
        rcases List.mem_append.mp h with h | h
        · exact hn (w2s z h)
        · exact e (List.mem_singleton.mp h)
      · exact absurd (new' z hz hzk) hn
theorem cal_paper {c : Cn} {mg : Str → Option Value} {base : Heap} (T : Txt c mg) : Cal c.P c.w c.K mg base CX0 5 "paper" (sp_paper c) := by
  obtain ⟨f, fd, F, g, b⟩ := T.F_paper
  exact ⟨f, fd, ["book", "g", "h"], F.ok (k := 4) (N := N_paper) sc_paper (fun vs H Q E h => h.1) (fun cdv A outer s H vs Q E hr h => ⟨t_paper c, by
  exact (pss_cons (ps_asg (e_call (cal_pairs_by T) hr (by decide) pass0 rfl (pa_cons (pv 0) (pa_cons (pv 1) (pa_cons (pv 2) pa_nil)))) (g_seq rfl (pgs_cons (pg_name (i := 3) sc_paper.nd rfl (Or.inl rfl)) (pgs_cons (pg_name (i := 4) sc_paper.nd rfl (Or.inl rfl)) pgs_nil))))
  (pss_cons (ps_set (i := 5) sc_paper.nd rfl (Or.inl rfl) pe_str)
  (C8.pss_cut (ps_if (p_tru (pe_ix (x_ix (hu64 hr)) (pv 4) (pe_tup (pa_cons (pv 1) (pa_cons (pv 2) pa_nil))) (fun _ _ => rfl))) (pss_one (ps_set (i := 5) sc_paper.nd rfl (Or.inl rfl) pe_str)) pss_nil)
  (pss_cons (ps_set (i := 6) sc_paper.nd rfl (Or.inl rfl) (pe_dispT (hu64 hr) (pe_tup (pa_cons (pv 1) (pa_cons (pv 2) pa_nil))) pe_bl))
  (pss_cons (ps_set (i := 7) sc_paper.nd rfl (Or.inl rfl) (pe_lst (pa_cons (pe_tup (pa_cons (pv 1) (pa_cons (pv 2) pa_nil))) pa_nil)))
  (pss_cons (ps_while PassesOwn.never (pt_cmpR (o_ne (hu64 hr)) (pv 7) (pe_lst pa_nil) (nomark _))
  (pss_cons (ps_asg (pe_bm0 PySem.F.plainAttrs_list PySem.F.slot_list_pop PySem.F.type_list_pop mt_pop (pv 7)) (g_seq rfl (pgs_cons (pg_name (i := 8) sc_paper.nd rfl (Or.inl rfl)) (pgs_cons (pg_name (i := 9) sc_paper.nd rfl (Or.inl rfl)) pgs_nil))))
  (pss_cons (ps_set (i := 10) sc_paper.nd rfl (Or.inl rfl) (e_call (cal_barring T) hr (by decide) pass0 rfl (pa_cons (pv 3) (pa_cons (pv 4) (pa_cons (pv 8) (pa_cons (pv 9) pa_nil))))))
  (C8.pss_cut (ps_if (pt_cmpR (o_eq (hu64 hr)) (pv 5) pe_str (nomark _)) (pss_one (ps_set (i := 10) sc_paper.nd rfl (Or.inl rfl) (e_call (cal_holding T) hr (by decide) pass0 rfl (pa_cons (pv 3) (pa_cons (pv 4) (pa_cons (pv 8) (pa_cons (pv 9) pa_nil))))))) pss_nil)
  (pss_one (ps_for PassesOwn.never rfl (pi_any (pv 10)) (pg_name (i := 11) sc_paper.nd rfl (Or.inl rfl))
  (pss_one (ps_if (pt_cmpR (o_notin (hu65 hr)) (pv 11) (pv 6) (by rfl)) (pss_cons (ps_asg pe_bl (pg_sub (pv 6) (pv 11) (s_set (hu64 hr))))
  (pss_one (ps_expr (pe_bm PySem.F.plainAttrs_list PySem.F.slot_list_append PySem.F.type_list_append mt_append (pv 7) (pa_cons (pv 11) pa_nil))))) pss_nil))))))))
  (pss_one (ps_ret (pe_tup (pa_cons (pv 5) (pa_cons (pe_callB (cu_sortDictP rfl) (by rfl) T.n_sorted (by decide +kernel) (pa_cons (pv 6) pa_nil)) pa_nil))))))))))), p_paper T h⟩), g, F.kp, b⟩

/-! whether lists show -/
def TrV (kvs : List TX) : Prop := ∀ k v, valV kvs k = some v → v = .bl true
theorem TrV.bl {kvs : List TX} (h : TrV kvs) : BlV kvs := fun k v e => ⟨true, h k v e⟩
theorem TrV.put {kvs : List TX} (h : TrV kvs) {k : List L2.Key} : TrV (putK kvs k (.bl true)) := fun k' v e => by
  rw [valV_put] at e
  split at e
  · exact (Option.some.inj e).symm
  · exact h k' v e
theorem TrV.nil : TrV [] := fun k v e => by simp [valV] at e
theorem TrV.gk {kvs : List TX} {ks : List (Int × Int)} (h : TrV kvs) (e : kvs.map (·.1) = ks.map pk) (x y : Int) : gK kvs x y = decide ((x, y) ∈ ks) := by
  have s := keysT e (x, y)
  unfold gK
  cases q : valV kvs (pk (x, y)) with
  | none => rw [q] at s; exact s
  | some v =>
    cases h _ v q
    rw [q] at s; exact s
abbrev N_all_in : List Str := ["pairs", "listed", "pair"]
theorem sc_all_in : FnScope N_all_in ["pairs", "listed"] (defScope s_all_in) := ⟨rfl, rfl, rfl, by decide +kernel, rfl, by decide +kernel, by decide +kernel⟩
def t_all_in (c : Cn) : TS :=
  (tSeq (tFor (iAny c.K (tVar 0)) (gName 2)
  (tIfS (tTest (tOp (cNotIn c.P c.w c.K) (tVar 2) (tVar 1)))
  (tRet (tC (.bl false)))
  tNext))
  (tRet (tC (.bl true))))
def sp_all_in (c : Cn) : Sp := fun vs H Q E => vs.length = 2 ∧ ∃ (P : V) (L : Addr) (ps ks : List (Int × Int)) (kvs : List TX), vs = [P, .ref L] ∧ Rp Nil H P (.list (ps.map prD)) ∧ Rd H L (.dT kvs) ∧ kvs.map (·.1) = ks.map pk ∧ Q (.bl (ps.all fun z => decide (z ∈ ks))) H
theorem p_all_in {c : Cn} {mg : Str → Option Value} (T : Txt c mg) {vs : List V} {H : Hp} {Q : VK} {E : XK} (h : sp_all_in c vs H Q E) : t_all_in c { nx := fun _ H' => Q .non H', rt := Q } (start N_all_in vs) H := by
  obtain ⟨_, P, L, ps, ks, kvs, rfl, rP, eL, ke, k⟩ := h
  obtain ⟨a, us, rfl, ea, _, ru⟩ := rP.list_
  have ul := ru.len
  rw [List.length_map] at ul
  unfold t_all_in
  repeat kaf_suf
  refine for_list (xs := us) (fun j σ H' => H' = H ∧ (∃ x2, σ = [some (.ref a), some (.ref L), x2]) ∧ ∀ z ∈ ps.take j, decide (z ∈ ks) = true) ⟨rfl, ⟨_, rfl⟩, fun _ h => by simp at h⟩ ?_ ?_ ?_
  · rintro j σ H' _ ⟨rfl, _⟩; exact SqL.of ea
  · rintro j x σ H' hj ⟨rfl, ⟨x2, rfl⟩, lo⟩
    obtain ⟨dd, hd, rx⟩ := ru.at' hj
    rw [List.getElem?_map] at hd
    obtain ⟨z, hz, rfl⟩ := Option.map_eq_some_iff.mp hd
    obtain ⟨t, rfl, ht, _⟩ := prD_ rx
    repeat kaf_suf
    refine v_ninT eL ke ht ?_
    refine r_kB (r_iteN (fun hn => ?_) (fun hn => ?_))
    · repeat kaf_suf
      rw [show (ps.all fun z => decide (z ∈ ks)) = false from List.all_eq_false.mpr ⟨z, List.mem_of_getElem? hz, by simp [hn]⟩] at k
      exact k
    · repeat kaf_suf
      exact ⟨rfl, ⟨_, rfl⟩, take_snoc hz lo (decide_eq_true hn)⟩
  · rintro σ H' ⟨rfl, ⟨x2, rfl⟩, lo⟩
    rw [ul, List.take_length] at lo
    repeat kaf_suf
    rw [show (ps.all fun z => decide (z ∈ ks)) = true from List.all_eq_true.mpr lo] at k
    exact k
theorem cal_all_in {c : Cn} {mg : Str → Option Value} {base : Heap} (T : Txt c mg) : Cal c.P c.w c.K mg base CX0 1 "all_in" (sp_all_in c) := by
  obtain ⟨f, fd, F, g, b⟩ := T.F_all_in
  exact ⟨f, fd, ["pairs", "listed"], F.ok (k := 0) (N := N_all_in) sc_all_in (fun vs H Q E h => h.1) (fun cdv A outer s H vs Q E hr h => ⟨t_all_in c, by
  exact (pss_cons (ps_for PassesOwn.never rfl (pi_any (pv 0)) (pg_name (i := 2) sc_all_in.nd rfl (Or.inl rfl))
  (pss_one (ps_if (pt_cmpR (o_notin (hu65 hr)) (pv 2) (pv 1) (by rfl)) (pss_one (ps_ret pe_bl)) pss_nil)))
  (pss_one (ps_ret pe_bl))), p_all_in T h⟩), g, F.kp, b⟩
def pbF (gs : List Gm) (ks : List (Int × Int)) (x y : Int) : Bool := ((mvs gs x.toNat false).any fun r => (prR gs r y).all fun z => decide (z ∈ ks)) || ((mvs gs y.toNat true).any fun p => (prL gs p x).all fun z => decide (z ∈ ks))
abbrev N_pair_bars : List Str := ["moves", "listed", "x", "y", "r", "p"]
theorem sc_pair_bars : FnScope N_pair_bars ["moves", "listed", "x", "y"] (defScope s_pair_bars) := ⟨rfl, rfl, rfl, by decide +kernel, rfl, by decide +kernel, by decide +kernel⟩
def t_pair_bars (c : Cn) : TS :=
  (tSeq (tFor (iAny c.K (tOp (bIx c.P c.w c.K) (tOp (bIx c.P c.w c.K) (tVar 0) (tVar 2)) (tC (.int 1)))) (gName 4)
  (tIfS (tTru c.K (tCall (sp_all_in c) [] E0 (tCons (tCall (sp_pairs_right c) [] E0 (tCons (tVar 0) (tCons (tVar 4) (tCons (tVar 2) (tCons (tVar 3) tNil))))) (tCons (tVar 1) tNil))))
  (tRet (tC (.bl true)))
  tNext))
  (tSeq (tFor (iAny c.K (tOp (bIx c.P c.w c.K) (tOp (bIx c.P c.w c.K) (tVar 0) (tVar 3)) (tC (.int 0)))) (gName 5)
  (tIfS (tTru c.K (tCall (sp_all_in c) [] E0 (tCons (tCall (sp_pairs_left c) [] E0 (tCons (tVar 0) (tCons (tVar 5) (tCons (tVar 2) (tCons (tVar 3) tNil))))) (tCons (tVar 1) tNil))))
  (tRet (tC (.bl true)))
  tNext))
  (tRet (tC (.bl false)))))
def sp_pair_bars (c : Cn) : Sp := fun vs H Q E => vs.length = 4 ∧ ∃ (mv L : Addr) (gs : List Gm) (A : Nat → Prop) (ks : List (Int × Int)) (kvs : List TX) (x y : Nat), vs = [.ref mv, .ref L, .int x, .int y] ∧ MvAt H mv gs A ∧ (∀ s, ∀ m ∈ mvs gs x s, A m.toNat) ∧ (∀ s, ∀ m ∈ mvs gs y s, A m.toNat) ∧ A x ∧ A y ∧ GOk gs ∧ gs.length ≤ 40000 ∧ Rd H L (.dT kvs) ∧ kvs.map (·.1) = ks.map pk ∧
  ∀ (H' : Hp), Keep Nil H H' → Q (.bl (pbF gs ks x y)) H'
theorem p_pair_bars {c : Cn} {mg : Str → Option Value} (T : Txt c mg) {vs : List V} {H : Hp} {Q : VK} {E : XK} (h : sp_pair_bars c vs H Q E) : t_pair_bars c { nx := fun _ H' => Q .non H', rt := Q } (start N_pair_bars vs) H := by
  obtain ⟨_, mv, L, gs, A, ks, kvs, x, y, rfl, M, clx, cly, Ax, Ay, go, few, ek, ke, k⟩ := h
  obtain ⟨kv, t1, a1, b1, e1, w1, t1', _, l1⟩ := M.list Ax
  obtain ⟨kv2, t2, a2, b2, e2, w2, t2', l2, _⟩ := M.list Ay
  have rk : ∀ {H'}, Keep Nil H H' → Rd H' L (.dT kvs) := fun kk => ek.imp (fun z => kk.get (fun z => z) z) fun ⟨o, z⟩ => ⟨o, kk.get (fun z => z) z⟩
  unfold t_pair_bars
  repeat kaf_suf
  refine v_ixMv e1 w1 ?_
  repeat kaf_suf
  refine forI (l := mvs gs x false) (fun j H' => Keep Nil H H' ∧ ∀ r ∈ (mvs gs x false).take j, ((prR gs r y).all fun z => decide (z ∈ ks)) = false) (fun j H' h => h.1.get (fun z => z) l1) none rfl ⟨Keep.refl, fun _ h => by simp at h⟩ ?_ ?_
  · rintro j z H1 hz ⟨kk, lo⟩
    have zm := List.mem_of_getElem? hz
    obtain ⟨m0, _⟩ := mvs_low go zm
    obtain ⟨n, rfl⟩ := Int.eq_ofNat_of_zero_le m0
    repeat kaf_suf
    refine ⟨rfl, mv, gs, A, Nil, n, x, y, rfl, Al.nil, M.same kk, clx _ _ zm, Ay, go, few, fun H2 v k2 rv => ?_⟩
    repeat kaf_suf
    refine ⟨rfl, v, L, _, ks, kvs, rfl, rv, rk (kk.trans k2), ke, _, rfl, ?_⟩
    refine r_iteB (fun hb => ?_) (fun hb => ?_)
    · repeat kaf_suf
      have := k _ (kk.trans k2)
      rw [show pbF gs ks x y = true by
        unfold pbF
        rw [Bool.or_eq_true]
        exact .inl (List.any_eq_true.mpr ⟨_, zm, hb⟩)] at this
      exact this
    · repeat kaf_suf
      exact ⟨_, rfl, kk.trans k2, take_snoc hz lo hb⟩
  intro o H1 ⟨kk, lo⟩
  rw [List.take_length] at lo
  have e2' := kk.get (fun z => z) e2
  have t2'' := kk.get (fun z => z) t2'
  have l2' := kk.get (fun z => z) l2
  repeat kaf_suf
  refine v_ixMv e2' w2 ?_
  repeat kaf_suf
  refine forI (l := mvs gs y true) (fun j H' => Keep Nil H H' ∧ ∀ p ∈ (mvs gs y true).take j, ((prL gs p x).all fun z => decide (z ∈ ks)) = false) (fun j H' h => h.1.get (fun z => z) l2) none rfl ⟨kk, fun _ h => by simp at h⟩ ?_ ?_
  · rintro j z H2 hz ⟨kk2, lo2⟩
    have zm := List.mem_of_getElem? hz
    obtain ⟨m0, _⟩ := mvs_low go zm
    obtain ⟨n, rfl⟩ := Int.eq_ofNat_of_zero_le m0
    repeat kaf_suf
    refine ⟨rfl, mv, gs, A, Nil, n, x, y, rfl, Al.nil, M.same kk2, cly _ _ zm, Ax, go, few, fun H3 v k3 rv => ?_⟩
    repeat kaf_suf
    refine ⟨rfl, v, L, _, ks, kvs, rfl, rv, rk (kk2.trans k3), ke, _, rfl, ?_⟩
    refine r_iteB (fun hb => ?_) (fun hb => ?_)
    · repeat kaf_suf
      have := k _ (kk2.trans k3)
      rw [show pbF gs ks x y = true by
        unfold pbF
        rw [Bool.or_eq_true]
        exact .inr (List.any_eq_true.mpr ⟨_, zm, hb⟩)] at this
      exact this
    · repeat kaf_suf
      exact ⟨_, rfl, kk2.trans k3, take_snoc hz lo2 hb⟩
  intro o2 H2 ⟨kk2, lo2⟩
  rw [List.take_length] at lo2
  have := k _ kk2
  rw [show pbF gs ks x y = false by
    unfold pbF
    rw [Bool.or_eq_false_iff]
    exact ⟨List.any_eq_false.mpr fun m hm => by rw [Int.toNat_natCast] at hm; rw [lo m hm]; simp, List.any_eq_false.mpr fun m hm => by rw [Int.toNat_natCast] at hm; rw [lo2 m hm]; simp⟩] at this
  repeat kaf_suf
  exact this
theorem cal_pair_bars {c : Cn} {mg : Str → Option Value} {base : Heap} (T : Txt c mg) : Cal c.P c.w c.K mg base CX0 2 "pair_bars" (sp_pair_bars c) := by
  obtain ⟨f, fd, F, g, b⟩ := T.F_pair_bars
  exact ⟨f, fd, ["moves", "listed", "x", "y"], F.ok (k := 1) (N := N_pair_bars) sc_pair_bars (fun vs H Q E h => h.1) (fun cdv A outer s H vs Q E hr h => ⟨t_pair_bars c, by
  exact (pss_cons (ps_for PassesOwn.never rfl (pi_any (pe_ix (x_ix (hu64 hr)) (pe_ix (x_ix (hu64 hr)) (pv 0) (pv 2) (fun _ _ => rfl)) pe_int (fun _ _ => rfl))) (pg_name (i := 4) sc_pair_bars.nd rfl (Or.inl rfl))
  (pss_one (ps_if (p_tru (e_call (cal_all_in T) hr (by decide) pass0 rfl (pa_cons (e_call (cal_pairs_right T) hr (by decide) pass0 rfl (pa_cons (pv 0) (pa_cons (pv 4) (pa_cons (pv 2) (pa_cons (pv 3) pa_nil))))) (pa_cons (pv 1) pa_nil)))) (pss_one (ps_ret pe_bl)) pss_nil)))
  (pss_cons (ps_for PassesOwn.never rfl (pi_any (pe_ix (x_ix (hu64 hr)) (pe_ix (x_ix (hu64 hr)) (pv 0) (pv 3) (fun _ _ => rfl)) pe_int (fun _ _ => rfl))) (pg_name (i := 5) sc_pair_bars.nd rfl (Or.inl rfl))
  (pss_one (ps_if (p_tru (e_call (cal_all_in T) hr (by decide) pass0 rfl (pa_cons (e_call (cal_pairs_left T) hr (by decide) pass0 rfl (pa_cons (pv 0) (pa_cons (pv 5) (pa_cons (pv 2) (pa_cons (pv 3) pa_nil))))) (pa_cons (pv 1) pa_nil)))) (pss_one (ps_ret pe_bl)) pss_nil)))
  (pss_one (ps_ret pe_bl)))), p_pair_bars T h⟩), g, F.kp, b⟩
abbrev N_is_game : List Str := ["book", "number"]
theorem sc_is_game : FnScope N_is_game ["book", "number"] (defScope s_is_game) := ⟨rfl, rfl, rfl, by decide +kernel, rfl, by decide +kernel, by decide +kernel⟩
def t_is_game (c : Cn) : TS :=
  (tRet (tAndV (tCB (rIsi c.K) (tCons (tVar 1) (tCons (tC (.ty "int")) tNil))) (tAndV (tNotV (tCB (rIsi c.K) (tCons (tVar 1) (tCons (tC (.ty "bool")) tNil)))) (tChain cLe (cLt c.K) (tC (.int 0)) (tVar 1) (tMeth c.cBook "many" (sp_Book_many c) [] E0 (tVar 0) tNil)))))
def sp_is_game (c : Cn) : Sp := fun vs H Q E => vs.length = 2 ∧ ∃ (b : Addr) (M : Addr → Prop) (gs : List Gm) (ds : List Int) (n : Int), vs = [.ref b, .int n] ∧ BookAt c H b M gs ds ∧ Q (.bl (decide (0 ≤ n ∧ n < gs.length))) H
theorem p_is_game {c : Cn} {mg : Str → Option Value} (T : Txt c mg) {vs : List V} {H : Hp} {Q : VK} {E : XK} (h : sp_is_game c vs H Q E) : t_is_game c { nx := fun _ H' => Q .non H', rt := Q } (start N_is_game vs) H := by
  obtain ⟨_, b, M, gs, ds, n, rfl, B, k⟩ := h
  obtain ⟨bx, bm, bn, bd, hb⟩ := B.ins_
  unfold t_is_game
  repeat kaf_suf
  refine r_ite (fun h0 => ?_) (fun h0 => ?_)
  · repeat kaf_suf
    refine ⟨rfl, b, M, gs, ds, rfl, B, ?_⟩
    repeat kaf_suf
    rw [show decide (n < (gs.length : Int)) = decide (0 ≤ n ∧ n < gs.length) by by_cases h : n < (gs.length : Int) <;> simp [h, h0]]
    exact k
  · rw [show decide (0 ≤ n ∧ n < (gs.length : Int)) = false from decide_eq_false fun z => h0 z.1] at k
    exact k
theorem cal_is_game {c : Cn} {mg : Str → Option Value} {base : Heap} (T : Txt c mg) : Cal c.P c.w c.K mg base CX0 2 "is_game" (sp_is_game c) := by
  obtain ⟨f, fd, F, g, b⟩ := T.F_is_game
  exact ⟨f, fd, ["book", "number"], F.ok (k := 1) (N := N_is_game) sc_is_game (fun vs H Q E h => h.1) (fun cdv A outer s H vs Q E hr h => ⟨t_is_game c, by
  exact (pss_one (ps_ret (pe_and (pe_callB k_isi (by rfl) T.n_isinstance (by decide +kernel) (pa_cons (pv 1) (pa_cons (pe_bltn rfl T.n_int (by decide +kernel) rfl) pa_nil))) (pe_and (pe_not (pe_callB k_isi (by rfl) T.n_isinstance (by decide +kernel) (pa_cons (pv 1) (pa_cons (pe_bltn rfl T.n_bool (by decide +kernel) rfl) pa_nil)))) (pe_one (pe_chain o_le (o_lt (hu64 hr)) pe_int (pv 1) (e_meth0 (met_Book_many T) hr (by decide) pass0 (pv 0)))))))), p_is_game T h⟩), g, F.kp, b⟩

/-! shows -/
theorem keysI_old {kvs : List KX} {ks : List Int} (e : kvs.map (·.1) = ks.map Sum.inl) {z : Int} {v : V} (h : z ∈ ks) : (putK kvs (.inl z) v).map (·.1) = ks.map Sum.inl := by
  unfold putK
  have : (kvs.any fun kv => decide (kv.1 = (Sum.inl z : Key))) = true := by
    rw [valV_any, keysM e, decide_eq_true h]
  rw [if_pos this, List.map_map, ← e]
  exact List.map_congr_left fun kv _ => by
    show (if kv.1 = Sum.inl z then (kv.1, v) else kv).1 = kv.1
    split <;> rfl
theorem keysI_new {kvs : List KX} {ks : List Int} (e : kvs.map (·.1) = ks.map Sum.inl) {z : Int} {v : V} (h : z ∉ ks) : (putK kvs (.inl z) v).map (·.1) = (ks ++ [z]).map Sum.inl := by
  have hn : valV kvs (.inl z) = none := by
    have := keysM e z
    rw [decide_eq_false h] at this
    cases q : valV kvs (.inl z) with
    | none => rfl
    | some v => rw [q] at this; cases this
  rw [putK_new hn, List.map_append, List.map_append, e]; rfl
theorem keysI_put {kvs : List KX} {ks : List Int} (e : kvs.map (·.1) = ks.map Sum.inl) {z : Int} {v : V} : ∃ ks' : List Int, (putK kvs (.inl z) v).map (·.1) = ks'.map Sum.inl ∧ (∀ y, y ∈ ks' ↔ y ∈ ks ∨ y = z) ∧ ks'.length ≤ ks.length + 1 ∧ (ks.Nodup → ks'.Nodup) := by
  by_cases h : z ∈ ks
  · exact ⟨ks, keysI_old e h, fun y => ⟨.inl, fun q => q.elim (fun q => q) fun q => q ▸ h⟩, by omega, fun q => q⟩
  · exact ⟨ks ++ [z], keysI_new e h, fun y => by simp, by simp, fun nd => List.nodup_append.mpr ⟨nd, by simp, fun x hx y hy => by cases List.mem_singleton.mp hy; exact fun q => h (q ▸ hx)⟩⟩
/-- what a paper's checker looks at -/
def Near (gs : List Gm) (x n : Int) : Prop := n = x ∨ ∃ s, n ∈ mvs gs x.toNat s
def Arnd (gs : List Gm) (ks : List (Int × Int)) (g : Nat) : Prop := ∃ z ∈ ks, Near gs z.1 g ∨ Near gs z.2 g
theorem bookLock {c : Cn} {H : Hp} {b d : Addr} {M : Addr → Prop} {gs : List Gm} {ds : List Int} {kvs : List TX} {o : HO} (B : BookAt c H b M gs ds) (e : H d = some (.dT kvs)) : BookAt c (upd H d o) b M gs ds :=
  B.keepY (N := fun x => x = d) (Keep.refl.set rfl) (fun x h => by subst h; exact ⟨(fun l z => by rw [e] at z; cases z), (fun _ _ l z => by rw [e] at z; cases z)⟩) fun x h z => by
    subst z
    rcases B.cell h with ⟨l, q⟩ | ⟨l, q⟩ <;> rw [e] at q <;> cases q
theorem mvLock {W : Addr → Prop} {H : Hp} {mv d : Addr} {gs : List Gm} {A : Nat → Prop} {kvs : List TX} {o : HO} (M : MvW W H mv gs A) (e : H d = some (.dT kvs)) : MvW W (upd H d o) mv gs A :=
  M.keep (N := fun x => x = d) (Keep.refl.set rfl) fun x h => by subst h; exact ⟨(fun l z => by rw [e] at z; cases z), (fun l z => by rw [e] at z; cases z), (fun l z => by rw [e] at z; cases z)⟩
abbrev N_moves_around : List Str := ["book", "listed", "games", "x", "y", "here", "move"]
theorem sc_moves_around : FnScope N_moves_around ["book", "listed"] (defScope s_moves_around) := ⟨rfl, rfl, rfl, by decide +kernel, rfl, by decide +kernel, by decide +kernel⟩
def t_moves_around (c : Cn) : TS :=
  (tSeq (tAsg (uDNew c.P c.w) (gName 2))
  (tSeq (tLock (tFor (iKeys (tVar 1)) (gSeq c.K 2 (gCons (gName 3) (gCons (gName 4) gNil)))
  (tFor (iAny c.K (tLst (tCons (tVar 3) (tCons (tVar 4) tNil)))) (gName 5)
  (tFor (iAny c.K (tOp (bAdd c.K) (tOp (bAdd c.K) (tLst (tCons (tVar 5) tNil)) (tMeth c.cBook "lefts" (sp_Book_lefts c) [] E0 (tVar 0) (tCons (tVar 5) tNil))) (tMeth c.cBook "rights" (sp_Book_rights c) [] E0 (tVar 0) (tCons (tVar 5) tNil)))) (gName 6)
  (tAsg (tC (.bl true)) (gSub (tVar 2) (tVar 6) (bSet c.P c.w)))))))
  (tRet (tCall (sp_moves_by c) [] E0 (tCons (tVar 0) (tCons (tCB (kSorted c.K c.w) (tCons (tVar 2) tNil)) tNil))))))
def sp_moves_around (c : Cn) : Sp := fun vs H Q E => vs.length = 2 ∧ ∃ (b L : Addr) (M : Addr → Prop) (gs : List Gm) (ds : List Int) (ks : List (Int × Int)) (kvs : List TX), vs = [.ref b, .ref L] ∧ BookAt c H b M gs ds ∧ H L = some (.dT kvs) ∧ kvs.map (·.1) = ks.map pk ∧ (∀ z ∈ ks, (0 ≤ z.1 ∧ z.1 < gs.length) ∧ 0 ≤ z.2 ∧ z.2 < gs.length) ∧ gs.length ≤ 40000 ∧
  ∀ (H' : Hp) (p : Addr), Keep Nil H H' → H p = none → MvAt H' p gs (Arnd gs ks) → Q (.ref p) H'
theorem p_moves_around {c : Cn} {mg : Str → Option Value} (T : Txt c mg) {vs : List V} {H : Hp} {Q : VK} {E : XK} (h : sp_moves_around c vs H Q E) : t_moves_around c { nx := fun _ H' => Q .non H', rt := Q } (start N_moves_around vs) H := by
  obtain ⟨_, b, L, M, gs, ds, ks, kvs, rfl, B, eL, ke, R, few, k⟩ := h
  have go := B.ok
  unfold t_moves_around
  repeat kaf_suf
  refine .inl ⟨true, fun gd hgd => ?_⟩
  rw [if_pos rfl]
  have nLg : L ≠ gd := ne_old hgd eL
  have k0 : Keep Nil H (upd H gd (.dK [])) := Keep.alloc hgd
  have eL0 := k0.get (fun z => z) eL
  have eg0 : (upd H gd (.dK [])) gd = some (.dK []) := upd_same
  have B0 := B.same k0
  generalize upd H gd (.dK []) = H0 at k0 eL0 eg0 B0 ⊢
  repeat kaf_suf
  refine ⟨L, _, eL0, trivial, fun od => ?_⟩
  have egL := get_set (u := .frz od (.dT kvs)) nLg.symm eg0
  have BL := bookLock (o := .frz od (.dT kvs)) B0 eL0
  have eLL : (upd H0 L (.frz od (.dT kvs))) L = some (.frz od (.dT kvs)) := upd_same
  generalize hHL : upd H0 L (.frz od (.dT kvs)) = HL at egL BL eLL ⊢
  have egK := egL
  have lim : ∀ gk : List Int, gk.Nodup → (∀ z ∈ gk, 0 ≤ z ∧ z < gs.length) → gk.length ≤ 40000 := fun gk nd h => by
    have := keys_bound (g := gs.length) nd fun z hz => by have := h z hz; omega
    have := nodup_le gk ((List.range gs.length).map Int.ofNat) nd fun z hz => by
      have := h z hz
      exact List.mem_map.mpr ⟨z.toNat, List.mem_range.mpr (by omega), by show ((z.toNat : Nat) : Int) = z; omega⟩
    rw [List.length_map, List.length_range] at this
    omega
  refine r_for (r_ikeysT (r_var rfl ⟨L, od, rfl, .inr ⟨kvs, eLL, ?_⟩⟩))
  refine forT ke (fun j σ H' => ∃ (x3 x4 x5 x6 : Option V) (gk : List Int) (kvg : List KX), σ = [some (.ref b), some (.ref L), some (.ref gd), x3, x4, x5, x6] ∧ Keep (fun x => x = gd) HL H' ∧ H' gd = some (.dK kvg) ∧ kvg.map (·.1) = gk.map Sum.inl ∧ gk.Nodup ∧ (∀ z ∈ gk, 0 ≤ z ∧ z < gs.length) ∧ ∀ z ∈ ks.take j, ∀ n, Near gs z.1 n ∨ Near gs z.2 n → n ∈ gk) ⟨_, _, _, _, [], _, rfl, Keep.refl, egL, rfl, by simp, (fun _ h => nomatch h), fun _ h => by simp at h⟩ ?_ ?_ ?_
  · rintro j σ H' ⟨_, _, _, _, _, _, _, kk, _⟩
    exact kk _ _ nLg eLL
  · rintro j z q σ H1 hz ⟨x3, x4, x5, x6, gk, kvg, rfl, k1, eg1, kg, nd, rg, cov⟩ hq
    have zm := List.mem_of_getElem? hz
    obtain ⟨⟨a0, a1⟩, b0, b1⟩ := R z zm
    refine r_seqT hq rfl (r_gcons ?_)
    repeat kaf_suf
    refine r_gcons ?_
    repeat kaf_suf
    refine r_gnil ?_
    repeat kaf_suf
    intro la hla
    have kA : Keep Nil H1 (upd H1 la (.lst [.int z.1, .int z.2])) := Keep.alloc hla
    have ela : (upd H1 la (.lst [.int z.1, .int z.2])) la = some (.lst ([z.1, z.2].map V.int)) := upd_same
    have eg2 := kA.get (fun z => z) eg1
    have nlg : la ≠ gd := ne_new hla eg1
    have k2 := k1.trans kA.weak
    generalize upd H1 la (.lst [.int z.1, .int z.2]) = H2 at kA ela eg2 k2 ⊢
    clear kA hla k1 eg1 egL
    repeat kaf_suf
    refine forI2 (k := 6) (l := [z.1, z.2]) (fun i H' => ∃ (gk' : List Int) (kvg' : List KX), Keep (fun x => x = gd) HL H' ∧ H' la = some (.lst ([z.1, z.2].map V.int)) ∧ H' gd = some (.dK kvg') ∧ kvg'.map (·.1) = gk'.map Sum.inl ∧ gk'.Nodup ∧ (∀ z ∈ gk', 0 ≤ z ∧ z < gs.length) ∧ (∀ n ∈ gk, n ∈ gk') ∧ ∀ x ∈ [z.1, z.2].take i, ∀ n, Near gs x n → n ∈ gk') (fun _ _ ⟨_, _, _, h, _⟩ => h) _ _ rfl (by decide) ⟨gk, kvg, k2, ela, eg2, kg, nd, rg, fun _ h => h, fun _ h => by simp at h⟩ ?_ ?_
    · rintro i x H3 p hx ⟨gk', kvg', k3, ela3, eg3, kg', nd', rg', sub, cov'⟩
      clear k2 ela eg2 kg
      have xr : 0 ≤ x ∧ x < gs.length := by
        have := List.mem_of_getElem? hx
        simp only [List.mem_cons, List.not_mem_nil, or_false] at this
        rcases this with rfl | rfl
        · exact ⟨a0, a1⟩
        · exact ⟨b0, b1⟩
      obtain ⟨xn, rfl⟩ := Int.eq_ofNat_of_zero_le xr.1
      obtain ⟨gm, hg⟩ : ∃ g, gs[xn]? = some g := ⟨_, List.getElem?_eq_getElem (by omega)⟩
      have emz : ∀ s, mvs gs xn s = if s then gm.1 else gm.2 := fun s => by unfold mvs; rw [hg]
      have low := go.low xn gm hg
      have up := go.up gm (List.mem_of_getElem? hg)
      have n1 := up_len _ 0 gs.length up.1 (fun m hm => by have := low m (List.mem_append_left _ hm); omega) (by omega)
      have n2 := up_len _ 0 gs.length up.2 (fun m hm => by have := low m (List.mem_append_right _ hm); omega) (by omega)
      have B3 : BookAt c H3 b M gs ds := BL.keepY k3 (fun x e => by subst e; exact ⟨(fun l z => by rw [egK] at z; cases z), (fun _ _ l z => by rw [egK] at z; cases z)⟩) fun x h e => by
        subst e
        rcases BL.cell h with ⟨l, q⟩ | ⟨l, q⟩ <;> rw [egK] at q <;> cases q
      obtain ⟨bx, bm, bn, bd, hb⟩ := B3.ins_
      repeat kaf_suf
      intro r0 hr0
      have kr0 : Keep Nil H3 (upd H3 r0 (.lst [.int xn])) := Keep.alloc hr0
      have hb0 := kr0.get (fun z => z) hb
      repeat kaf_suf
      refine ⟨rfl, b, M, gs, ds, xn, gm, rfl, B3.same kr0, hg, fun r1 hr1 => ?_⟩
      repeat kaf_suf
      intro r2 hr2
      have kr2 := (kr0.new (o := .lst (gm.1.map V.int)) hr1).new (o := .lst ([V.int xn] ++ gm.1.map V.int)) hr2
      have hb2 := kr2.get (fun z => z) hb
      have er2 : (upd (upd (upd H3 r0 (.lst [.int xn])) r1 (.lst (gm.1.map V.int))) r2 (.lst ([V.int xn] ++ gm.1.map V.int))) r2 = some (.lst ((xn :: gm.1 : List Int).map V.int)) := upd_same
      generalize upd (upd (upd H3 r0 (.lst [.int xn])) r1 (.lst (gm.1.map V.int))) r2 (.lst ([V.int xn] ++ gm.1.map V.int)) = H4 at kr2 hb2 er2 ⊢
      clear hr0 hr1 hr2 kr0 hb0
      repeat kaf_suf
      refine ⟨rfl, b, M, gs, ds, xn, gm, rfl, B3.same kr2, hg, fun r3 hr3 => ?_⟩
      repeat kaf_suf
      intro r4 hr4
      have kr4 := (kr2.new (o := .lst (gm.2.map V.int)) hr3).new (o := .lst ((xn :: gm.1 : List Int).map V.int ++ gm.2.map V.int)) hr4
      have er4 : (upd (upd H4 r3 (.lst (gm.2.map V.int))) r4 (.lst ((xn :: gm.1 : List Int).map V.int ++ gm.2.map V.int))) r4 = some (.lst (((xn :: gm.1 : List Int) ++ gm.2).map V.int)) := by rw [List.map_append]; exact upd_same
      have eg4 := kr4.get (fun z => z) eg3
      have ela4 := kr4.get (fun z => z) ela3
      have nr4 : r4 ≠ gd := ne_new hr4 (get_new hr3 (by exact kr2.get (fun z => z) eg3))
      generalize upd (upd H4 r3 (.lst (gm.2.map V.int))) r4 (.lst ((xn :: gm.1 : List Int).map V.int ++ gm.2.map V.int)) = H5 at kr4 er4 eg4 ela4 ⊢
      have k5 := k3.trans kr4.weak
      clear hr3 hr4 kr2 hb2 er2 kr4 eg3 ela3 k3
      repeat kaf_suf
      refine forI (l := (xn :: gm.1 : List Int) ++ gm.2) (fun i H' => ∃ (gk2 : List Int) (kvg2 : List KX), Keep (fun x => x = gd) HL H' ∧ H' r4 = some (.lst (((xn :: gm.1 : List Int) ++ gm.2).map V.int)) ∧ H' la = some (.lst ([z.1, z.2].map V.int)) ∧ H' gd = some (.dK kvg2) ∧ kvg2.map (·.1) = gk2.map Sum.inl ∧ gk2.Nodup ∧ (∀ z ∈ gk2, 0 ≤ z ∧ z < gs.length) ∧ (∀ n ∈ gk', n ∈ gk2) ∧ ∀ n ∈ ((xn :: gm.1 : List Int) ++ gm.2).take i, n ∈ gk2) (fun _ _ ⟨_, _, _, h, _⟩ => h) p (by rw [List.set_set]) ⟨gk', kvg', k5, er4, ela4, eg4, kg', nd', rg', fun _ h => h, fun _ h => by simp at h⟩ ?_ ?_
      · rintro j2 m H6 hm ⟨gk2, kvg2, k6, er6, ela6, eg6, kg2, nd2, rg2, sub2, cov2⟩
        clear k5 er4 ela4 eg4
        have mm := List.mem_of_getElem? hm
        have mr : 0 ≤ m ∧ m < gs.length := by
          rw [List.cons_append] at mm
          rcases List.mem_cons.mp mm with rfl | h
          · exact xr
          · have := low m h; omega
        have kl2 : kvg2.length = gk2.length := by have := congrArg List.length kg2; rw [List.length_map, List.length_map] at this; exact this
        have := lim gk2 nd2 rg2
        repeat kaf_suf
        refine v_setK eg6 (few1 (by omega)) ?_
        obtain ⟨ks', q1, q2, q3, q4⟩ := keysI_put (v := .bl true) kg2 (z := m)
        repeat kaf_suf
        refine ⟨_, rfl, ks', _, k6.set rfl, get_set nr4 er6, get_set nlg ela6, upd_same, q1, q4 nd2, fun z hz => ?_, fun n hn => (q2 n).mpr (.inl (sub2 n hn)), take_snoc hm (fun n hn => (q2 n).mpr (.inl (cov2 n hn))) ((q2 m).mpr (.inr rfl))⟩
        rcases (q2 z).mp hz with h | rfl
        · exact rg2 z h
        · exact mr
      · rintro o H6 ⟨gk2, kvg2, k6, er6, ela6, eg6, kg2, nd2, rg2, sub2, cov2⟩
        rw [List.take_length] at cov2
        repeat kaf_suf
        rw [List.set_set]
        refine ⟨_, _, rfl, gk2, kvg2, k6, ela6, eg6, kg2, nd2, rg2, fun n hn => sub2 n (sub n hn), take_snoc hx (fun x hx n hn => sub2 n (cov' x hx n hn)) fun n hn => ?_⟩
        rcases hn with rfl | ⟨s, hn⟩
        · exact cov2 _ (by simp)
        · rw [Int.toNat_natCast, emz] at hn
          cases s
          · exact cov2 _ (List.mem_append_right _ hn)
          · exact cov2 _ (List.mem_append_left _ (List.mem_cons_of_mem _ hn))
    · rintro o p H3 ⟨gk', kvg', k3, ela3, eg3, kg', nd', rg', sub, cov'⟩
      repeat kaf_suf
      refine ⟨_, _, _, _, gk', kvg', rfl, k3, eg3, kg', nd', rg', take_snoc hz (fun x hx n hn => sub n (cov x hx n hn)) fun n hn => ?_⟩
      rcases hn with h | h
      · exact cov' z.1 (by simp) n h
      · exact cov' z.2 (by simp) n h
  · rintro σ H1 ⟨x3, x4, x5, x6, gk, kvg, rfl, k1, eg1, kg, nd, rg, cov⟩
    rw [List.take_length] at cov
    have kH : Keep Nil H (upd H1 L (.dT kvs)) := by
      have q := lock_keep eL0 (hHL ▸ k1)
      exact (k0.weak.trans q |>.mono (N := fun a => Nil a ∨ a = gd) fun _ h => .inr h).hide hgd
    refine ⟨k1 _ _ nLg eLL, ?_⟩
    have eg2 := get_set (u := .dT kvs) nLg.symm eg1
    have lim2 := lim gk nd rg
    generalize upd H1 L (.dT kvs) = H2 at kH eg2 ⊢
    repeat kaf_suf
    refine v_sortedD eg2 kg fun rs p pr ris hp => ?_
    repeat kaf_suf
    refine ⟨rfl, b, p, M, gs, ds, rs, rfl, (B.same kH).same (Keep.alloc hp), upd_same, fun z hz => rg z (pr.mem_iff.mp hz), by rw [pr.length_eq]; omega, fun H3 p3 k3 hp3 Mv => ?_⟩
    refine k _ _ ((kH.new hp).trans k3) (keep_none (kH.new hp) hp3) ?_
    obtain ⟨kv, e, hk⟩ := Mv
    exact ⟨kv, e, fun g ⟨z, hz, hn⟩ => hk g (pr.mem_iff.mpr (cov z hz _ hn))⟩
theorem cal_moves_around {c : Cn} {mg : Str → Option Value} {base : Heap} (T : Txt c mg) : Cal c.P c.w c.K mg base CX0 4 "moves_around" (sp_moves_around c) := by
  obtain ⟨f, fd, F, g, b⟩ := T.F_moves_around
  exact ⟨f, fd, ["book", "listed"], F.ok (k := 3) (N := N_moves_around) sc_moves_around (fun vs H Q E h => h.1) (fun cdv A outer s H vs Q E hr h => ⟨t_moves_around c, by
  exact (pss_cons (ps_set (i := 2) sc_moves_around.nd rfl (Or.inl rfl) pe_dnew)
  (pss_cons (ps_lock (ps_for PassesOwn.never rfl (pi_keys (pv 1)) (g_seq rfl (pgs_cons (pg_name (i := 3) sc_moves_around.nd rfl (Or.inl rfl)) (pgs_cons (pg_name (i := 4) sc_moves_around.nd rfl (Or.inl rfl)) pgs_nil)))
  (pss_one (ps_for PassesOwn.never rfl (pi_any (pe_lst (pa_cons (pv 3) (pa_cons (pv 4) pa_nil)))) (pg_name (i := 5) sc_moves_around.nd rfl (Or.inl rfl))
  (pss_one (ps_for PassesOwn.never rfl (pi_any (pe_op o_add (pe_op o_add (pe_lst (pa_cons (pv 5) pa_nil)) (e_meth (met_Book_lefts T) hr (by decide) pass0 (pv 0) (pa_cons (pv 5) pa_nil))) (e_meth (met_Book_rights T) hr (by decide) pass0 (pv 0) (pa_cons (pv 5) pa_nil)))) (pg_name (i := 6) sc_moves_around.nd rfl (Or.inl rfl))
  (pss_one (ps_asg pe_bl (pg_sub (pv 2) (pv 6) (s_set (hu64 hr)))))))))))
  (pss_one (ps_ret (e_call (cal_moves_by T) hr (by decide) pass0 rfl (pa_cons (pv 0) (pa_cons (pe_callB (k_sorted rfl) (by rfl) T.n_sorted (by decide +kernel) (pa_cons (pv 2) pa_nil)) pa_nil))))))), p_moves_around T h⟩), g, F.kp, b⟩
def shF (gs : List Gm) (ks : List (Int × Int)) (g h : Nat) (w : Str) : Bool := decide ((∀ z ∈ ks, (0 ≤ z.1 ∧ z.1 < gs.length) ∧ 0 ≤ z.2 ∧ z.2 < gs.length) ∧ ((g : Int), (h : Int)) ∈ ks ∧ ((w = "holds" ∧ ∀ z ∈ ks, phF gs (fun x y => decide ((x, y) ∈ ks)) z.1 z.2 = true) ∨ (w = "bars" ∧ ∀ z ∈ ks, pbF gs ks z.1 z.2 = true)))
theorem keysT_put' {kvs : List TX} {ks : List (Int × Int)} (e : kvs.map (·.1) = ks.map pk) {z : Int × Int} {v : V} : ∃ ks' : List (Int × Int), (putK kvs (pk z) v).map (·.1) = ks'.map pk ∧ (∀ y, y ∈ ks' ↔ y ∈ ks ∨ y = z) ∧ ks'.length ≤ ks.length + 1 := by
  by_cases h : z ∈ ks
  · refine ⟨ks, ?_, fun y => ⟨.inl, fun q => q.elim (fun q => q) fun q => q ▸ h⟩, by omega⟩
    unfold putK
    have : (kvs.any fun kv => decide (kv.1 = pk z)) = true := by
      rw [valV_any, keysT e, decide_eq_true h]
    rw [if_pos this, List.map_map, ← e]
    exact List.map_congr_left fun kv _ => by
      show (if kv.1 = pk z then (kv.1, v) else kv).1 = kv.1
      split <;> rfl
  · exact ⟨ks ++ [z], keysT_put e h, fun y => by simp, by simp⟩
theorem pbF_eq {gs : List Gm} {ks ps : List (Int × Int)} (h : ∀ z, z ∈ ks ↔ z ∈ ps) (x y : Int) : pbF gs ks x y = pbF gs ps x y := by
  unfold pbF
  have e : (fun z : Int × Int => decide (z ∈ ks)) = fun z => decide (z ∈ ps) := by funext z; rw [decide_eq_decide]; exact h z
  rw [e]
theorem phF_eq {gs : List Gm} {ks ps : List (Int × Int)} (h : ∀ z, z ∈ ks ↔ z ∈ ps) (x y : Int) : phF gs (fun x y => decide ((x, y) ∈ ks)) x y = phF gs (fun x y => decide ((x, y) ∈ ps)) x y := by
  have e : (fun x y : Int => decide ((x, y) ∈ ks)) = fun x y => decide ((x, y) ∈ ps) := by funext x y; rw [decide_eq_decide]; exact h (x, y)
  rw [e]
abbrev N_shows : List Str := ["book", "g", "h", "answer", "word", "pairs", "listed", "x", "y", "moves"]
theorem sc_shows : FnScope N_shows ["book", "g", "h", "answer"] (defScope s_shows) := ⟨rfl, rfl, rfl, by decide +kernel, rfl, by decide +kernel, by decide +kernel⟩
def t_shows (c : Cn) : TS :=
  (tSeq (tDrop (tMeth c.cBook "depth" (sp_Book_depth c) [] E0 (tVar 0) (tCons (tVar 1) tNil)))
  (tSeq (tDrop (tMeth c.cBook "depth" (sp_Book_depth c) [] E0 (tVar 0) (tCons (tVar 2) tNil)))
  (tSeq (tAsg (tVar 3) (gSeq c.K 2 (gCons (gName 4) (gCons (gName 5) gNil))))
  (tSeq (tAsg (uDNew c.P c.w) (gName 6))
  (tSeq (tFor (iAny c.K (tVar 5)) (gSeq c.K 2 (gCons (gName 7) (gCons (gName 8) gNil)))
  (tSeq (tIfS (tOr (tNot (tTru c.K (tCall (sp_is_game c) [] E0 (tCons (tVar 0) (tCons (tVar 7) tNil))))) (tNot (tTru c.K (tCall (sp_is_game c) [] E0 (tCons (tVar 0) (tCons (tVar 8) tNil))))))
  (tRet (tC (.bl false)))
  tNext)
  (tAsg (tC (.bl true)) (gSub (tVar 6) (tTup (tCons (tVar 7) (tCons (tVar 8) tNil))) (bSet c.P c.w)))))
  (tSeq (tIfS (tOr (tTest (tOp (cNotIn c.P c.w c.K) (tTup (tCons (tVar 1) (tCons (tVar 2) tNil))) (tVar 6))) (tTest (tOp (cNotIn c.P c.w c.K) (tVar 4) (tTup (tCons (tC (.str "holds")) (tCons (tC (.str "bars")) tNil))))))
  (tRet (tC (.bl false)))
  tNext)
  (tSeq (tAsg (tCall (sp_moves_around c) [] E0 (tCons (tVar 0) (tCons (tVar 6) tNil))) (gName 9))
  (tSeq (tLock (tFor (iKeys (tVar 6)) (gSeq c.K 2 (gCons (gName 7) (gCons (gName 8) gNil)))
  (tSeq (tIfS (tAnd (tTest (tOp (cEq c.K) (tVar 4) (tC (.str "holds")))) (tNot (tTru c.K (tCall (sp_pair_holds c) [] E0 (tCons (tVar 9) (tCons (tVar 6) (tCons (tVar 7) (tCons (tVar 8) tNil))))))))
  (tRet (tC (.bl false)))
  tNext)
  (tIfS (tAnd (tTest (tOp (cEq c.K) (tVar 4) (tC (.str "bars")))) (tNot (tTru c.K (tCall (sp_pair_bars c) [] E0 (tCons (tVar 9) (tCons (tVar 6) (tCons (tVar 7) (tCons (tVar 8) tNil))))))))
  (tRet (tC (.bl false)))
  tNext))))
  (tRet (tC (.bl true)))))))))))
def sp_shows (c : Cn) : Sp := fun vs H Q E => vs.length = 4 ∧ ∃ (b : Addr) (M : Addr → Prop) (gs : List Gm) (ds : List Int) (g h : Nat) (a : V) (w : Str) (ps : List (Int × Int)), vs = [.ref b, .int g, .int h, a] ∧ BookAt c H b M gs ds ∧ g < gs.length ∧ h < gs.length ∧ gs.length ≤ 40000 ∧ Rp Nil H a (.tuple [.str w, .list (ps.map prD)]) ∧ ps.length ≤ 90000 ∧
  ∀ (H' : Hp), Keep Nil H H' → Q (.bl (shF gs ps g h w)) H'
theorem p_shows {c : Cn} {mg : Str → Option Value} (T : Txt c mg) {vs : List V} {H : Hp} {Q : VK} {E : XK} (h : sp_shows c vs H Q E) : t_shows c { nx := fun _ H' => Q .non H', rt := Q } (start N_shows vs) H := by
  obtain ⟨_, b, M, gs, ds, g, h, a, w, ps, rfl, B, hg, hh, few, ra, few2, k⟩ := h
  have go := B.ok
  have hdl := B.dok.len
  obtain ⟨dg, hdg⟩ : ∃ v, ds[g]? = some v := ⟨_, List.getElem?_eq_getElem (by omega)⟩
  obtain ⟨dh, hdh⟩ : ∃ v, ds[h]? = some v := ⟨_, List.getElem?_eq_getElem (by omega)⟩
  obtain ⟨a0, xw, xl, rfl, ea, _, rw_, rl⟩ := ra.two
  cases rw_.str_
  obtain ⟨la, us, rfl, ela, _, rus⟩ := rl.list_
  have ul := rus.len
  rw [List.length_map] at ul
  obtain ⟨bx, bm, bn, bd, hb⟩ := B.ins_
  unfold t_shows
  repeat kaf_suf
  refine ⟨rfl, b, M, gs, ds, g, dg, rfl, B, hdg, ?_⟩
  repeat kaf_suf
  refine ⟨rfl, b, M, gs, ds, h, dh, rfl, B, hdh, ?_⟩
  repeat kaf_suf
  refine r_seqT ea rfl (r_gcons ?_)
  repeat kaf_suf
  refine r_gcons ?_
  repeat kaf_suf
  refine r_gnil ?_
  repeat kaf_suf
  refine .inr fun ld hld => ?_
  have k0 : Keep Nil H (upd H ld (.dT [])) := Keep.alloc hld
  have el0 : (upd H ld (.dT [])) ld = some (.dT []) := upd_same
  generalize upd H ld (.dT []) = H0 at k0 el0 ⊢
  repeat kaf_suf
  refine for_list (xs := us) (fun j σ H' => ∃ (x7 x8 : Option V) (ks : List (Int × Int)) (kvs : List TX), σ = [some (.ref b), some (.int g), some (.int h), some (.ref a0), some (.str w), some (.ref la), some (.ref ld), x7, x8, none] ∧ Keep Nil H H' ∧ H' ld = some (.dT kvs) ∧ kvs.map (·.1) = ks.map pk ∧ TrV kvs ∧ ks.length ≤ j ∧ (∀ z, z ∈ ks ↔ z ∈ ps.take j) ∧ ∀ z ∈ ps.take j, (0 ≤ z.1 ∧ z.1 < gs.length) ∧ 0 ≤ z.2 ∧ z.2 < gs.length) ⟨_, _, [], [], rfl, k0, el0, rfl, TrV.nil, by simp, fun z => by simp, fun z h => by simp at h⟩ ?_ ?_ ?_
  · rintro j σ H' _ ⟨_, _, _, _, _, kk, _⟩; exact SqL.of (kk.get (fun z => z) ela)
  · rintro j x σ H1 hj ⟨x7, x8, ks, kvs, rfl, k1, el1, ke, tv, kl, mem, rg⟩
    obtain ⟨dd, hd, rx⟩ := rus.at' hj
    rw [List.getElem?_map] at hd
    obtain ⟨z, hz, rfl⟩ := Option.map_eq_some_iff.mp hd
    obtain ⟨t, rfl, ht, _⟩ := prD_ rx
    have ht1 := k1.get (fun z => z) ht
    have B1 := B.same k1
    have jl := (List.getElem?_eq_some_iff.mp hz).1
    have bad : ¬ ((0 ≤ z.1 ∧ z.1 < gs.length) ∧ 0 ≤ z.2 ∧ z.2 < gs.length) → Q (.bl false) H1 := fun n => by
      have := k _ k1
      rw [show shF gs ps g h w = false from decide_eq_false fun q => n (q.1 z (List.mem_of_getElem? hz))] at this
      exact this
    refine r_seqT ht1 rfl (r_gcons ?_)
    repeat kaf_suf
    refine r_gcons ?_
    repeat kaf_suf
    refine r_gnil ?_
    repeat kaf_suf
    refine ⟨rfl, b, M, gs, ds, z.1, rfl, B1, _, rfl, ?_⟩
    by_cases h1 : 0 ≤ z.1 ∧ z.1 < gs.length
    · rw [decide_eq_true h1]
      repeat kaf_suf
      refine ⟨rfl, b, M, gs, ds, z.2, rfl, B1, _, rfl, ?_⟩
      by_cases h2 : 0 ≤ z.2 ∧ z.2 < gs.length
      · rw [decide_eq_true h2]
        repeat kaf_suf
        intro t2 ht2
        have k2 : Keep Nil H1 (upd H1 t2 (.tup [.int z.1, .int z.2])) := Keep.alloc ht2
        obtain ⟨ks', q1, q2, q3⟩ := keysT_put' (v := .bl true) ke (z := z)
        have kvl : kvs.length = ks.length := by have := congrArg List.length ke; rw [List.length_map, List.length_map] at this; exact this
        repeat kaf_suf
        refine v_setT (z := z) (k2.get (fun z => z) el1) upd_same (few1 (by omega)) ?_
        repeat kaf_suf
        refine ⟨_, _, ks', _, rfl, (k1.trans k2).setN hld, upd_same, q1, tv.put, by omega, fun y => ?_, take_snoc hz rg ⟨h1, h2⟩⟩
        rw [q2, mem, List.take_succ, hz, List.mem_append]
        simp
      · rw [decide_eq_false h2]
        repeat kaf_suf
        exact bad fun q => h2 q.2
    · rw [decide_eq_false h1]
      repeat kaf_suf
      exact bad fun q => h1 q.1
  rintro σ H1 ⟨x7, x8, ks, kvs, rfl, k1, el1, ke, tv, kl, mem, rg⟩
  rw [ul, List.take_length] at mem rg
  clear el0 k0
  have rgk : ∀ z ∈ ks, (0 ≤ z.1 ∧ z.1 < gs.length) ∧ 0 ≤ z.2 ∧ z.2 < gs.length := fun z hz => rg z ((mem z).mp hz)
  repeat kaf_suf
  intro t hm
  have k2 := k1.new (o := .tup [.int g, .int h]) hm
  have el2 := get_new (u := .tup [.int g, .int h]) hm el1
  repeat kaf_suf
  refine v_ninT (z := ((g : Int), (h : Int))) (.inl el2) ke upd_same ?_
  by_cases hin : ((g : Int), (h : Int)) ∈ ks
  rotate_left
  · rw [decide_eq_false hin]
    repeat kaf_suf
    have := k _ k2
    rw [show shF gs ps g h w = false from decide_eq_false fun q => hin ((mem _).mpr q.2.1)] at this
    exact this
  rw [decide_eq_true hin]
  generalize upd H1 t (.tup [.int g, .int h]) = H2 at k2 el2 ⊢
  clear hm k1 el1
  repeat kaf_suf
  intro t2 ht2
  have k3 := k2.new (o := .tup [.str "holds", .str "bars"]) ht2
  have el3 := get_new (u := .tup [.str "holds", .str "bars"]) ht2 el2
  repeat kaf_suf
  refine v_ninSt (os := ["holds", "bars"]) upd_same ?_
  by_cases hwd : w ∈ (["holds", "bars"] : List Str)
  rotate_left
  · rw [decide_eq_false hwd]
    repeat kaf_suf
    have := k _ k3
    rw [show shF gs ps g h w = false from decide_eq_false fun q => hwd (by rcases q.2.2 with ⟨e, _⟩ | ⟨e, _⟩ <;> rw [e] <;> simp)] at this
    exact this
  rw [decide_eq_true hwd]
  generalize upd H2 t2 (.tup [.str "holds", .str "bars"]) = H3 at k3 el3 ⊢
  clear ht2 k2 el2
  repeat kaf_suf
  refine ⟨rfl, b, ld, M, gs, ds, ks, kvs, rfl, B.same k3, el3, ke, rgk, few, fun H4 mv k4 hmv Mv => ?_⟩
  have k04 := k3.trans k4
  have el4 := k4.get (fun z => z) el3
  clear k3 el3 k4
  repeat kaf_suf
  refine ⟨ld, _, el4, trivial, fun od => ?_⟩
  have MvL := mvLock (o := .frz od (.dT kvs)) Mv el4
  have eLL : (upd H4 ld (.frz od (.dT kvs))) ld = some (.frz od (.dT kvs)) := upd_same
  generalize hHL : upd H4 ld (.frz od (.dT kvs)) = HL at MvL eLL ⊢
  have kdone : ∀ {H'}, Keep Nil HL H' → Keep Nil H (upd H' ld (.dT kvs)) := fun kk => k04.trans (lock_keep el4 (hHL ▸ kk))
  have nr : ∀ z ∈ ks, ∀ s, (∀ m ∈ mvs gs z.1.toNat s, Arnd gs ks m.toNat) ∧ ∀ m ∈ mvs gs z.2.toNat s, Arnd gs ks m.toNat := fun z hz s =>
    ⟨fun m hm => ⟨z, hz, .inl (.inr ⟨s, by rw [show ((m.toNat : Nat) : Int) = m by have := mvs_low go hm; omega]; exact hm⟩)⟩, fun m hm => ⟨z, hz, .inr (.inr ⟨s, by rw [show ((m.toNat : Nat) : Int) = m by have := mvs_low go hm; omega]; exact hm⟩)⟩⟩
  refine r_for (r_ikeysT (r_var rfl ⟨ld, od, rfl, .inr ⟨kvs, eLL, ?_⟩⟩))
  refine forT ke (fun j σ H' => ∃ (x7 x8 : Option V), σ = [some (.ref b), some (.int g), some (.int h), some (.ref a0), some (.str w), some (.ref la), some (.ref ld), x7, x8, some (.ref mv)] ∧ Keep Nil HL H' ∧ ∀ z ∈ ks.take j, (w = "holds" → phF gs (fun x y => decide ((x, y) ∈ ps)) z.1 z.2 = true) ∧ (w = "bars" → pbF gs ps z.1 z.2 = true)) ⟨_, _, rfl, Keep.refl, fun _ h => by simp at h⟩ ?_ ?_ ?_
  · rintro j σ H' ⟨_, _, _, kk, _⟩
    exact kk.get (fun z => z) eLL
  · rintro j z q σ H5 hz ⟨y7, y8, rfl, k5, lo⟩ hq
    have zk := List.mem_of_getElem? hz
    obtain ⟨⟨a0', a1⟩, b0, b1⟩ := rgk z zk
    obtain ⟨xn, hxn⟩ := Int.eq_ofNat_of_zero_le a0'
    obtain ⟨yn, hyn⟩ := Int.eq_ofNat_of_zero_le b0
    obtain ⟨zx, zy⟩ := z
    simp only at hxn hyn
    subst hxn hyn
    have e5 := k5.get (fun z => z) eLL
    have nx := fun s => (nr _ zk s).1
    have ny := fun s => (nr _ zk s).2
    simp only [Int.toNat_natCast] at nx ny
    have Ax : Arnd gs ks xn := ⟨_, zk, .inl (.inl rfl)⟩
    have Ay : Arnd gs ks yn := ⟨_, zk, .inr (.inl rfl)⟩
    refine r_seqT hq rfl (r_gcons ?_)
    repeat kaf_suf
    refine r_gcons ?_
    repeat kaf_suf
    refine r_gnil ?_
    repeat kaf_suf
    have gk : gK kvs = fun x y => decide ((x, y) ∈ ks) := by funext x y; exact tv.gk ke x y
    refine r_ite (fun hw => ?_) (fun hw => ?_)
    · subst hw
      repeat kaf_suf
      refine ⟨rfl, mv, ld, gs, _, kvs, xn, yn, rfl, MvL.same k5, nx, ny, Ax, Ay, go, .inr ⟨od, e5⟩, tv.bl, fun H6 k6 => ⟨_, rfl, ?_⟩⟩
      rw [gk, phF_eq mem]
      refine r_iteNB (fun hb => ?_) (fun hb => ?_)
      · repeat kaf_suf
        refine ⟨(k5.trans k6).get (fun z => z) eLL, ?_⟩
        have := k _ (kdone (k5.trans k6))
        rw [show shF gs ps g h "holds" = false from decide_eq_false fun q => by
          rcases q.2.2 with ⟨_, q⟩ | ⟨q, _⟩
          · rw [q _ ((mem _).mp zk)] at hb; cases hb
          · exact absurd q (by decide)] at this
        exact this
      · repeat kaf_suf
        exact ⟨_, _, rfl, k5.trans k6, take_snoc hz lo ⟨fun _ => hb, fun q => absurd q (by decide)⟩⟩
    · repeat kaf_suf
      refine r_ite (fun hw2 => ?_) (fun hw2 => ?_)
      · subst hw2
        repeat kaf_suf
        refine ⟨rfl, mv, ld, gs, _, ks, kvs, xn, yn, rfl, MvL.same k5, nx, ny, Ax, Ay, go, few, .inr ⟨od, e5⟩, ke, fun H6 k6 => ⟨_, rfl, ?_⟩⟩
        rw [pbF_eq mem]
        refine r_iteNB (fun hb => ?_) (fun hb => ?_)
        · repeat kaf_suf
          refine ⟨(k5.trans k6).get (fun z => z) eLL, ?_⟩
          have := k _ (kdone (k5.trans k6))
          rw [show shF gs ps g h "bars" = false from decide_eq_false fun q => by
            rcases q.2.2 with ⟨q, _⟩ | ⟨_, q⟩
            · exact absurd q (by decide)
            · rw [q _ ((mem _).mp zk)] at hb; cases hb] at this
          exact this
        · repeat kaf_suf
          exact ⟨_, _, rfl, k5.trans k6, take_snoc hz lo ⟨fun q => absurd q (by decide), fun _ => hb⟩⟩
      · exfalso
        simp only [List.mem_cons, List.not_mem_nil, or_false] at hwd
        exact hwd.elim hw hw2
  · rintro σ H5 ⟨y7, y8, rfl, k5, lo⟩
    rw [List.take_length] at lo
    refine ⟨k5.get (fun z => z) eLL, ?_⟩
    repeat kaf_suf
    have := k _ (kdone k5)
    rw [show shF gs ps g h w = true from decide_eq_true ⟨rg, (mem _).mp hin, by
      simp only [List.mem_cons, List.not_mem_nil, or_false] at hwd
      rcases hwd with e | e
      · exact .inl ⟨e, fun z hz => (lo z ((mem z).mpr hz)).1 e⟩
      · exact .inr ⟨e, fun z hz => (lo z ((mem z).mpr hz)).2 e⟩⟩] at this
    exact this
theorem cal_shows {c : Cn} {mg : Str → Option Value} {base : Heap} (T : Txt c mg) : Cal c.P c.w c.K mg base CX0 5 "shows" (sp_shows c) := by
  obtain ⟨f, fd, F, g, b⟩ := T.F_shows
  exact ⟨f, fd, ["book", "g", "h", "answer"], F.ok (k := 4) (N := N_shows) sc_shows (fun vs H Q E h => h.1) (fun cdv A outer s H vs Q E hr h => ⟨t_shows c, by
  exact (pss_cons (ps_expr (e_meth (met_Book_depth T) hr (by decide) pass0 (pv 0) (pa_cons (pv 1) pa_nil)))
  (pss_cons (ps_expr (e_meth (met_Book_depth T) hr (by decide) pass0 (pv 0) (pa_cons (pv 2) pa_nil)))
  (pss_cons (ps_asg (pv 3) (g_seq rfl (pgs_cons (pg_name (i := 4) sc_shows.nd rfl (Or.inl rfl)) (pgs_cons (pg_name (i := 5) sc_shows.nd rfl (Or.inl rfl)) pgs_nil))))
  (pss_cons (ps_set (i := 6) sc_shows.nd rfl (Or.inl rfl) pe_dnew)
  (pss_cons (ps_for PassesOwn.never rfl (pi_any (pv 5)) (g_seq rfl (pgs_cons (pg_name (i := 7) sc_shows.nd rfl (Or.inl rfl)) (pgs_cons (pg_name (i := 8) sc_shows.nd rfl (Or.inl rfl)) pgs_nil)))
  (pss_cons (ps_if (PW.pt (pw_or (pt_not (p_tru (e_call (cal_is_game T) hr (by decide) pass0 rfl (pa_cons (pv 0) (pa_cons (pv 7) pa_nil))))) (pw_or1 (pt_not (p_tru (e_call (cal_is_game T) hr (by decide) pass0 rfl (pa_cons (pv 0) (pa_cons (pv 8) pa_nil)))))))) (pss_one (ps_ret pe_bl)) pss_nil)
  (pss_one (ps_asg pe_bl (pg_sub (pv 6) (pe_tup (pa_cons (pv 7) (pa_cons (pv 8) pa_nil))) (s_set (hu64 hr)))))))
  (pss_cons (ps_if (PW.pt (pw_or (pt_cmpR (o_notin (hu65 hr)) (pe_tup (pa_cons (pv 1) (pa_cons (pv 2) pa_nil))) (pv 6) (by rfl)) (pw_or1 (pt_cmpR (o_notin (hu65 hr)) (pv 4) (pe_tup (pa_cons pe_str (pa_cons pe_str pa_nil))) (by rfl))))) (pss_one (ps_ret pe_bl)) pss_nil)
  (pss_cons (ps_set (i := 9) sc_shows.nd rfl (Or.inl rfl) (e_call (cal_moves_around T) hr (by decide) pass0 rfl (pa_cons (pv 0) (pa_cons (pv 6) pa_nil))))
  (pss_cons (ps_lock (ps_for PassesOwn.never rfl (pi_keys (pv 6)) (g_seq rfl (pgs_cons (pg_name (i := 7) sc_shows.nd rfl (Or.inl rfl)) (pgs_cons (pg_name (i := 8) sc_shows.nd rfl (Or.inl rfl)) pgs_nil)))
  (pss_cons (ps_if (PW.pt (pw_and (pt_cmpR (o_eq (hu64 hr)) (pv 4) pe_str (nomark _)) (pw_and1 (pt_not (p_tru (e_call (cal_pair_holds T) hr (by decide) pass0 rfl (pa_cons (pv 9) (pa_cons (pv 6) (pa_cons (pv 7) (pa_cons (pv 8) pa_nil)))))))))) (pss_one (ps_ret pe_bl)) pss_nil)
  (pss_one (ps_if (PW.pt (pw_and (pt_cmpR (o_eq (hu64 hr)) (pv 4) pe_str (nomark _)) (pw_and1 (pt_not (p_tru (e_call (cal_pair_bars T) hr (by decide) pass0 rfl (pa_cons (pv 9) (pa_cons (pv 6) (pa_cons (pv 7) (pa_cons (pv 8) pa_nil)))))))))) (pss_one (ps_ret pe_bl)) pss_nil)))))
  (pss_one (ps_ret pe_bl)))))))))), p_shows T h⟩), g, F.kp, b⟩

/-! slices -/
theorem v_slA {K : PySem.W.Frag} {H : Hp} {Q : VK} {l : Addr} {xs : List V} {lo hi : Option Int} (h : H l = some (.tup xs)) (k : ∀ p H', H' p = some (.tup (cutV xs lo hi)) → Keep Nil H H' → Q (.ref p) H') : bSl K (.ref l) lo hi H Q :=
  .inr ⟨l, xs, rfl, SqT.of h, fun e => k l H (by
    have : cutV xs lo hi = xs := by unfold cutV; rw [e.1, e.2]; simp
    rw [this]; exact h) Keep.refl, fun _ p hp => k p _ upd_same (Keep.alloc hp)⟩
theorem cutV_take (xs : List V) (k : Nat) : cutV xs none (some (k : Int)) = xs.take k := by
  unfold cutV
  rw [HT.sIx_nat, HT.sIx_none]
  simp only [List.drop_zero, Nat.sub_zero]
  by_cases h : k ≤ xs.length
  · rw [Nat.min_eq_left h]
  · rw [Nat.min_eq_right (by omega), List.take_of_length_le (Nat.le_refl _), List.take_of_length_le (by omega)]
theorem cutV_drop (xs : List V) (k : Nat) : cutV xs (some (k : Int)) none = xs.drop k := by
  unfold cutV
  rw [HT.sIx_nat, HT.sIx_none]
  by_cases h : k ≤ xs.length
  · rw [Nat.min_eq_left h, List.take_of_length_le (by rw [List.length_drop]; omega)]
  · rw [Nat.min_eq_right (by omega), List.drop_of_length_le (Nat.le_refl _), List.drop_of_length_le (by omega), List.take_nil]

abbrev N_law_draws : List Str := ["script", "many", "drawn", "base", "k", "cell", "number", "one"]
theorem sc_law_draws : FnScope N_law_draws ["script", "many"] (defScope s_law_draws) := ⟨rfl, rfl, rfl, by decide +kernel, rfl, by decide +kernel, by decide +kernel⟩
def t_law_draws (c : Cn) : TS :=
  (tSeq (tAsg (tLst tNil) (gName 2))
  (tSeq (tAsg (tC (.int 7)) (gName 3))
  (tSeq (tFor (iEnum c.K (tCons (tSl (bSl c.K) (tVar 0) tNoPart (tPart (tC (.int 63)))) tNil)) (gSeq c.K 2 (gCons (gName 4) (gCons (gName 5) gNil)))
  (tSeq (tAsg (tCB kAbs (tCons (tVar 5) tNil)) (gName 6))
  (tSeq (tAsg (tOp bMod (tOp (bAdd c.K) (tOp bMul (tVar 3) (tC (.int 31))) (tVar 6)) (tC (.int 2147483629))) (gName 3))
  (tIfS (tTest (tOp cGe (tVar 6) (tOp bPow (tC (.int 10)) (tC (.int 18)))))
  (tWhile (tAnd (tTest (tOp cGt (tVar 6) (tC (.int 0)))) (tTest (tOp (cLt c.K) (tCB (kLen c.K) (tCons (tVar 2) tNil)) (tVar 1))))
  (tSeq (tDrop (tBM c.K "list" rAppend (tVar 2) (tCons (tOp bMod (tVar 6) (tC (.int 10007))) tNil)))
  (tAsg (tOp bDiv (tVar 6) (tC (.int 10007))) (gName 6))))
  (tSeq (tAsg (tOp bMod (tOp bMul (tOp (bAdd c.K) (tOp (bAdd c.K) (tOp bMod (tVar 6) (tC (.int 2147483647))) (tVar 4)) (tC (.int 1))) (tC (.int 48271))) (tC (.int 2147483647))) (gName 7))
  (tSeq (tAsg (tOp bMod (tOp bMul (tVar 7) (tVar 7)) (tC (.int 2147483629))) (gName 7))
  (tSeq (tDrop (tBM c.K "list" rAppend (tVar 2) (tCons (tOp bMod (tOp bDiv (tVar 7) (tC (.int 8))) (tC (.int 10007))) tNil)))
  (tSeq (tAsg (tOp bMod (tOp (bAdd c.K) (tOp (bAdd c.K) (tOp bMul (tVar 7) (tC (.int 40692))) (tOp bMul (tC (.int 2)) (tVar 4))) (tC (.int 1))) (tC (.int 2147483563))) (gName 7))
  (tSeq (tAsg (tOp bMod (tOp bMul (tVar 7) (tVar 7)) (tC (.int 2147483647))) (gName 7))
  (tDrop (tBM c.K "list" rAppend (tVar 2) (tCons (tOp bMod (tOp bDiv (tVar 7) (tC (.int 8))) (tC (.int 10007))) tNil))))))))))))
  (tSeq (tFor (iRng1 (tCons (tOp bSub (tVar 1) (tCB (kLen c.K) (tCons (tVar 2) tNil))) tNil)) (gName 4)
  (tSeq (tAsg (tOp bMod (tOp (bAdd c.K) (tOp (bAdd c.K) (tVar 3) (tOp bMul (tC (.int 7919)) (tVar 4))) (tC (.int 13))) (tC (.int 2147483629))) (gName 7))
  (tSeq (tAsg (tOp bMod (tOp bMul (tVar 7) (tVar 7)) (tC (.int 2147483647))) (gName 7))
  (tSeq (tAsg (tOp bMod (tOp (bAdd c.K) (tOp bMul (tVar 7) (tC (.int 69621))) (tVar 4)) (tC (.int 2147483563))) (gName 7))
  (tDrop (tBM c.K "list" rAppend (tVar 2) (tCons (tOp bMod (tOp bDiv (tOp bMod (tOp bMul (tVar 7) (tVar 7)) (tC (.int 2147483629))) (tC (.int 8))) (tC (.int 10007))) tNil)))))))
  (tRet (tVar 2))))))
def sp_law_draws (c : Cn) : Sp := fun vs H Q E => vs.length = 2 ∧ ∃ (a : Addr) (ns : List Int) (m : Int), vs = [.ref a, .int m] ∧ SqL c.K H a (ns.map V.int) ∧ ns.length ≤ 63 ∧ 0 ≤ m ∧ m ≤ 200 ∧
  ∀ (H' : Hp) (p : Addr) (ds : List Int), Keep Nil H H' → H p = none → H' p = some (.lst (ds.map V.int)) → (∀ z ∈ ds, 0 ≤ z ∧ z < 10007) → m ≤ ds.length → ds.length ≤ 500 → Q (.ref p) H'
theorem p_law_draws {c : Cn} {mg : Str → Option Value} (T : Txt c mg) {vs : List V} {H : Hp} {Q : VK} {E : XK} (h : sp_law_draws c vs H Q E) : t_law_draws c { nx := fun _ H' => Q .non H', rt := Q } (start N_law_draws vs) H := by
  obtain ⟨_, a, ns, m, rfl, hs, n63, m0, m200, k⟩ := h
  unfold t_law_draws
  repeat kaf_suf
  intro p hp
  repeat kaf_suf
  refine r_ienum ?_
  repeat kaf_suf
  have hs1 := seq_keep (Keep.alloc (M := Nil) (o := .lst []) hp) hs
  refine .inl ⟨a, ns.map V.int, rfl, hs1, fun q hq => ?_⟩
  have eq : cutV (ns.map V.int) none (some 63) = ns.map V.int := by
    rw [show (some (63 : Int)) = some ((63 : Nat) : Int) from rfl, cutV_take, List.take_of_length_le (by rw [List.length_map]; exact n63)]
  rw [eq]
  have kq : Keep Nil H (upd (upd H p (.lst [])) q (.lst (ns.map V.int))) := (Keep.alloc hp).new hq
  have ep : (upd (upd H p (.lst [])) q (.lst (ns.map V.int))) p = some (.lst []) := get_new hq upd_same
  have eq' : (upd (upd H p (.lst [])) q (.lst (ns.map V.int))) q = some (.lst (ns.map V.int)) := upd_same
  have npq : q ≠ p := ne_new hq upd_same
  generalize upd (upd H p (.lst [])) q (.lst (ns.map V.int)) = H1 at kq ep eq' ⊢
  clear hq hs1
  repeat kaf_suf
  refine ⟨q, _, rfl, SqL.of eq', ?_⟩
  refine for_it (walk_enum (xs := ns.map V.int)) (fun i σ H' => ∃ (x4 x5 x6 x7 : Option V) (ba : Int) (ds : List Int), σ = [some (.ref a), some (.int m), some (.ref p), some (.int ba), x4, x5, x6, x7] ∧ Keep Nil H H' ∧ H' p = some (.lst (ds.map V.int)) ∧ H' q = some (.lst (ns.map V.int)) ∧ (∀ z ∈ ds, 0 ≤ z ∧ z < 10007) ∧ ds.length ≤ m.toNat + 2 * i ∧ 0 ≤ ba ∧ ba < 2147483629) ⟨_, _, _, _, 7, [], rfl, kq, ep, eq', (fun _ h => by cases h), by simp, by omega, by omega⟩ ?_ ?_ ?_
  · rintro i σ H' _ ⟨_, _, _, _, _, _, _, _, _, h, _⟩; exact SqL.of h
  · rintro i x σ H2 H3 hi ⟨x4, x5, x6, x7, ba, ds, rfl, kk, e1, e2, dz, dl, b0, b1⟩ ⟨t, u, v, rfl, ht, rfl, eu, ev⟩
    cases eu
    have ev : (ns.map V.int)[i]? = some v := ev
    rw [List.getElem?_map] at ev
    obtain ⟨z, hz, rfl⟩ := Option.map_eq_some_iff.mp ev
    have i63 : i < 63 := by rw [List.length_map] at hi; omega
    have kt : Keep Nil H2 (upd H2 t (.tup [.int (i : Nat), .int z])) := Keep.alloc ht
    have et : (upd H2 t (.tup [.int (i : Nat), .int z])) t = some (.tup [.int (i : Nat), .int z]) := upd_same
    have e1' := kt.get (fun z => z) e1
    have e2' := kt.get (fun z => z) e2
    have kk' := kk.trans kt
    generalize upd H2 t (.tup [.int (i : Nat), .int z]) = H4 at et e1' e2' kk' ⊢
    clear ht kt e1 e2 kk
    refine r_seqT et rfl (r_gcons ?_)
    repeat kaf_suf
    refine r_gcons ?_
    repeat kaf_suf
    refine r_gnil ?_
    repeat kaf_suf
    have nu0 : 0 ≤ (if z < 0 then -z else z) := by split <;> omega
    generalize (if z < 0 then -z else z) = nu at nu0 ⊢
    have nb0 : 0 ≤ (ba * 31 + nu) % 2147483629 := by omega
    have nb1 : (ba * 31 + nu) % 2147483629 < 2147483629 := by omega
    generalize (ba * 31 + nu) % 2147483629 = ba' at nb0 nb1 ⊢
    refine r_ite (fun hge => ?_) (fun hge => ?_)
    · refine ⟨fun w σ H' => ∃ (nu : Int) (ds : List Int), σ = [some (.ref a), some (.int m), some (.ref p), some (.int ba'), some (.int (i : Nat)), some (.int z), some (.int nu), x7] ∧ Keep Nil H H' ∧ H' p = some (.lst (ds.map V.int)) ∧ H' q = some (.lst (ns.map V.int)) ∧ (∀ z ∈ ds, 0 ≤ z ∧ z < 10007) ∧ ds.length ≤ m.toNat + 2 * i ∧ 0 ≤ nu ∧ w = nu.toNat, ⟨_, nu, ds, rfl, kk', e1', e2', dz, dl, nu0, rfl⟩, ?_⟩
      rintro w σ H5 ⟨nu, ds, rfl, kk, e1, e2, dz, dl, nu0, rfl⟩
      clear e1' e2' kk'
      have lm : (ds.map V.int).length = ds.length := List.length_map _
      repeat kaf_suf
      refine r_ite (fun h1 => ?_) (fun h1 => ?_)
      · repeat kaf_suf
        refine r_ite (fun h2 => ?_) (fun h2 => ?_)
        · refine ⟨fun σ H' => ∃ w, w < nu.toNat ∧ ∃ (nu : Int) (ds : List Int), σ = [some (.ref a), some (.int m), some (.ref p), some (.int ba'), some (.int (i : Nat)), some (.int z), some (.int nu), x7] ∧ Keep Nil H H' ∧ H' p = some (.lst (ds.map V.int)) ∧ H' q = some (.lst (ns.map V.int)) ∧ (∀ z ∈ ds, 0 ≤ z ∧ z < 10007) ∧ ds.length ≤ m.toNat + 2 * i ∧ 0 ≤ nu ∧ w = nu.toNat, fun σ' H' ⟨w, l, h⟩ => ⟨w, l, h⟩, ?_⟩
          have pne : q ≠ p := npq
          repeat kaf_suf
          refine ⟨(nu / 10007).toNat, by omega, nu / 10007, ds ++ [nu % 10007], rfl, kk.setN hp, by rw [upd_same, List.map_append]; rfl, get_set pne e2, fun y hy => ?_, by rw [List.length_append]; simp only [List.length_singleton]; omega, by omega, rfl⟩
          rcases List.mem_append.mp hy with h | h
          · exact dz y h
          · have := List.mem_singleton.mp h; omega
        · repeat kaf_suf
          exact ⟨_, _, _, _, ba', ds, rfl, kk, e1, e2, dz, by omega, nb0, nb1⟩
      · repeat kaf_suf
        exact ⟨_, _, _, _, ba', ds, rfl, kk, e1, e2, dz, by omega, nb0, nb1⟩
    · have lm : (ds.map V.int).length = ds.length := List.length_map _
      have pne : q ≠ p := npq
      have o0 : 0 ≤ (nu % 2147483647 + (i : Int) + 1) * 48271 % 2147483647 := by omega
      have o1 : (nu % 2147483647 + (i : Int) + 1) * 48271 % 2147483647 < 2147483647 := by omega
      repeat kaf_suf
      refine ⟨_, _, _, _, ba', ds ++ [_] ++ [_], rfl, (kk'.setN hp).setN hp, by rw [upd_same, List.map_append, List.map_append]; rfl, get_set pne (get_set pne e2'), fun y hy => ?_, by rw [List.length_append, List.length_append]; simp only [List.length_singleton]; omega, nb0, nb1⟩
      rcases List.mem_append.mp hy with h | h
      · rcases List.mem_append.mp h with h | h
        · exact dz y h
        · have := List.mem_singleton.mp h; omega
      · have := List.mem_singleton.mp h; omega
  · rintro σ H2 ⟨x4, x5, x6, x7, ba, ds, rfl, kk, e1, e2, dz, dl, b0, b1⟩
    have lm : (ds.map V.int).length = ds.length := List.length_map _
    rw [List.length_map] at dl
    repeat kaf_suf
    refine for_range (lo := 0) (n := (m - ((ds.map V.int).length : Int)).toNat) (fun j σ H' => ∃ (x4 x7 : Option V) (ds' : List Int), σ = [some (.ref a), some (.int m), some (.ref p), some (.int ba), x4, x5, x6, x7] ∧ Keep Nil H H' ∧ H' p = some (.lst (ds'.map V.int)) ∧ (∀ z ∈ ds', 0 ≤ z ∧ z < 10007) ∧ ds'.length = ds.length + j) ⟨_, _, ds, rfl, kk, e1, dz, rfl⟩ ?_ ?_
    · rintro j σ H3 hj ⟨y4, y7, ds', rfl, kk', e1', dz', dl'⟩
      have j2 : j ≤ 200 := by omega
      repeat kaf_suf
      refine ⟨_, _, ds' ++ [_], rfl, kk'.setN hp, by rw [upd_same, List.map_append]; rfl, fun w hw => ?_, by rw [List.length_append, dl']; rfl⟩
      rcases List.mem_append.mp hw with h | h
      · exact dz' w h
      · have := List.mem_singleton.mp h
        omega
    · rintro σ H3 ⟨y4, y7, ds', rfl, kk', e1', dz', dl'⟩
      repeat kaf_suf
      exact k _ p ds' kk' hp e1' dz' (by omega) (by omega)
theorem cal_law_draws {c : Cn} {mg : Str → Option Value} {base : Heap} (T : Txt c mg) : Cal c.P c.w c.K mg base CX0 1 "_law_draws" (sp_law_draws c) := by
  obtain ⟨f, fd, F, g, b⟩ := T.F_law_draws
  exact ⟨f, fd, ["script", "many"], F.ok (k := 0) (N := N_law_draws) sc_law_draws (fun vs H Q E h => h.1) (fun cdv A outer s H vs Q E hr h => ⟨t_law_draws c, by
  exact (pss_cons (ps_set (i := 2) sc_law_draws.nd rfl (Or.inl rfl) (pe_lst pa_nil))
  (pss_cons (ps_set (i := 3) sc_law_draws.nd rfl (Or.inl rfl) pe_int)
  (pss_cons (ps_for PassesOwn.never rfl (pi_enum rfl T.n_enumerate (pa_cons (pe_slice s_sl (pv 0) po_none (po_some pe_int)) pa_nil)) (g_seq rfl (pgs_cons (pg_name (i := 4) sc_law_draws.nd rfl (Or.inl rfl)) (pgs_cons (pg_name (i := 5) sc_law_draws.nd rfl (Or.inl rfl)) pgs_nil)))
  (pss_cons (ps_set (i := 6) sc_law_draws.nd rfl (Or.inl rfl) (pe_callB k_abs (by rfl) T.n_abs (by decide +kernel) (pa_cons (pv 5) pa_nil)))
  (pss_cons (ps_set (i := 3) sc_law_draws.nd rfl (Or.inl rfl) (pe_op o_mod (pe_op o_add (pe_op o_mul (pv 3) pe_int) (pv 6)) pe_int))
  (pss_one (ps_if (pt_cmpR o_ge (pv 6) (pe_op o_pow pe_int pe_int) (nomark _)) (pss_one (ps_while PassesOwn.never (PW.pt (pw_and (pt_cmpR o_gt (pv 6) pe_int (nomark _)) (pw_and1 (pt_cmpR (o_lt (hu64 hr)) (pe_callB k_len (by rfl) T.n_len (by decide +kernel) (pa_cons (pv 2) pa_nil)) (pv 1) (nomark _)))))
  (pss_cons (ps_expr (pe_bm PySem.F.plainAttrs_list PySem.F.slot_list_append PySem.F.type_list_append mt_append (pv 2) (pa_cons (pe_op o_mod (pv 6) pe_int) pa_nil)))
  (pss_one (ps_set (i := 6) sc_law_draws.nd rfl (Or.inl rfl) (pe_op o_div (pv 6) pe_int)))))) (pss_cons (ps_set (i := 7) sc_law_draws.nd rfl (Or.inl rfl) (pe_op o_mod (pe_op o_mul (pe_op o_add (pe_op o_add (pe_op o_mod (pv 6) pe_int) (pv 4)) pe_int) pe_int) pe_int))
  (pss_cons (ps_set (i := 7) sc_law_draws.nd rfl (Or.inl rfl) (pe_op o_mod (pe_op o_mul (pv 7) (pv 7)) pe_int))
  (pss_cons (ps_expr (pe_bm PySem.F.plainAttrs_list PySem.F.slot_list_append PySem.F.type_list_append mt_append (pv 2) (pa_cons (pe_op o_mod (pe_op o_div (pv 7) pe_int) pe_int) pa_nil)))
  (pss_cons (ps_set (i := 7) sc_law_draws.nd rfl (Or.inl rfl) (pe_op o_mod (pe_op o_add (pe_op o_add (pe_op o_mul (pv 7) pe_int) (pe_op o_mul pe_int (pv 4))) pe_int) pe_int))
  (pss_cons (ps_set (i := 7) sc_law_draws.nd rfl (Or.inl rfl) (pe_op o_mod (pe_op o_mul (pv 7) (pv 7)) pe_int))
  (pss_one (ps_expr (pe_bm PySem.F.plainAttrs_list PySem.F.slot_list_append PySem.F.type_list_append mt_append (pv 2) (pa_cons (pe_op o_mod (pe_op o_div (pv 7) pe_int) pe_int) pa_nil))))))))))))))
  (pss_cons (ps_for PassesOwn.never rfl (pi_range1 rfl T.n_range (pa_cons (pe_op o_sub (pv 1) (pe_callB k_len (by rfl) T.n_len (by decide +kernel) (pa_cons (pv 2) pa_nil))) pa_nil)) (pg_name (i := 4) sc_law_draws.nd rfl (Or.inl rfl))
  (pss_cons (ps_set (i := 7) sc_law_draws.nd rfl (Or.inl rfl) (pe_op o_mod (pe_op o_add (pe_op o_add (pv 3) (pe_op o_mul pe_int (pv 4))) pe_int) pe_int))
  (pss_cons (ps_set (i := 7) sc_law_draws.nd rfl (Or.inl rfl) (pe_op o_mod (pe_op o_mul (pv 7) (pv 7)) pe_int))
  (pss_cons (ps_set (i := 7) sc_law_draws.nd rfl (Or.inl rfl) (pe_op o_mod (pe_op o_add (pe_op o_mul (pv 7) pe_int) (pv 4)) pe_int))
  (pss_one (ps_expr (pe_bm PySem.F.plainAttrs_list PySem.F.slot_list_append PySem.F.type_list_append mt_append (pv 2) (pa_cons (pe_op o_mod (pe_op o_div (pe_op o_mod (pe_op o_mul (pv 7) (pv 7)) pe_int) pe_int) pe_int) pa_nil))))))))
  (pss_one (ps_ret (pv 2))))))), p_law_draws T h⟩), g, F.kp, b⟩

/-- what is picked, and what is left of the number -/
def pkS (os : List Int) (x : Int) : Nat → Int × List Int
  | 0 => (x / 6, [])
  | i + 1 => ((pkS os x i).1 / (os.length : Int), (pkS os x i).2 ++ [os.getD ((os.length : Int) - 1 - (pkS os x i).1 % (os.length : Int)).toNat 0])
def pkM (x : Int) : Nat := [0, 1, 1, 2, 2, 3].getD (x % 6).toNat 0
def pkd (x : Int) (os : List Int) : List Int := (pkS os x (pkM x)).2
abbrev N_law_picked : List Str := ["x", "order", "some", "many", "k"]
theorem sc_law_picked : FnScope N_law_picked ["x", "order"] (defScope s_law_picked) := ⟨rfl, rfl, rfl, by decide +kernel, rfl, by decide +kernel, by decide +kernel⟩
def t_law_picked (c : Cn) : TS :=
  (tSeq (tAsg (tLst tNil) (gName 2))
  (tSeq (tAsg (tOp (bIx c.P c.w c.K) (tLst (tCons (tC (.int 0)) (tCons (tC (.int 1)) (tCons (tC (.int 1)) (tCons (tC (.int 2)) (tCons (tC (.int 2)) (tCons (tC (.int 3)) tNil))))))) (tOp bMod (tVar 0) (tC (.int 6)))) (gName 3))
  (tSeq (tAsg (tOp bDiv (tVar 0) (tC (.int 6))) (gName 0))
  (tSeq (tFor (iRng1 (tCons (tVar 3) tNil)) (gName 4)
  (tSeq (tDrop (tBM c.K "list" rAppend (tVar 2) (tCons (tOp (bIx c.P c.w c.K) (tVar 1) (tOp bSub (tOp bSub (tCB (kLen c.K) (tCons (tVar 1) tNil)) (tC (.int 1))) (tOp bMod (tVar 0) (tCB (kLen c.K) (tCons (tVar 1) tNil))))) tNil)))
  (tAsg (tOp bDiv (tVar 0) (tCB (kLen c.K) (tCons (tVar 1) tNil))) (gName 0))))
  (tRet (tVar 2))))))
def sp_law_picked (c : Cn) : Sp := fun vs H Q E => vs.length = 2 ∧ ∃ (o : Addr) (os : List Int) (x : Int), vs = [.int x, .ref o] ∧ H o = some (.lst (os.map V.int)) ∧ 0 ≤ x ∧ 0 < os.length ∧ os.length ≤ 1000 ∧
  ∀ (H' : Hp) (p : Addr), Keep Nil H H' → H p = none → H' p = some (.lst ((pkd x os).map V.int)) → (∀ z ∈ pkd x os, z ∈ os) → (pkd x os).length ≤ 3 → Q (.ref p) H'
theorem p_law_picked {c : Cn} {mg : Str → Option Value} (T : Txt c mg) {vs : List V} {H : Hp} {Q : VK} {E : XK} (h : sp_law_picked c vs H Q E) : t_law_picked c { nx := fun _ H' => Q .non H', rt := Q } (start N_law_picked vs) H := by
  obtain ⟨_, o, os, x, rfl, ho, x0, o0, o1, k⟩ := h
  unfold t_law_picked
  repeat kaf_suf
  intro p hp
  repeat kaf_suf
  intro q hq
  repeat kaf_suf
  obtain ⟨w, hw, w0, w3, wM⟩ : ∃ w : Int, atI [V.int 0, V.int 1, V.int 1, V.int 2, V.int 2, V.int 3] (x % 6) = some (V.int w) ∧ 0 ≤ w ∧ w ≤ 3 ∧ w = (pkM x : Int) := by
    have h0 : 0 ≤ x % 6 := by omega
    have h1 : x % 6 < 6 := by omega
    unfold pkM
    generalize x % 6 = r at h0 h1
    have : r = 0 ∨ r = 1 ∨ r = 2 ∨ r = 3 ∨ r = 4 ∨ r = 5 := by omega
    rcases this with rfl | rfl | rfl | rfl | rfl | rfl
    · exact ⟨0, rfl, by omega, by omega, rfl⟩
    · exact ⟨1, rfl, by omega, by omega, rfl⟩
    · exact ⟨1, rfl, by omega, by omega, rfl⟩
    · exact ⟨2, rfl, by omega, by omega, rfl⟩
    · exact ⟨2, rfl, by omega, by omega, rfl⟩
    · exact ⟨3, rfl, by omega, by omega, rfl⟩
  repeat kaf_suf
  refine for_range (lo := 0) (n := w.toNat) (fun i σ H' => ∃ (x4 : Option V) (y : Int) (ls : List Int), σ = [some (.int y), some (.ref o), some (.ref p), some (.int w), x4] ∧ 0 ≤ y ∧ Keep Nil H H' ∧ H' p = some (.lst (ls.map V.int)) ∧ (∀ z ∈ ls, z ∈ os) ∧ ls.length ≤ i ∧ pkS os x i = (y, ls)) ⟨_, _, [], rfl, by omega, (Keep.alloc hp).new hq, get_new hq upd_same, (fun _ h => by cases h), Nat.zero_le _, rfl⟩ ?_ ?_
  · rintro i σ H1 hi ⟨x4, y, ls, rfl, y0, kk, e1, lo, ll, eS⟩
    have ho1 := kk.get (fun z => z) ho
    have lm : (os.map V.int).length = os.length := List.length_map _
    have r0 : 0 ≤ y % (os.length : Int) := Int.emod_nonneg _ (by omega)
    have r1 : y % (os.length : Int) < os.length := Int.emod_lt_of_pos _ (by omega)
    repeat kaf_suf
    rw [lm]
    obtain ⟨v, hv⟩ : ∃ v, os[((os.length : Int) - 1 - y % (os.length : Int)).toNat]? = some v := ⟨_, List.getElem?_eq_getElem (by omega)⟩
    have hx : atI (os.map V.int) ((os.length : Int) - 1 - y % (os.length : Int)) = some (V.int v) := atI_get (n := ((os.length : Int) - 1 - y % (os.length : Int)).toNat) (by rw [List.getElem?_map, hv]; rfl) (by omega)
    repeat kaf_suf
    refine ⟨_, _, ls ++ [v], rfl, Int.ediv_nonneg y0 (by omega), kk.setN hp, by rw [upd_same, List.map_append]; rfl, fun z hz => ?_, by rw [List.length_append]; simp only [List.length_singleton]; omega, by rw [pkS, eS]; simp only; rw [List.getD_eq_getElem?_getD, hv, lm]; rfl⟩
    rcases List.mem_append.mp hz with h | h
    · exact lo z h
    · cases List.mem_singleton.mp h; exact List.mem_of_getElem? hv
  · rintro σ H1 ⟨x4, y, ls, rfl, y0, kk, e1, lo, ll, eS⟩
    repeat kaf_suf
    have eP : pkd x os = ls := by
      unfold pkd
      rw [show pkM x = w.toNat by omega, eS]
    rw [← eP] at e1 lo ll
    exact k _ p kk hp e1 lo (by omega)
theorem cal_law_picked {c : Cn} {mg : Str → Option Value} {base : Heap} (T : Txt c mg) : Cal c.P c.w c.K mg base CX0 1 "_law_picked" (sp_law_picked c) := by
  obtain ⟨f, fd, F, g, b⟩ := T.F_law_picked
  exact ⟨f, fd, ["x", "order"], F.ok (k := 0) (N := N_law_picked) sc_law_picked (fun vs H Q E h => h.1) (fun cdv A outer s H vs Q E hr h => ⟨t_law_picked c, by
  exact (pss_cons (ps_set (i := 2) sc_law_picked.nd rfl (Or.inl rfl) (pe_lst pa_nil))
  (pss_cons (ps_set (i := 3) sc_law_picked.nd rfl (Or.inl rfl) (pe_ix (x_ix (hu64 hr)) (pe_lst (pa_cons pe_int (pa_cons pe_int (pa_cons pe_int (pa_cons pe_int (pa_cons pe_int (pa_cons pe_int pa_nil))))))) (pe_op o_mod (pv 0) pe_int) (fun _ _ => rfl)))
  (pss_cons (ps_set (i := 0) sc_law_picked.nd rfl (Or.inl rfl) (pe_op o_div (pv 0) pe_int))
  (pss_cons (ps_for PassesOwn.never rfl (pi_range1 rfl T.n_range (pa_cons (pv 3) pa_nil)) (pg_name (i := 4) sc_law_picked.nd rfl (Or.inl rfl))
  (pss_cons (ps_expr (pe_bm PySem.F.plainAttrs_list PySem.F.slot_list_append PySem.F.type_list_append mt_append (pv 2) (pa_cons (pe_ix (x_ix (hu64 hr)) (pv 1) (pe_op o_sub (pe_op o_sub (pe_callB k_len (by rfl) T.n_len (by decide +kernel) (pa_cons (pv 1) pa_nil)) pe_int) (pe_op o_mod (pv 0) (pe_callB k_len (by rfl) T.n_len (by decide +kernel) (pa_cons (pv 1) pa_nil)))) (fun _ _ => rfl)) pa_nil)))
  (pss_one (ps_set (i := 0) sc_law_picked.nd rfl (Or.inl rfl) (pe_op o_div (pv 0) (pe_callB k_len (by rfl) T.n_len (by decide +kernel) (pa_cons (pv 1) pa_nil)))))))
  (pss_one (ps_ret (pv 2))))))), p_law_picked T h⟩), g, F.kp, b⟩

theorem inV_int {z : Int} (os : List Int) : inV (.int z) (os.map V.int) = decide (z ∈ os) := by
  unfold inV
  rw [List.any_map]
  by_cases h : z ∈ os
  · rw [decide_eq_true h]
    exact List.any_eq_true.mpr ⟨z, h, by simp [Function.comp, eqV]⟩
  · rw [decide_eq_false h]
    exact List.any_eq_false.mpr fun y hy => by
      simp only [Function.comp, eqV, beq_iff_eq]
      exact fun e => h (e ▸ hy)
theorem flat_ints : ∀ os : List Int, (os.map V.int).all flatV = true
  | [] => rfl
  | x :: r => by rw [List.map_cons, List.all_cons, flat_ints r]; rfl
theorem v_ninL {P : Program} {w : World} {K : PySem.W.Frag} {H : Hp} {Q : VK} {l : Addr} {os : List Int} {z : Int} (h : H l = some (.lst (os.map V.int))) (q : Q (.bl (!decide (z ∈ os))) H) : cNotIn P w K (.int z) (.ref l) H Q :=
  .inl ⟨l, os.map V.int, rfl, .inl (SqL.of h), rfl, flat_ints os, by rw [if_pos rfl, inV_int]; exact q⟩
def nums (n : Nat) : List Int := (List.range n).map Int.ofNat
theorem nums_mem {n : Nat} {z : Int} : z ∈ nums n ↔ 0 ≤ z ∧ z < n := by
  unfold nums
  rw [List.mem_map]
  constructor
  · rintro ⟨i, hi, rfl⟩
    have := List.mem_range.mp hi
    exact ⟨Int.natCast_nonneg _, by show (i : Int) < n; omega⟩
  · rintro ⟨h1, h2⟩
    exact ⟨z.toNat, List.mem_range.mpr (by omega), by show ((z.toNat : Nat) : Int) = z; omega⟩
theorem nums_len {n : Nat} : (nums n).length = n := by unfold nums; rw [List.length_map, List.length_range]
theorem nums_succ {n : Nat} : nums (n + 1) = nums n ++ [(n : Int)] := by unfold nums; rw [List.range_succ, List.map_append]; rfl
theorem nums_get {n i : Nat} (h : i < n) : (nums n)[i]? = some (i : Int) := by
  unfold nums
  rw [List.getElem?_map, List.getElem?_range h]; rfl
/-- what was not there -/
def Old (H : Hp) : Addr → Prop := fun x => H x ≠ none
/-- the games put, one by one -/
def dat (ds : List Int) (i : Int) : Int := ds.getD i.toNat 0
def gsF (ds : List Int) (sp : Int) : Nat → List Gm
  | 0 => [([], [])]
  | i + 1 => addG (gsF ds sp i) (canon (pkd (dat ds (sp + 3 * (i : Int) + 0)) (nums (gsF ds sp i).length)),
      canon (if dat ds (sp + 3 * (i : Int) + 2) % 5 = 0 then pkd (dat ds (sp + 3 * (i : Int) + 0)) (nums (gsF ds sp i).length) else pkd (dat ds (sp + 3 * (i : Int) + 1)) (nums (gsF ds sp i).length)))
abbrev N_law_games : List Str := ["book", "d", "spot", "many", "moves", "order", "k", "lefts", "rights", "g"]
theorem sc_law_games : FnScope N_law_games ["book", "d", "spot", "many"] (defScope s_law_games) := ⟨rfl, rfl, rfl, by decide +kernel, rfl, by decide +kernel, by decide +kernel⟩
def t_law_games (c : Cn) : TS :=
  (tSeq (tAsg (tDisp (((tC (.int 0)), (tTup (tCons (tLst tNil) (tCons (tLst tNil) tNil)))) :: [])) (gName 4))
  (tSeq (tAsg (tLst (tCons (tC (.int 0)) tNil)) (gName 5))
  (tSeq (tFor (iRng1 (tCons (tVar 3) tNil)) (gName 6)
  (tSeq (tAsg (tCall (sp_law_picked c) [] E0 (tCons (tOp (bIx c.P c.w c.K) (tVar 1) (tOp (bAdd c.K) (tVar 2) (tOp bMul (tC (.int 3)) (tVar 6)))) (tCons (tVar 5) tNil))) (gName 7))
  (tSeq (tAsg (tCall (sp_law_picked c) [] E0 (tCons (tOp (bIx c.P c.w c.K) (tVar 1) (tOp (bAdd c.K) (tOp (bAdd c.K) (tVar 2) (tOp bMul (tC (.int 3)) (tVar 6))) (tC (.int 1)))) (tCons (tVar 5) tNil))) (gName 8))
  (C8.tCut (tIfS (tTest (tOp (cEq c.K) (tOp bMod (tOp (bIx c.P c.w c.K) (tVar 1) (tOp (bAdd c.K) (tOp (bAdd c.K) (tVar 2) (tOp bMul (tC (.int 3)) (tVar 6))) (tC (.int 2)))) (tC (.int 5))) (tC (.int 0))))
  (tAsg (tCB (kList c.K) (tCons (tVar 7) tNil)) (gName 8))
  tNext)
  (tSeq (tAsg (tMeth c.cBook "game" (sp_Book_game c) [] E0 (tVar 0) (tCons (tVar 7) (tCons (tVar 8) tNil))) (gName 9))
  (tSeq (tAsg (tTup (tCons (tCB (kSorted c.K c.w) (tCons (tCB (uSetI c.K c.w) (tCons (tVar 7) tNil)) tNil)) (tCons (tCB (kSorted c.K c.w) (tCons (tCB (uSetI c.K c.w) (tCons (tVar 8) tNil)) tNil)) tNil))) (gSub (tVar 4) (tVar 9) (bSet c.P c.w)))
  (tIfS (tTest (tOp (cNotIn c.P c.w c.K) (tVar 9) (tVar 5)))
  (tDrop (tBM c.K "list" rAppend (tVar 5) (tCons (tVar 9) tNil)))
  tNext)))))))
  (tRet (tTup (tCons (tVar 5) (tCons (tVar 4) tNil)))))))
def sp_law_games (c : Cn) : Sp := fun vs H Q E => vs.length = 4 ∧ ∃ (b d : Addr) (M : Addr → Prop) (ds : List Int) (sp m : Int), vs = [.ref b, .ref d, .int sp, .int m] ∧ BookAt c H b M [([], [])] [0] ∧ H d = some (.lst (ds.map V.int)) ∧ ¬ M d ∧ (∀ z ∈ ds, 0 ≤ z) ∧ 0 ≤ sp ∧ 0 ≤ m ∧ m ≤ 40 ∧ sp + 3 * m ≤ ds.length ∧ sp ≤ 1000 ∧
  ∀ (H' : Hp) (p od mv : Addr) (gs : List Gm) (e : List Int), Keep M H H' → H p = none → H' p = some (.tup [.ref od, .ref mv]) → gs = gsF ds sp m.toNat → BookAt c H' b M gs e → gs.length ≤ m.toNat + 1 → H od = none → H' od = some (.lst ((nums gs.length).map V.int)) → H mv = none → MvW (Old H) H' mv gs (· < gs.length) → (∃ kvs : List KX, H' mv = some (.dK kvs) ∧ kvs.map (·.1) = (nums gs.length).map Sum.inl) → Q (.ref p) H'
theorem p_law_games {c : Cn} {mg : Str → Option Value} (T : Txt c mg) {vs : List V} {H : Hp} {Q : VK} {E : XK} (h : sp_law_games c vs H Q E) : t_law_games c { nx := fun _ H' => Q .non H', rt := Q } (start N_law_games vs) H := by
  obtain ⟨_, b, d, M, ds, sp, m, rfl, B, hd, nd, ds0, sp0, m0, m40, spm, sp1, k⟩ := h
  unfold t_law_games
  repeat kaf_suf
  refine fun md hmd => ?_
  simp only [tPairs]
  repeat kaf_suf
  intro a1 ha1
  repeat kaf_suf
  intro a2 ha2
  repeat kaf_suf
  intro t ht
  repeat kaf_suf
  refine ⟨by kaf_pre, [(.inl 0, .ref t)], rfl, by simp, ?_⟩
  repeat kaf_suf
  intro od hod
  repeat kaf_suf
  have e0d : (upd (upd (upd (upd (upd (upd H md (.dK [])) a1 (.lst [])) a2 (.lst [])) t (.tup [.ref a1, .ref a2])) md (.dK (mergeK [] [(.inl 0, .ref t)]))) od (.lst [.int 0])) md = some (.dK [(.inl 0, .ref t)]) := get_new hod upd_same
  have e0o : (upd (upd (upd (upd (upd (upd H md (.dK [])) a1 (.lst [])) a2 (.lst [])) t (.tup [.ref a1, .ref a2])) md (.dK (mergeK [] [(.inl 0, .ref t)]))) od (.lst [.int 0])) od = some (.lst [.int 0]) := upd_same
  have n1m : a1 ≠ md := ne_new ha1 upd_same
  have n2m : a2 ≠ md := ne_new ha2 (get_new ha1 upd_same)
  have ntm : t ≠ md := ne_new ht (get_new ha2 (get_new ha1 upd_same))
  have e01 : (upd (upd (upd (upd (upd (upd H md (.dK [])) a1 (.lst [])) a2 (.lst [])) t (.tup [.ref a1, .ref a2])) md (.dK (mergeK [] [(.inl 0, .ref t)]))) od (.lst [.int 0])) a1 = some (.lst []) := get_new hod (get_set n1m (get_new ht (get_new ha2 upd_same)))
  have e02 : (upd (upd (upd (upd (upd (upd H md (.dK [])) a1 (.lst [])) a2 (.lst [])) t (.tup [.ref a1, .ref a2])) md (.dK (mergeK [] [(.inl 0, .ref t)]))) od (.lst [.int 0])) a2 = some (.lst []) := get_new hod (get_set n2m (get_new ht upd_same))
  have e0t : (upd (upd (upd (upd (upd (upd H md (.dK [])) a1 (.lst [])) a2 (.lst [])) t (.tup [.ref a1, .ref a2])) md (.dK (mergeK [] [(.inl 0, .ref t)]))) od (.lst [.int 0])) t = some (.tup [.ref a1, .ref a2]) := get_new hod (get_set ntm upd_same)
  have o1 : a1 ≠ od := ne_old hod (get_set n1m (get_new ht (get_new ha2 upd_same)))
  have o2 : a2 ≠ od := ne_old hod (get_set n2m (get_new ht upd_same))
  have ot : t ≠ od := ne_old hod (get_set ntm upd_same)
  have dmo : md ≠ od := ne_old hod upd_same
  have ha10 : H a1 = none := none_of_upd ha1
  have ha20 : H a2 = none := none_of_upd (none_of_upd ha2)
  have ht0 : H t = none := none_of_upd (none_of_upd (none_of_upd ht))
  have hod0 : H od = none := none_of_upd (none_of_upd (none_of_upd (none_of_upd (none_of_upd hod))))
  have k0 : Keep Nil H (upd (upd (upd (upd (upd (upd H md (.dK [])) a1 (.lst [])) a2 (.lst [])) t (.tup [.ref a1, .ref a2])) md (.dK (mergeK [] [(.inl 0, .ref t)]))) od (.lst [.int 0])) := (((((Keep.alloc hmd).new ha1).new ha2).new ht).setN hmd).new hod
  generalize upd (upd (upd (upd (upd (upd H md (.dK [])) a1 (.lst [])) a2 (.lst [])) t (.tup [.ref a1, .ref a2])) md (.dK (mergeK [] [(.inl 0, .ref t)]))) od (.lst [.int 0]) = H0 at e0d e0o e01 e02 e0t k0 ⊢
  clear hod ha1 ha2 ht
  have Mod : ¬ M od := B.new hod0
  have Mmd : ¬ M md := B.new hmd
  have MO : ∀ x, M x → Old H x := fun x h z => B.new z h
  have oh : ∀ {x}, H x = none → ¬ Old H x := fun h z => z h
  have r0 : RowAt (fun x => Old H x ∨ x = od ∨ x = md) H0 t ([], []) := ⟨a1, a2, e0t, e01, e02, fun z => z.elim (oh ht0) fun z => z.elim ot ntm, fun z => z.elim (oh ha10) fun z => z.elim o1 n1m, fun z => z.elim (oh ha20) fun z => z.elim o2 n2m⟩
  refine for_range (lo := 0) (n := m.toNat) (fun i σ H' => ∃ (x6 x7 x8 x9 : Option V) (gs : List Gm) (e : List Int) (kvs : List KX), σ = [some (.ref b), some (.ref d), some (.int sp), some (.int m), some (.ref md), some (.ref od), x6, x7, x8, x9] ∧ Keep M H H' ∧ gs = gsF ds sp i ∧ BookAt c H' b M gs e ∧ gs.length ≤ i + 1 ∧ H' od = some (.lst ((nums gs.length).map V.int)) ∧ H' md = some (.dK kvs) ∧ kvs.length ≤ i + 1 ∧ kvs.map (·.1) = (nums gs.length).map Sum.inl ∧
    ∀ g, g < gs.length → ∃ gm t, gs[g]? = some gm ∧ valV kvs (.inl (g : Int)) = some (.ref t) ∧ RowAt (fun x => Old H x ∨ x = od ∨ x = md) H' t gm) ⟨_, _, _, _, [([], [])], [0], _, rfl, k0.weak, rfl, B.same k0, by simp, e0o, e0d, by simp, rfl, fun g hg => ?_⟩ ?_ ?_
  · simp only [List.length_singleton] at hg
    obtain rfl : g = 0 := by omega
    exact ⟨([], []), t, rfl, rfl, r0⟩
  · rintro i σ H1 hi ⟨x6, x7, x8, x9, gs, e, kvs, rfl, k1, eF, B1, gl, eo, em, kl, ke_, hk⟩
    clear e0d e0o e01 e02 e0t k0 r0
    have pos := B1.pos
    have gt : ∀ j : Int, 0 ≤ j → j ≤ 2 → ∃ z, atI (ds.map V.int) (sp + 3 * (0 + (i : Int)) + j) = some (.int z) ∧ 0 ≤ z ∧ z = dat ds (sp + 3 * (i : Int) + j) := fun j j0 j2 => by
      obtain ⟨z, hz⟩ : ∃ z, ds[(sp + 3 * (i : Int) + j).toNat]? = some z := ⟨_, List.getElem?_eq_getElem (by omega)⟩
      exact ⟨z, atI_get (n := (sp + 3 * (i : Int) + j).toNat) (by rw [List.getElem?_map, hz]; rfl) (by omega), ds0 z (List.mem_of_getElem? hz), by unfold dat; rw [List.getD_eq_getElem?_getD, hz]; rfl⟩
    obtain ⟨z0, hz0, z00, zD0⟩ := gt 0 (by omega) (by omega)
    obtain ⟨z1, hz1, z10, zD1⟩ := gt 1 (by omega) (by omega)
    obtain ⟨z2, hz2, z20, zD2⟩ := gt 2 (by omega) (by omega)
    rw [Int.add_zero] at hz0
    have ed := k1 _ _ nd hd
    repeat kaf_suf
    refine ⟨rfl, od, nums gs.length, z0, rfl, eo, z00, by rw [nums_len]; exact pos, by rw [nums_len]; omega, fun H2 p1 k2 hp1 ep1 lm ll => ?_⟩
    generalize hls : pkd z0 (nums gs.length) = ls at ep1 lm ll
    have np1 : ¬ M p1 := B1.new hp1
    have ed2 := k2.get (fun z => z) ed
    have eo2 := k2.get (fun z => z) eo
    have B2 := B1.same k2
    repeat kaf_suf
    refine ⟨rfl, od, nums gs.length, z1, rfl, eo2, z10, by rw [nums_len]; exact pos, by rw [nums_len]; omega, fun H3 p2 k3 hp2 ep2 rm rl => ?_⟩
    generalize hrs : pkd z1 (nums gs.length) = rs at ep2 rm rl
    have np2 : ¬ M p2 := B2.new hp2
    have ed3 := k3.get (fun z => z) ed2
    have ep13 := k3.get (fun z => z) ep1
    have k13 := k2.trans k3
    clear k2 k3 ed ed2 eo2 ep1 B2 hp1 hp2
    repeat kaf_suf
    refine ⟨fun σ' H' => ∃ (r : Addr) (rs : List Int), σ' = [some (.ref b), some (.ref d), some (.int sp), some (.int m), some (.ref md), some (.ref od), some (.int (0 + i)), some (.ref p1), some (.ref r), x9] ∧ Keep Nil H1 H' ∧ H' p1 = some (.lst (ls.map V.int)) ∧ H' r = some (.lst (rs.map V.int)) ∧ ¬ M r ∧ (∀ z ∈ rs, z ∈ nums gs.length) ∧ rs.length ≤ 3 ∧ rs = if z2 % 5 = 0 then pkd z0 (nums gs.length) else pkd z1 (nums gs.length), ?_, ?_⟩
    · repeat kaf_suf
      refine r_ite (fun h => ?_) (fun h => ?_)
      · repeat kaf_suf
        intro q hq
        have kq : Keep Nil H3 (upd H3 q (.lst (ls.map V.int))) := Keep.alloc hq
        repeat kaf_suf
        exact ⟨q, ls, rfl, k13.trans kq, kq.get (fun z => z) ep13, upd_same, (B1.same k13).new hq, lm, ll, by rw [if_pos h, hls]⟩
      · repeat kaf_suf
        exact ⟨p2, rs, rfl, k13, ep13, ep2, np2, rm, rl, by rw [if_neg h, hrs]⟩
    rintro σ H4 ⟨r, rs', rfl, k4, e1, e2, nr, rm', rl', hrs'⟩
    clear k13 ed3 ep13 ep2
    have B4 := B1.same k4
    have eo4 := k4.get (fun z => z) eo
    have em4 := k4.get (fun z => z) em
    obtain ⟨bx, bm, bn, bd, hb⟩ := B4.ins_
    repeat kaf_suf
    refine ⟨rfl, b, p1, r, M, gs, e, ls, rs', rfl, B4, e1, e2, np1, nr, by omega, by omega, by omega, fun z hz => ?_, fun H5 e5 k5 B5 => ?_⟩
    · rcases List.mem_append.mp hz with h | h
      · exact nums_mem.mp (lm z h)
      · exact nums_mem.mp (rm' z h)
    have e15 := k5 _ _ np1 e1
    have e25 := k5 _ _ nr e2
    have eo5 := k5 _ _ Mod eo4
    have em5 := k5 _ _ Mmd em4
    have kW : Keep (fun x => Old H x ∨ x = od ∨ x = md) H1 H5 := k4.weak.trans (k5.mono fun x h => .inl (MO x h))
    have kM5 : Keep M H H5 := k1.trans (k4.weak.trans k5)
    clear k5 e1 e2 eo4 em4 hb B4
    repeat kaf_suf
    intro s1 c1 hs1 hc1
    repeat kaf_suf
    intro u1 q1 uu1 um1 ul1 hq1
    repeat kaf_suf
    intro s2 c2 hs2 hc2
    repeat kaf_suf
    intro u2 q2 uu2 um2 ul2 hq2
    repeat kaf_suf
    intro t' ht'
    repeat kaf_suf
    obtain rfl : u1 = canon ls := canon_eq uu1 (by simpa using um1)
    obtain rfl : u2 = canon rs' := canon_eq uu2 (by simpa using um2)
    have k56 : Keep Nil H5 (upd (upd (upd (upd (upd H5 s1 (SetO c.w s1 (fun j => decide (j ∈ ls)) c1)) q1 (.lst ((canon ls).map V.int))) s2 (SetO c.w s2 (fun j => decide (j ∈ rs')) c2)) q2 (.lst ((canon rs').map V.int))) t' (.tup [.ref q1, .ref q2])) := ((((Keep.alloc hs1).new hq1).new hs2).new hq2).new ht'
    have nx : ∀ x, H5 x = none → ¬ M x ∧ ¬ Old H x := fun x h => ⟨B5.new h, fun z => z (keep_noneM kM5 (B5.new h) h)⟩
    have r7 : RowAt (fun x => Old H x ∨ x = od ∨ x = md) (upd (upd (upd (upd (upd H5 s1 (SetO c.w s1 (fun j => decide (j ∈ ls)) c1)) q1 (.lst ((canon ls).map V.int))) s2 (SetO c.w s2 (fun j => decide (j ∈ rs')) c2)) q2 (.lst ((canon rs').map V.int))) t' (.tup [.ref q1, .ref q2])) t' (canon ls, canon rs') := by
      have g1 := nx q1 (none_of_upd hq1)
      have g2 := nx q2 (none_of_upd (none_of_upd (none_of_upd hq2)))
      have g3 := nx t' (none_of_upd (none_of_upd (none_of_upd (none_of_upd ht'))))
      have wx : ∀ x, H5 x = none → x ≠ od ∧ x ≠ md := fun x h => ⟨(fun z => by rw [z, eo5] at h; cases h), (fun z => by rw [z, em5] at h; cases h)⟩
      have v1 := wx q1 (none_of_upd hq1)
      have v2 := wx q2 (none_of_upd (none_of_upd (none_of_upd hq2)))
      have v3 := wx t' (none_of_upd (none_of_upd (none_of_upd (none_of_upd ht'))))
      exact ⟨q1, q2, upd_same, get_new ht' (get_new hq2 (get_new hs2 upd_same)), get_new ht' upd_same, fun z => z.elim g3.2 fun z => z.elim v3.1 v3.2, fun z => z.elim g1.2 fun z => z.elim v1.1 v1.2, fun z => z.elim g2.2 fun z => z.elim v2.1 v2.2⟩
    have eo6 := k56.get (fun z => z) eo5
    have em6 := k56.get (fun z => z) em5
    have B6 := B5.same k56
    have kW6 := kW.trans k56.weak
    have kM6 := kM5.trans k56.weak
    generalize upd (upd (upd (upd (upd H5 s1 (SetO c.w s1 (fun j => decide (j ∈ ls)) c1)) q1 (.lst ((canon ls).map V.int))) s2 (SetO c.w s2 (fun j => decide (j ∈ rs')) c2)) q2 (.lst ((canon rs').map V.int))) t' (.tup [.ref q1, .ref q2]) = H6 at k56 r7 eo6 em6 B6 kW6 kM6 ⊢
    clear hs1 hq1 hs2 hq2 ht' uu1 um1 ul1 uu2 um2 ul2 kW kM5 k56 nx eo5 em5 e15 e25 B5
    refine v_setK em6 (few1 (by omega)) ?_
    have B7 := B6.keepY (N := fun x => x = md) (H' := upd H6 md (.dK (putK kvs (.inl ((ixG (addG gs (canon ls, canon rs')) (canon ls, canon rs') : Nat) : Int)) (.ref t')))) (Keep.refl.set rfl) (fun x e => by subst e; exact ⟨(fun l z => by rw [em6] at z; cases z), (fun _ _ l z => by rw [em6] at z; cases z)⟩) fun x h e => Mmd (e ▸ h)
    have em7 : (upd H6 md (.dK (putK kvs (.inl ((ixG (addG gs (canon ls, canon rs')) (canon ls, canon rs') : Nat) : Int)) (.ref t')))) md = some (.dK (putK kvs (.inl ((ixG (addG gs (canon ls, canon rs')) (canon ls, canon rs') : Nat) : Int)) (.ref t'))) := upd_same
    have eo7 := get_set (u := .dK (putK kvs (.inl ((ixG (addG gs (canon ls, canon rs')) (canon ls, canon rs') : Nat) : Int)) (.ref t'))) dmo.symm eo6
    have kW7 := kW6.set (M := fun x => Old H x ∨ x = od ∨ x = md) (o := .dK (putK kvs (.inl ((ixG (addG gs (canon ls, canon rs')) (canon ls, canon rs') : Nat) : Int)) (.ref t'))) (.inr (.inr rfl))
    have kM7 := kM6.setN (o := .dK (putK kvs (.inl ((ixG (addG gs (canon ls, canon rs')) (canon ls, canon rs') : Nat) : Int)) (.ref t'))) hmd
    have r77 : RowAt (fun x => Old H x ∨ x = od ∨ x = md) (upd H6 md (.dK (putK kvs (.inl ((ixG (addG gs (canon ls, canon rs')) (canon ls, canon rs') : Nat) : Int)) (.ref t')))) t' (canon ls, canon rs') := r7.keep (Keep.refl.set (.inr (.inr rfl)))
    generalize upd H6 md (.dK (putK kvs (.inl ((ixG (addG gs (canon ls, canon rs')) (canon ls, canon rs') : Nat) : Int)) (.ref t'))) = H7 at B7 em7 eo7 kW7 kM7 r77 ⊢
    clear r7 eo6 em6 B6 kW6 kM6
    have eF' : addG gs (canon ls, canon rs') = gsF ds sp (i + 1) := by
      rw [gsF, ← eF, ← zD0, ← zD1, ← zD2, hrs', ← hls]
    have gk := ixG_get (addG_mem gs (canon ls, canon rs'))
    have kl' := putK_len1 (kvs := kvs) (k := Sum.inl ((ixG (addG gs (canon ls, canon rs')) (canon ls, canon rs') : Nat) : Int)) (v := V.ref t')
    have rest : ∀ g, g < (addG gs (canon ls, canon rs')).length → (g < gs.length ∨ g = ixG (addG gs (canon ls, canon rs')) (canon ls, canon rs')) → ∃ gm t, (addG gs (canon ls, canon rs'))[g]? = some gm ∧ valV (putK kvs (.inl ((ixG (addG gs (canon ls, canon rs')) (canon ls, canon rs') : Nat) : Int)) (.ref t')) (.inl (g : Int)) = some (.ref t) ∧ RowAt (fun x => Old H x ∨ x = od ∨ x = md) H7 t gm := fun g hg hc => by
      rw [valV_put]
      split
      · rename_i e
        injection e with e
        obtain rfl : g = ixG (addG gs (canon ls, canon rs')) (canon ls, canon rs') := by omega
        exact ⟨_, t', gk, rfl, r77⟩
      · rename_i e
        rcases hc with hc | rfl
        · obtain ⟨gm, t, w1, w2, w3⟩ := hk g hc
          exact ⟨gm, t, addG_get w1, w2, w3.keep kW7⟩
        · exact absurd rfl e
    generalize hgi : ixG (addG gs (canon ls, canon rs')) (canon ls, canon rs') = gi at gk em7 kl' rest ⊢
    have gil := (List.getElem?_eq_some_iff.mp gk).1
    repeat kaf_suf
    refine v_ninL eo7 ?_
    by_cases hmem : (canon ls, canon rs') ∈ gs
    · have ea : addG gs (canon ls, canon rs') = gs := by unfold addG; rw [if_pos hmem]
      rw [ea] at gil B7 rest
      rw [decide_eq_true (nums_mem.mpr ⟨Int.natCast_nonneg gi, by omega⟩)]
      repeat kaf_suf
      exact ⟨_, _, _, _, gs, _, _, rfl, kM7, by rw [← eF', ea], B7, by omega, eo7, em7, by omega, keysI_old ke_ (nums_mem.mpr ⟨Int.natCast_nonneg gi, by omega⟩), fun g hg => rest g hg (.inl hg)⟩
    · have ea : addG gs (canon ls, canon rs') = gs ++ [(canon ls, canon rs')] := by unfold addG; rw [if_neg hmem]
      have gin : gi = gs.length := by
        rw [ea] at gk gil
        rw [List.length_append, List.length_singleton] at gil
        by_cases lt : gi < gs.length
        · rw [List.getElem?_append_left lt] at gk
          exact absurd (List.mem_of_getElem? gk) hmem
        · omega
      have nl : (gs ++ [(canon ls, canon rs')]).length = gs.length + 1 := by rw [List.length_append]; rfl
      rw [decide_eq_false (fun z => by have := nums_mem.mp z; omega)]
      have lm : (nums gs.length).length = gs.length := nums_len
      repeat kaf_suf
      refine ⟨_, _, _, _, addG gs (canon ls, canon rs'), _, _, rfl, kM7.setN hod0, eF', B7.keepY (N := fun x => x = od) (Keep.refl.set rfl) (fun x e => by subst e; exact ⟨(fun l z => by rw [eo7] at z; cases z), (fun _ _ l z => by rw [eo7] at z; cases z)⟩) fun x h e => Mod (e ▸ h), by rw [ea, nl]; omega, ?_, get_set dmo em7, by omega, ?_, fun g hg => ?_⟩
      · rw [ea, nl, nums_succ, List.map_append, upd_same, gin]; rfl
      · rw [keysI_new ke_ (fun z => by have := nums_mem.mp z; omega), ea, nl, nums_succ, gin]
      · obtain ⟨gm, t, w1, w2, w3⟩ := rest g hg (by rw [ea, nl] at hg; omega)
        exact ⟨gm, t, w1, w2, w3.keep (Keep.refl.set (.inr (.inl rfl)))⟩
  · rintro σ H1 ⟨x6, x7, x8, x9, gs, e, kvs, rfl, k1, eF, B1, gl, eo, em, kl, ke_, hk⟩
    repeat kaf_suf
    intro p hp
    have kp : Keep Nil H1 (upd H1 p (.tup [.ref od, .ref md])) := Keep.alloc hp
    refine k _ p od md gs e (k1.trans kp.weak) (keep_noneM k1 (B1.new hp) hp) upd_same eF (B1.same kp) gl hod0 (kp.get (fun z => z) eo) hmd ⟨kvs, kp.get (fun z => z) em, fun g hg => ?_⟩ ⟨kvs, kp.get (fun z => z) em, ke_⟩
    obtain ⟨gm, t, q1, q2, q3⟩ := hk g hg
    exact ⟨gm, t, q1, q2, (q3.keep kp.weak).weak fun x h => .inl h⟩
theorem cal_law_games {c : Cn} {mg : Str → Option Value} {base : Heap} (T : Txt c mg) : Cal c.P c.w c.K mg base CX0 3 "_law_games" (sp_law_games c) := by
  obtain ⟨f, fd, F, g, b⟩ := T.F_law_games
  exact ⟨f, fd, ["book", "d", "spot", "many"], F.ok (k := 2) (N := N_law_games) sc_law_games (fun vs H Q E h => h.1) (fun cdv A outer s H vs Q E hr h => ⟨t_law_games c, by
  exact (pss_cons (ps_set (i := 4) sc_law_games.nd rfl (Or.inl rfl) (pe_disp (pps_cons pe_int (pe_tup (pa_cons (pe_lst pa_nil) (pa_cons (pe_lst pa_nil) pa_nil))) pps_nil) rfl rfl (by simp) (by decide)))
  (pss_cons (ps_set (i := 5) sc_law_games.nd rfl (Or.inl rfl) (pe_lst (pa_cons pe_int pa_nil)))
  (pss_cons (ps_for PassesOwn.never rfl (pi_range1 rfl T.n_range (pa_cons (pv 3) pa_nil)) (pg_name (i := 6) sc_law_games.nd rfl (Or.inl rfl))
  (pss_cons (ps_set (i := 7) sc_law_games.nd rfl (Or.inl rfl) (e_call (cal_law_picked T) hr (by decide) pass0 rfl (pa_cons (pe_ix (x_ix (hu64 hr)) (pv 1) (pe_op o_add (pv 2) (pe_op o_mul pe_int (pv 6))) (fun _ _ => rfl)) (pa_cons (pv 5) pa_nil))))
  (pss_cons (ps_set (i := 8) sc_law_games.nd rfl (Or.inl rfl) (e_call (cal_law_picked T) hr (by decide) pass0 rfl (pa_cons (pe_ix (x_ix (hu64 hr)) (pv 1) (pe_op o_add (pe_op o_add (pv 2) (pe_op o_mul pe_int (pv 6))) pe_int) (fun _ _ => rfl)) (pa_cons (pv 5) pa_nil))))
  (C8.pss_cut (ps_if (pt_cmpR (o_eq (hu64 hr)) (pe_op o_mod (pe_ix (x_ix (hu64 hr)) (pv 1) (pe_op o_add (pe_op o_add (pv 2) (pe_op o_mul pe_int (pv 6))) pe_int) (fun _ _ => rfl)) pe_int) pe_int (nomark _)) (pss_one (ps_set (i := 8) sc_law_games.nd rfl (Or.inl rfl) (pe_callTy (k_list rfl) (by rfl) T.n_list (by decide +kernel) (pa_cons (pv 7) pa_nil)))) pss_nil)
  (pss_cons (ps_set (i := 9) sc_law_games.nd rfl (Or.inl rfl) (e_meth (met_Book_game T) hr (by decide) pass0 (pv 0) (pa_cons (pv 7) (pa_cons (pv 8) pa_nil))))
  (pss_cons (ps_asg (pe_tup (pa_cons (pe_callB (k_sorted rfl) (by rfl) T.n_sorted (by decide +kernel) (pa_cons (pe_callTy (k_set rfl) (by rfl) T.n_set (by decide +kernel) (pa_cons (pv 7) pa_nil)) pa_nil)) (pa_cons (pe_callB (k_sorted rfl) (by rfl) T.n_sorted (by decide +kernel) (pa_cons (pe_callTy (k_set rfl) (by rfl) T.n_set (by decide +kernel) (pa_cons (pv 8) pa_nil)) pa_nil)) pa_nil))) (pg_sub (pv 4) (pv 9) (s_set (hu64 hr))))
  (pss_one (ps_if (pt_cmpR (o_notin (hu65 hr)) (pv 9) (pv 5) (by rfl)) (pss_one (ps_expr (pe_bm PySem.F.plainAttrs_list PySem.F.slot_list_append PySem.F.type_list_append mt_append (pv 5) (pa_cons (pv 9) pa_nil)))) pss_nil))))))))
  (pss_one (ps_ret (pe_tup (pa_cons (pv 5) (pa_cons (pv 4) pa_nil)))))))), p_law_games T h⟩), g, F.kp, b⟩

/-! no list lies -/
theorem v_eqB {K : PySem.W.Frag} {H : Hp} {Q : VK} {a b : Bool} (k : Q (.bl (decide (a = b))) H) : cEq K (.bl a) (.bl b) H Q := .inl ⟨rfl, by
  have e : decide (V.bl a = V.bl b) = decide (a = b) := by
    by_cases h : a = b
    · subst h; simp
    · rw [decide_eq_false h, decide_eq_false (fun z => h (V.bl.inj z))]
  rw [e]; exact k⟩
theorem v_neB {K : PySem.W.Frag} {H : Hp} {Q : VK} {a b : Bool} (k : Q (.bl (!decide (a = b))) H) : cNe K (.bl a) (.bl b) H Q := .inl ⟨rfl, by
  have e : decide (V.bl a = V.bl b) = decide (a = b) := by
    by_cases h : a = b
    · subst h; simp
    · rw [decide_eq_false h, decide_eq_false (fun z => h (V.bl.inj z))]
  rw [e]; exact k⟩
section
variable {W : Addr → Prop} {H : Hp} {K : PySem.W.Frag} {Q : VK} {x : V} {ds : List PyData}
theorem v_takeV (al : Al W H) (h : Rp W H x (.list ds)) (k : Nat) (q : ∀ (p : Addr) (H' : Hp), Keep Nil H H' → Rp W H' (.ref p) (.list (ds.take k)) → Q (.ref p) H') : bSl K x none (some (k : Int)) H Q := by
  obtain ⟨a, xs, rfl, e, n, r⟩ := h.list_
  refine v_slL e fun p hp => q p _ (Keep.alloc hp) ?_
  rw [cutV_take]
  exact .lst upd_same (al p hp) ((r.same (Keep.alloc hp)).take k)
theorem v_dropV (al : Al W H) (h : Rp W H x (.list ds)) (k : Nat) (q : ∀ (p : Addr) (H' : Hp), Keep Nil H H' → Rp W H' (.ref p) (.list (ds.drop k)) → Q (.ref p) H') : bSl K x (some (k : Int)) none H Q := by
  obtain ⟨a, xs, rfl, e, n, r⟩ := h.list_
  refine v_slL e fun p hp => q p _ (Keep.alloc hp) ?_
  rw [cutV_drop]
  exact .lst upd_same (al p hp) ((r.same (Keep.alloc hp)).drop k)
theorem v_revV (al : Al W H) (h : Rp W H x (.list ds)) (q : ∀ (p : Addr) (H' : Hp), Keep Nil H H' → Rp W H' (.ref p) (.list ds.reverse) → Q (.ref p) H') : kRev K x H Q := by
  obtain ⟨a, xs, rfl, e, n, r⟩ := h.list_
  exact r_krev e fun p hp => q p _ (Keep.alloc hp) (.lst upd_same (al p hp) (r.same (Keep.alloc hp)).rev)
theorem v_listV' (al : Al W H) (h : Rp W H x (.list ds)) (q : ∀ (p : Addr) (H' : Hp), H p = none → Keep Nil H H' → Rp W H' (.ref p) (.list ds) → Q (.ref p) H') : kList K [x] H Q := by
  obtain ⟨a, xs, rfl, e, n, r⟩ := h.list_
  exact v_listL e fun p hp => q p _ hp (Keep.alloc hp) (.lst upd_same (al p hp) (r.same (Keep.alloc hp)))
theorem v_lenV (h : Rp W H x (.list ds)) (q : Q (.int ds.length) H) : kLen K [x] H Q := by
  obtain ⟨a, xs, rfl, e, n, r⟩ := h.list_
  exact v_lenL e (by rw [r.len]; exact q)
end
theorem MvW.fresh {W : Addr → Prop} {H : Hp} {mv x : Addr} {gs : List Gm} {A : Nat → Prop} (m : MvW W H mv gs A) (h : H x = none) : MvW (fun y => W y ∨ y = x) H mv gs A := by
  obtain ⟨kvs, e, q⟩ := m
  refine ⟨kvs, e, fun g hg => ?_⟩
  obtain ⟨gm, t, e1, e2, u, v, h1, h2, h3, n1, n2, n3⟩ := q g hg
  have ne : ∀ {y o}, H y = some o → y ≠ x := fun hy z => by rw [z, h] at hy; cases hy
  exact ⟨gm, t, e1, e2, u, v, h1, h2, h3, fun z => z.elim n1 (ne h1), fun z => z.elim n2 (ne h2), fun z => z.elim n3 (ne h3)⟩
theorem MvW.setL {W : Addr → Prop} {H : Hp} {mv x : Addr} {gs : List Gm} {A : Nat → Prop} {l m : List V} (M : MvW W H mv gs A) (h : H x = some (.lst l)) (w : W x) : MvW W (upd H x (.lst m)) mv gs A := by
  obtain ⟨kvs, e, q⟩ := M
  exact ⟨kvs, get_set (fun z => by rw [z, h] at e; cases e) e, fun g hg => by
    obtain ⟨gm, t, e1, e2, r⟩ := q g hg
    exact ⟨gm, t, e1, e2, r.keep (Keep.refl.set w)⟩⟩
def ansD (w : Str) (ps : List (Int × Int)) : PyData := .tuple [.str w, .list (ps.map prD)]
def goodW (w : Str) : Prop := pl (.str w) = true
theorem pap_holds {gs : List Gm} (o : GOk gs) {g h : Nat} {ys : List (Int × Int)} (p : Pap gs g h ys) (rg : ∀ z ∈ ys, 0 ≤ z.1 ∧ 0 ≤ z.2) (hw : ge gs g h = true) : ∀ z ∈ ys, phF gs (fun x y => decide ((x, y) ∈ ys)) z.1 z.2 = true := fun z hz => by
  obtain ⟨z1, z2⟩ := rg z hz
  have hv := p.val z hz
  rw [hw] at hv
  have hp := phF_I o z1 z2
  rw [hv] at hp
  have hcl := p.cl z hz
  rw [hw] at hcl
  unfold pwF at hcl
  rw [if_pos rfl] at hcl
  unfold phF at hp ⊢
  rw [Bool.and_eq_true] at hp ⊢
  refine ⟨List.all_eq_true.mpr fun r hr => ?_, List.all_eq_true.mpr fun r hr => ?_⟩
  · have := List.all_eq_true.mp hp.1 r hr
    obtain ⟨q, hq⟩ := Option.isSome_iff_exists.mp this
    have qm := hcl q (hoF_mem.mpr (.inl ⟨r, hr, hq⟩))
    rw [bRf_some, Bool.or_eq_true]
    rcases (bRf_is hq).2 with ⟨m, e⟩ | ⟨e, m⟩
    · exact .inl (List.any_eq_true.mpr ⟨_, m, decide_eq_true (by rw [← e]; exact qm)⟩)
    · exact .inr (List.any_eq_true.mpr ⟨_, m, decide_eq_true (by rw [← e]; exact qm)⟩)
  · have := List.all_eq_true.mp hp.2 r hr
    obtain ⟨q, hq⟩ := Option.isSome_iff_exists.mp this
    have qm := hcl q (hoF_mem.mpr (.inr ⟨r, hr, hq⟩))
    rw [bLf_some, Bool.or_eq_true]
    rcases (bLf_is hq).2 with ⟨m, e⟩ | ⟨e, m⟩
    · exact .inl (List.any_eq_true.mpr ⟨_, m, decide_eq_true (by rw [← e]; exact qm)⟩)
    · exact .inr (List.any_eq_true.mpr ⟨_, m, decide_eq_true (by rw [← e]; exact qm)⟩)
theorem pap_bars {gs : List Gm} (o : GOk gs) {g h : Nat} {ys : List (Int × Int)} (p : Pap gs g h ys) (rg : ∀ z ∈ ys, 0 ≤ z.1 ∧ 0 ≤ z.2) (hw : ge gs g h = false) : ∀ z ∈ ys, pbF gs ys z.1 z.2 = true := fun z hz => by
  obtain ⟨z1, z2⟩ := rg z hz
  have hv := p.val z hz
  rw [hw] at hv
  have hp := phF_I o z1 z2
  rw [hv] at hp
  have hcl := p.cl z hz
  rw [hw] at hcl
  unfold pwF at hcl
  rw [if_neg (by decide)] at hcl
  unfold pbF
  rw [Bool.or_eq_true]
  rcases baF_bar hp with ⟨r, hr, e⟩ | ⟨r, hr, e⟩
  · exact .inl (List.any_eq_true.mpr ⟨r, hr, List.all_eq_true.mpr fun q hq => decide_eq_true (hcl q (by rw [e]; exact hq))⟩)
  · exact .inr (List.any_eq_true.mpr ⟨r, hr, List.all_eq_true.mpr fun q hq => decide_eq_true (hcl q (by rw [e]; exact hq))⟩)
theorem Pap.rg {gs : List Gm} (o : GOk gs) {g h : Nat} {ys : List (Int × Int)} (p : Pap gs g h ys) (hg : g < gs.length) (hh : h < gs.length) : ∀ z ∈ ys, (0 ≤ z.1 ∧ z.1 < gs.length) ∧ 0 ≤ z.2 ∧ z.2 < gs.length := by
  have c : Cl gs fun x => 0 ≤ x ∧ x < gs.length := fun x hx s m hm => by have := mvs_low o hm; omega
  exact p.low (fun z => (0 ≤ z.1 ∧ z.1 < gs.length) ∧ 0 ≤ z.2 ∧ z.2 < gs.length) ⟨by show 0 ≤ (g : Int) ∧ (g : Int) < gs.length; omega, by show 0 ≤ (h : Int) ∧ (h : Int) < gs.length; omega⟩ fun z hz q hq => pwF_cl (S1 := fun x => 0 ≤ x ∧ x < gs.length) (S2 := fun x => 0 ≤ x ∧ x < gs.length) c c hz.1 hz.2 hq
theorem Pap.len {gs : List Gm} (o : GOk gs) {g h : Nat} {ys : List (Int × Int)} (p : Pap gs g h ys) (hg : g < gs.length) (hh : h < gs.length) (few : gs.length ≤ 20) : ys.length ≤ 400 := by
  have := prod_len (a := (List.range gs.length).map Int.ofNat) (b := (List.range gs.length).map Int.ofNat) p.nd fun z hz => by
    have := p.rg o hg hh z hz
    exact ⟨List.mem_map.mpr ⟨z.1.toNat, List.mem_range.mpr (by omega), by show ((z.1.toNat : Nat) : Int) = z.1; omega⟩, List.mem_map.mpr ⟨z.2.toNat, List.mem_range.mpr (by omega), by show ((z.2.toNat : Nat) : Int) = z.2; omega⟩⟩
  rw [List.length_map, List.length_range] at this
  have := Nat.mul_le_mul few few
  omega
theorem phF_mono {gs : List Gm} {M N : Int × Int → Bool} (h : ∀ z, M z = true → N z = true) {x y : Int} (p : phF gs (fun a b => M (a, b)) x y = true) : phF gs (fun a b => N (a, b)) x y = true := by
  unfold phF at p ⊢
  rw [Bool.and_eq_true] at p ⊢
  refine ⟨List.all_eq_true.mpr fun r hr => ?_, List.all_eq_true.mpr fun r hr => ?_⟩
  · have := List.all_eq_true.mp p.1 r hr
    rw [bRf_some, Bool.or_eq_true] at this ⊢
    exact this.imp (fun q => by obtain ⟨a, b, c⟩ := List.any_eq_true.mp q; exact List.any_eq_true.mpr ⟨a, b, h _ c⟩) fun q => by obtain ⟨a, b, c⟩ := List.any_eq_true.mp q; exact List.any_eq_true.mpr ⟨a, b, h _ c⟩
  · have := List.all_eq_true.mp p.2 r hr
    rw [bLf_some, Bool.or_eq_true] at this ⊢
    exact this.imp (fun q => by obtain ⟨a, b, c⟩ := List.any_eq_true.mp q; exact List.any_eq_true.mpr ⟨a, b, h _ c⟩) fun q => by obtain ⟨a, b, c⟩ := List.any_eq_true.mp q; exact List.any_eq_true.mpr ⟨a, b, h _ c⟩
theorem pbF_mono {gs : List Gm} {ks ps : List (Int × Int)} (h : ∀ z ∈ ks, z ∈ ps) {x y : Int} (p : pbF gs ks x y = true) : pbF gs ps x y = true := by
  unfold pbF at p ⊢
  rw [Bool.or_eq_true] at p ⊢
  have m : ∀ zs : List (Int × Int), (zs.all fun z => decide (z ∈ ks)) = true → (zs.all fun z => decide (z ∈ ps)) = true := fun zs q => List.all_eq_true.mpr fun z hz => decide_eq_true (h z (of_decide_eq_true (List.all_eq_true.mp q z hz)))
  exact p.imp (fun q => by obtain ⟨a, b, c⟩ := List.any_eq_true.mp q; exact List.any_eq_true.mpr ⟨a, b, m _ c⟩) fun q => by obtain ⟨a, b, c⟩ := List.any_eq_true.mp q; exact List.any_eq_true.mpr ⟨a, b, m _ c⟩
/-- a list that holds tells what is so -/
theorem holds_true {gs : List Gm} (o : GOk gs) {ps : List (Int × Int)} (rg : ∀ z ∈ ps, 0 ≤ z.1 ∧ 0 ≤ z.2) (h : ∀ z ∈ ps, phF gs (fun x y => decide ((x, y) ∈ ps)) z.1 z.2 = true) : ∀ (n : Nat) (z : Int × Int), z.1.toNat + z.2.toNat < n → z ∈ ps → geI gs z.1 z.2 = true
  | 0, _, hn, _ => by omega
  | n + 1, z, hn, hz => by
    obtain ⟨z1, z2⟩ := rg z hz
    rw [← phF_I o z1 z2]
    have p := h z hz
    unfold phF at p ⊢
    rw [Bool.and_eq_true] at p ⊢
    refine ⟨List.all_eq_true.mpr fun r hr => ?_, List.all_eq_true.mpr fun r hr => ?_⟩
    · have q := List.all_eq_true.mp p.1 r hr
      have lr := mvs_low o hr
      rw [bRf_some, Bool.or_eq_true] at q ⊢
      refine q.imp (fun q => ?_) fun q => ?_
      · obtain ⟨a, b, c⟩ := List.any_eq_true.mp q
        have la := mvs_low o b
        exact List.any_eq_true.mpr ⟨a, b, holds_true o rg h n (a, z.2) (by show a.toNat + z.2.toNat < n; omega) (of_decide_eq_true c)⟩
      · obtain ⟨a, b, c⟩ := List.any_eq_true.mp q
        have la := mvs_low o b
        exact List.any_eq_true.mpr ⟨a, b, holds_true o rg h n (r, a) (by show r.toNat + a.toNat < n; omega) (of_decide_eq_true c)⟩
    · have q := List.all_eq_true.mp p.2 r hr
      have lr := mvs_low o hr
      rw [bLf_some, Bool.or_eq_true] at q ⊢
      refine q.imp (fun q => ?_) fun q => ?_
      · obtain ⟨a, b, c⟩ := List.any_eq_true.mp q
        have la := mvs_low o b
        exact List.any_eq_true.mpr ⟨a, b, holds_true o rg h n (a, r) (by show a.toNat + r.toNat < n; omega) (of_decide_eq_true c)⟩
      · obtain ⟨a, b, c⟩ := List.any_eq_true.mp q
        have la := mvs_low o b
        exact List.any_eq_true.mpr ⟨a, b, holds_true o rg h n (z.1, a) (by show z.1.toNat + a.toNat < n; omega) (of_decide_eq_true c)⟩
theorem bars_true {gs : List Gm} (o : GOk gs) {ps : List (Int × Int)} (rg : ∀ z ∈ ps, 0 ≤ z.1 ∧ 0 ≤ z.2) (h : ∀ z ∈ ps, pbF gs ps z.1 z.2 = true) : ∀ (n : Nat) (z : Int × Int), z.1.toNat + z.2.toNat < n → z ∈ ps → geI gs z.1 z.2 = false
  | 0, _, hn, _ => by omega
  | n + 1, z, hn, hz => by
    obtain ⟨z1, z2⟩ := rg z hz
    rw [← phF_I o z1 z2]
    have p := h z hz
    unfold pbF at p
    rw [Bool.or_eq_true] at p
    unfold phF
    rw [Bool.and_eq_false_iff]
    refine p.imp (fun q => ?_) fun q => ?_
    · obtain ⟨r, hr, c⟩ := List.any_eq_true.mp q
      have lr := mvs_low o hr
      refine List.all_eq_false.mpr ⟨r, hr, ?_⟩
      rw [Bool.not_eq_true, bRf_some, Bool.or_eq_false_iff]
      refine ⟨List.any_eq_false.mpr fun a b => ?_, List.any_eq_false.mpr fun a b => ?_⟩
      · have la := mvs_low o b
        have := bars_true o rg h n (a, z.2) (by show a.toNat + z.2.toNat < n; omega) (of_decide_eq_true (List.all_eq_true.mp c _ (prR_is.mpr (.inl ⟨b, rfl⟩))))
        rw [show geI gs a z.2 = false from this]; simp
      · have la := mvs_low o b
        have := bars_true o rg h n (r, a) (by show r.toNat + a.toNat < n; omega) (of_decide_eq_true (List.all_eq_true.mp c _ (prR_is.mpr (.inr ⟨rfl, b⟩))))
        rw [show geI gs r a = false from this]; simp
    · obtain ⟨r, hr, c⟩ := List.any_eq_true.mp q
      have lr := mvs_low o hr
      refine List.all_eq_false.mpr ⟨r, hr, ?_⟩
      rw [Bool.not_eq_true, bLf_some, Bool.or_eq_false_iff]
      refine ⟨List.any_eq_false.mpr fun a b => ?_, List.any_eq_false.mpr fun a b => ?_⟩
      · have la := mvs_low o b
        have := bars_true o rg h n (a, r) (by show a.toNat + r.toNat < n; omega) (of_decide_eq_true (List.all_eq_true.mp c _ (prL_is.mpr (.inl ⟨b, rfl⟩))))
        rw [show geI gs a r = false from this]; simp
      · have la := mvs_low o b
        have := bars_true o rg h n (z.1, a) (by show z.1.toNat + a.toNat < n; omega) (of_decide_eq_true (List.all_eq_true.mp c _ (prL_is.mpr (.inr ⟨rfl, b⟩))))
        rw [show geI gs z.1 a = false from this]; simp
/-- no list that is let by lies -/
theorem sh_true {gs : List Gm} (o : GOk gs) {ps : List (Int × Int)} {g h : Nat} {w : Str} (s : shF gs ps g h w = true) : ∀ z ∈ ps, geI gs z.1 z.2 = decide (w = "holds") := by
  have s := of_decide_eq_true s
  have rg : ∀ z ∈ ps, 0 ≤ z.1 ∧ 0 ≤ z.2 := fun z hz => ⟨(s.1 z hz).1.1, (s.1 z hz).2.1⟩
  intro z hz
  rcases s.2.2 with ⟨e, q⟩ | ⟨e, q⟩
  · rw [decide_eq_true e]
    exact holds_true o rg q _ z (Nat.lt_succ_self _) hz
  · rw [decide_eq_false (by rw [e]; decide)]
    exact bars_true o rg q _ z (Nat.lt_succ_self _) hz
theorem pap_both {gs : List Gm} (o : GOk gs) {g h x y : Nat} {ys zs : List (Int × Int)} (p : Pap gs g h ys) (q : Pap gs x y zs) (hg : g < gs.length) (hh : h < gs.length) (hx : x < gs.length) (hy : y < gs.length) (e : ge gs g h = ge gs x y) :
    shF gs (ys ++ zs) g h (pWord (ge gs g h)) = true ∧ shF gs (ys ++ zs) x y (pWord (ge gs g h)) = true := by
  have r1 := p.rg o hg hh
  have r2 := q.rg o hx hy
  have rr : ∀ z ∈ ys ++ zs, (0 ≤ z.1 ∧ z.1 < gs.length) ∧ 0 ≤ z.2 ∧ z.2 < gs.length := fun z hz => (List.mem_append.mp hz).elim (r1 z) (r2 z)
  have r1' : ∀ z ∈ ys, 0 ≤ z.1 ∧ 0 ≤ z.2 := fun z hz => ⟨(r1 z hz).1.1, (r1 z hz).2.1⟩
  have r2' : ∀ z ∈ zs, 0 ≤ z.1 ∧ 0 ≤ z.2 := fun z hz => ⟨(r2 z hz).1.1, (r2 z hz).2.1⟩
  have main : (pWord (ge gs g h) = "holds" ∧ ∀ z ∈ ys ++ zs, phF gs (fun x y => decide ((x, y) ∈ ys ++ zs)) z.1 z.2 = true) ∨ (pWord (ge gs g h) = "bars" ∧ ∀ z ∈ ys ++ zs, pbF gs (ys ++ zs) z.1 z.2 = true) := by
    cases hw : ge gs g h with
    | true =>
      refine .inl ⟨rfl, fun z hz => ?_⟩
      rcases List.mem_append.mp hz with hz | hz
      · exact phF_mono (M := fun z => decide (z ∈ ys)) (N := fun z => decide (z ∈ ys ++ zs)) (fun z q => decide_eq_true (List.mem_append_left _ (of_decide_eq_true q))) (pap_holds o p r1' hw z hz)
      · exact phF_mono (M := fun z => decide (z ∈ zs)) (N := fun z => decide (z ∈ ys ++ zs)) (fun z q => decide_eq_true (List.mem_append_right _ (of_decide_eq_true q))) (pap_holds o q r2' (e ▸ hw) z hz)
    | false =>
      refine .inr ⟨rfl, fun z hz => ?_⟩
      rcases List.mem_append.mp hz with hz | hz
      · exact pbF_mono (fun z q => List.mem_append_left _ q) (pap_bars o p r1' hw z hz)
      · exact pbF_mono (fun z q => List.mem_append_right _ q) (pap_bars o q r2' (e ▸ hw) z hz)
  exact ⟨decide_eq_true ⟨rr, List.mem_append_left _ p.mem, main⟩, decide_eq_true ⟨rr, List.mem_append_right _ q.mem, main⟩⟩
abbrev N_law_true : List Str := ["book", "answer", "word", "pairs", "x", "y"]
theorem sc_law_true : FnScope N_law_true ["book", "answer"] (defScope s_law_true) := ⟨rfl, rfl, rfl, by decide +kernel, rfl, by decide +kernel, by decide +kernel⟩
def t_law_true (c : Cn) : TS :=
  (tSeq (tAsg (tVar 1) (gSeq c.K 2 (gCons (gName 2) (gCons (gName 3) gNil))))
  (tSeq (tFor (iAny c.K (tVar 3)) (gSeq c.K 2 (gCons (gName 4) (gCons (gName 5) gNil)))
  (tIfS (tTest (tOp (cNe c.K) (tCall (sp_no_less c) [] E0 (tCons (tVar 0) (tCons (tVar 4) (tCons (tVar 5) tNil)))) (tOp (cEq c.K) (tVar 2) (tC (.str "holds")))))
  (tRet (tC (.bl false)))
  tNext))
  (tRet (tC (.bl true)))))
def sp_law_true (c : Cn) : Sp := fun vs H Q E => vs.length = 2 ∧ ∃ (b : Addr) (M : Addr → Prop) (gs : List Gm) (ds : List Int) (a : V) (w : Str) (ps : List (Int × Int)), vs = [.ref b, a] ∧ BookAt c H b M gs ds ∧ gs.length ≤ 200 ∧ Rp Nil H a (ansD w ps) ∧ (∀ z ∈ ps, (0 ≤ z.1 ∧ z.1 < gs.length) ∧ 0 ≤ z.2 ∧ z.2 < gs.length) ∧ (∀ z ∈ ps, geI gs z.1 z.2 = decide (w = "holds")) ∧
  ∀ (H' : Hp), Keep Nil H H' → Q (.bl true) H'
theorem p_law_true {c : Cn} {mg : Str → Option Value} (T : Txt c mg) {vs : List V} {H : Hp} {Q : VK} {E : XK} (h : sp_law_true c vs H Q E) : t_law_true c { nx := fun _ H' => Q .non H', rt := Q } (start N_law_true vs) H := by
  obtain ⟨_, b, M, gs, ds, a, w, ps, rfl, B, few, ra, rg, tr, k⟩ := h
  obtain ⟨a0, xw, xl, rfl, ea, _, rw_, rl⟩ := ra.two
  cases rw_.str_
  obtain ⟨la, us, rfl, ela, _, rus⟩ := rl.list_
  have ul := rus.len
  rw [List.length_map] at ul
  unfold t_law_true
  repeat kaf_suf
  refine r_seqT ea rfl (r_gcons ?_)
  repeat kaf_suf
  refine r_gcons ?_
  repeat kaf_suf
  refine r_gnil ?_
  repeat kaf_suf
  refine for_list (xs := us) (fun j σ H' => ∃ (x4 x5 : Option V), σ = [some (.ref b), some (.ref a0), some (.str w), some (.ref la), x4, x5] ∧ Keep Nil H H') ⟨_, _, rfl, Keep.refl⟩ ?_ ?_ ?_
  · rintro j σ H' _ ⟨_, _, _, kk⟩; exact SqL.of (kk.get (fun z => z) ela)
  · rintro j x σ H1 hj ⟨x4, x5, rfl, kk⟩
    obtain ⟨dd, hd, rx⟩ := rus.at' hj
    rw [List.getElem?_map] at hd
    obtain ⟨z, hz, rfl⟩ := Option.map_eq_some_iff.mp hd
    obtain ⟨t, rfl, ht, _⟩ := prD_ rx
    have zm := List.mem_of_getElem? hz
    obtain ⟨⟨a0', a1⟩, b0, b1⟩ := rg z zm
    have hv := tr z zm
    have ht1 : H1 t = some (.tup [.int z.1, .int z.2]) := kk.get (fun z => z) ht
    obtain ⟨zx, zy⟩ := z
    simp only at a0' a1 b0 b1 hv ht1
    obtain ⟨xn, rfl⟩ := Int.eq_ofNat_of_zero_le a0'
    obtain ⟨yn, rfl⟩ := Int.eq_ofNat_of_zero_le b0
    refine r_seqT ht1 rfl (r_gcons ?_)
    repeat kaf_suf
    refine r_gcons ?_
    repeat kaf_suf
    refine r_gnil ?_
    repeat kaf_suf
    refine ⟨rfl, b, M, gs, ds, xn, yn, rfl, B.same kk, by omega, by omega, by omega, Nat.le_trans (Nat.mul_le_mul (show xn + 1 ≤ 200 by omega) (show yn + 1 ≤ 200 by omega)) (by omega), fun H2 k2 => ?_⟩
    have hv' : ge gs xn yn = decide (w = "holds") := by
      unfold geI at hv
      rw [Int.toNat_natCast, Int.toNat_natCast] at hv; exact hv
    rw [hv']
    repeat kaf_suf
    refine v_neB ?_
    rw [decide_eq_true rfl]
    repeat kaf_suf
    exact ⟨_, _, rfl, kk.trans k2⟩
  · rintro σ H1 ⟨x4, x5, rfl, kk⟩
    repeat kaf_suf
    exact k _ kk
theorem cal_law_true {c : Cn} {mg : Str → Option Value} {base : Heap} (T : Txt c mg) : Cal c.P c.w c.K mg base CX0 6 "_law_true" (sp_law_true c) := by
  obtain ⟨f, fd, F, g, b⟩ := T.F_law_true
  exact ⟨f, fd, ["book", "answer"], F.ok (k := 5) (N := N_law_true) sc_law_true (fun vs H Q E h => h.1) (fun cdv A outer s H vs Q E hr h => ⟨t_law_true c, by
  exact (pss_cons (ps_asg (pv 1) (g_seq rfl (pgs_cons (pg_name (i := 2) sc_law_true.nd rfl (Or.inl rfl)) (pgs_cons (pg_name (i := 3) sc_law_true.nd rfl (Or.inl rfl)) pgs_nil))))
  (pss_cons (ps_for PassesOwn.never rfl (pi_any (pv 3)) (g_seq rfl (pgs_cons (pg_name (i := 4) sc_law_true.nd rfl (Or.inl rfl)) (pgs_cons (pg_name (i := 5) sc_law_true.nd rfl (Or.inl rfl)) pgs_nil)))
  (pss_one (ps_if (pt_cmpR (o_ne (hu64 hr)) (e_call (cal_no_less T) hr (by decide) pass0 rfl (pa_cons (pv 0) (pa_cons (pv 4) (pa_cons (pv 5) pa_nil)))) (pe_cmpR (o_eq (hu64 hr)) (pv 2) pe_str (nomark _)) (nomark _)) (pss_one (ps_ret pe_bl)) pss_nil)))
  (pss_one (ps_ret pe_bl)))), p_law_true T h⟩), g, F.kp, b⟩
abbrev N_law_lists : List Str := ["d", "order", "one", "word", "some", "k"]
theorem sc_law_lists : FnScope N_law_lists ["d", "order", "one"] (defScope s_law_lists) := ⟨rfl, rfl, rfl, by decide +kernel, rfl, by decide +kernel, by decide +kernel⟩
def t_law_lists (c : Cn) : TS :=
  (tSeq (tAsg (tOp (bIx c.P c.w c.K) (tLst (tCons (tC (.str "holds")) (tCons (tC (.str "bars")) tNil))) (tOp bMod (tOp (bIx c.P c.w c.K) (tVar 0) (tC (.int 30))) (tC (.int 2)))) (gName 3))
  (tSeq (tAsg (tLst tNil) (gName 4))
  (tSeq (tFor (iRng1 (tCons (tOp bMod (tOp (bIx c.P c.w c.K) (tVar 0) (tC (.int 31))) (tC (.int 9))) tNil)) (gName 5)
  (tDrop (tBM c.K "list" rAppend (tVar 4) (tCons (tTup (tCons (tOp (bIx c.P c.w c.K) (tVar 1) (tOp bMod (tOp (bIx c.P c.w c.K) (tVar 0) (tOp (bAdd c.K) (tC (.int 32)) (tOp bMul (tC (.int 2)) (tVar 5)))) (tCB (kLen c.K) (tCons (tVar 1) tNil)))) (tCons (tOp (bIx c.P c.w c.K) (tVar 1) (tOp bMod (tOp (bIx c.P c.w c.K) (tVar 0) (tOp (bAdd c.K) (tC (.int 33)) (tOp bMul (tC (.int 2)) (tVar 5)))) (tCB (kLen c.K) (tCons (tVar 1) tNil)))) tNil))) tNil))))
  (tRet (tLst (tCons (tTup (tCons (tVar 3) (tCons (tVar 4) tNil))) (tCons (tTup (tCons (tOp (bIx c.P c.w c.K) (tVar 2) (tC (.int 0))) (tCons (tOp (bAdd c.K) (tOp (bIx c.P c.w c.K) (tVar 2) (tC (.int 1))) (tVar 4)) tNil))) (tCons (tTup (tCons (tVar 3) (tCons (tSl (bSl c.K) (tVar 4) tNoPart (tPart (tC (.int 1)))) tNil))) tNil))))))))
def inRg (gs : List Gm) (ps : List (Int × Int)) : Prop := ∀ z ∈ ps, (0 ≤ z.1 ∧ z.1 < gs.length) ∧ 0 ≤ z.2 ∧ z.2 < gs.length
def sp_law_lists (c : Cn) : Sp := fun vs H Q E => vs.length = 3 ∧ ∃ (d od : Addr) (ds : List Int) (gs : List Gm) (a : V) (w : Str) (ps : List (Int × Int)), vs = [.ref d, .ref od, a] ∧ H d = some (.lst (ds.map V.int)) ∧ (∀ z ∈ ds, 0 ≤ z) ∧ 60 ≤ ds.length ∧ H od = some (.lst ((nums gs.length).map V.int)) ∧ 0 < gs.length ∧ Rp Nil H a (ansD w ps) ∧ inRg gs ps ∧ ps.length ≤ 1000 ∧
  ∀ (H' : Hp) (v : V) (w2 : Str) (p1 p2 p3 : List (Int × Int)), Keep Nil H H' → Rp Nil H' v (.list [ansD w2 p1, ansD w p2, ansD w2 p3]) → inRg gs p1 → inRg gs p2 → inRg gs p3 → p1.length ≤ 2000 → p2.length ≤ 2000 → p3.length ≤ 2000 → Q v H'
theorem p_law_lists {c : Cn} {mg : Str → Option Value} (T : Txt c mg) {vs : List V} {H : Hp} {Q : VK} {E : XK} (h : sp_law_lists c vs H Q E) : t_law_lists c { nx := fun _ H' => Q .non H', rt := Q } (start N_law_lists vs) H := by
  obtain ⟨_, d, od, ds, gs, a, w, ps, rfl, ed, d0, dl, eo, pos, ra, rg, pl1, k⟩ := h
  have dat : ∀ j : Int, 0 ≤ j → j < 60 → ∃ z, atI (ds.map V.int) j = some (.int z) ∧ 0 ≤ z := fun j j0 j2 => by
    obtain ⟨z, hz⟩ : ∃ z, ds[j.toNat]? = some z := ⟨_, List.getElem?_eq_getElem (by omega)⟩
    exact ⟨z, atI_get (n := j.toNat) (by rw [List.getElem?_map, hz]; rfl) (by omega), d0 z (List.mem_of_getElem? hz)⟩
  have ln : ((nums gs.length).map V.int).length = gs.length := by rw [List.length_map, nums_len]
  have lp : 0 < (((nums gs.length).map V.int).length : Int) := by omega
  have ix : ∀ z : Int, 0 ≤ z → ∃ n : Nat, atI ((nums gs.length).map V.int) (z % (((nums gs.length).map V.int).length : Int)) = some (.int (n : Int)) ∧ n < gs.length := fun z z0 => by
    have r0 := Int.emod_nonneg z (show (((nums gs.length).map V.int).length : Int) ≠ 0 by omega)
    have r1 := Int.emod_lt_of_pos z lp
    refine ⟨(z % (((nums gs.length).map V.int).length : Int)).toNat, ?_, by omega⟩
    refine atI_get (n := (z % (((nums gs.length).map V.int).length : Int)).toNat) ?_ (by omega)
    rw [List.getElem?_map, nums_get (by omega)]; rfl
  obtain ⟨z0, hz0, z00⟩ := dat 30 (by omega) (by omega)
  obtain ⟨z1, hz1, z10⟩ := dat 31 (by omega) (by omega)
  unfold t_law_lists
  repeat kaf_suf
  intro l0 hl0
  have k0 : Keep Nil H (upd H l0 (.lst [.str "holds", .str "bars"])) := Keep.alloc hl0
  have el0 : (upd H l0 (.lst [.str "holds", .str "bars"])) l0 = some (.lst [.str "holds", .str "bars"]) := upd_same
  generalize upd H l0 (.lst [.str "holds", .str "bars"]) = H0 at k0 el0 ⊢
  have ed0 := k0.get (fun z => z) ed
  have eo0 := k0.get (fun z => z) eo
  obtain ⟨w2, hw2⟩ : ∃ w2 : Str, atI [V.str "holds", V.str "bars"] (z0 % 2) = some (.str w2) := by
    have h0 : 0 ≤ z0 % 2 := by omega
    have h1 : z0 % 2 < 2 := by omega
    generalize z0 % 2 = r at h0 h1
    have : r = 0 ∨ r = 1 := by omega
    rcases this with rfl | rfl
    · exact ⟨_, rfl⟩
    · exact ⟨_, rfl⟩
  clear hl0
  repeat kaf_suf
  intro sm hsm
  have hsm0 : H sm = none := keep_none k0 hsm
  have k1 := k0.new (o := .lst []) hsm
  have esm : (upd H0 sm (.lst [])) sm = some (.lst (([] : List Addr).map V.ref)) := upd_same
  have k01 : Keep Nil H0 (upd H0 sm (.lst [])) := Keep.alloc hsm
  have ed1 := k01.get (fun z => z) ed0
  have nsd : d ≠ sm := ne_old hsm ed0
  have nso : od ≠ sm := ne_old hsm eo0
  have eo1 := k01.get (fun z => z) eo0
  have ra1 : Rp (fun x => x = sm) (upd H0 sm (.lst [])) a (ansD w ps) := ((ra.same k0).grow (W' := fun x => x = sm) fun x e => .inr (e ▸ hsm)).same k01
  generalize upd H0 sm (.lst []) = H1 at k1 esm ed1 eo1 ra1 ⊢
  clear k01 hsm ed0 eo0 k0
  repeat kaf_suf
  refine for_range (lo := 0) (n := (z1 % 9).toNat) (fun i σ H' => ∃ (x5 : Option V) (bs : List Addr) (qs : List (Int × Int)), σ = [some (.ref d), some (.ref od), some a, some (.str w2), some (.ref sm), x5] ∧ Keep Nil H H' ∧ H' d = some (.lst (ds.map V.int)) ∧ H' od = some (.lst ((nums gs.length).map V.int)) ∧ Rp (fun x => x = sm) H' a (ansD w ps) ∧ H' sm = some (.lst (bs.map V.ref)) ∧ Paired (PrT H') bs qs ∧ inRg gs qs ∧ qs.length ≤ i) ⟨_, [], [], rfl, k1, ed1, eo1, ra1, esm, .nil, (fun _ h => by cases h), by simp⟩ ?_ ?_
  · rintro i σ H2 hi ⟨x5, bs, qs, rfl, k2, ed2, eo2, ra2, es2, pp2, rg2, ql2⟩
    obtain ⟨za, hza, za0⟩ := dat (32 + 2 * (0 + (i : Int))) (by omega) (by omega)
    obtain ⟨zc, hzc, zc0⟩ := dat (33 + 2 * (0 + (i : Int))) (by omega) (by omega)
    obtain ⟨g, hg, gl'⟩ := ix za za0
    obtain ⟨h_, hh, hl'⟩ := ix zc zc0
    have bl := Paired.length pp2
    repeat kaf_suf
    intro t ht
    have kt : Keep Nil H2 (upd H2 t (.tup [.int g, .int h_])) := Keep.alloc ht
    have es3 := kt.get (fun z => z) es2
    have bml : (bs.map V.ref).length ≤ 90000 := by rw [List.length_map]; omega
    repeat kaf_suf
    have pp3 : Paired (PrT (upd H2 t (.tup [.int g, .int h_]))) bs qs := paired_keep pp2 fun t z (r : PrT _ t z) => kt.get (fun z => z) r
    refine ⟨_, bs ++ [t], qs ++ [((g : Int), (h_ : Int))], rfl, (k2.trans kt).setN hsm0, get_set nsd (kt.get (fun z => z) ed2), get_set nso (kt.get (fun z => z) eo2), (ra2.same kt).keep (Keep.refl.set rfl), by rw [List.map_append]; exact upd_same, Paired.snoc (paired_keep pp3 fun t z (r : PrT _ t z) => get_set (lt_ne es3 r) r) (get_set (lt_ne es3 upd_same) upd_same), fun z hz => ?_, by rw [List.length_append, List.length_singleton]; omega⟩
    rcases List.mem_append.mp hz with h | h
    · exact rg2 z h
    · cases List.mem_singleton.mp h
      exact ⟨⟨by show 0 ≤ (g : Int); omega, by show (g : Int) < _; omega⟩, by show 0 ≤ (h_ : Int); omega, by show (h_ : Int) < _; omega⟩
  rintro σ H2 ⟨x5, bs, qs, rfl, k2, ed2, eo2, ra2, es2, pp2, rg2, ql2⟩
  clear k1 esm ed1 eo1 ra1
  have rs2 : Rp Nil H2 (.ref sm) (.list (qs.map prD)) := .lst es2 (fun z => z) (rpa_pr pp2 fun _ _ z => z)
  have ra2' : Rp Nil H2 a (ansD w ps) := ra2.sub fun _ z => z.elim
  obtain ⟨a0, xw, xl, rfl, ea, _, rw_, rl⟩ := ra2'.two
  cases rw_.str_
  have qz : qs.length ≤ 9 := by omega
  repeat kaf_suf
  intro t1 ht1
  have kt1 : Keep Nil H2 (upd H2 t1 (.tup [.str w2, .ref sm])) := Keep.alloc ht1
  have r1 : Rp Nil (upd H2 t1 (.tup [.str w2, .ref sm])) (.ref t1) (ansD w2 qs) := Rp.mk2 upd_same (fun z => z) (.str _) (rs2.same kt1)
  have ea3 := kt1.get (fun z => z) ea
  generalize upd H2 t1 (.tup [.str w2, .ref sm]) = H3 at kt1 r1 ea3 ⊢
  clear ht1
  repeat kaf_suf
  refine v_addV Al.nil (rl.same kt1) (rs2.same kt1) (by rw [List.length_map, List.length_map]; omega) fun p2 H4 k4 r4 => ?_
  rw [← List.map_append] at r4
  have k24 := kt1.trans k4
  repeat kaf_suf
  intro t2 ht2
  have kt2 : Keep Nil H4 (upd H4 t2 (.tup [.str w, .ref p2])) := Keep.alloc ht2
  have r2 : Rp Nil (upd H4 t2 (.tup [.str w, .ref p2])) (.ref t2) (ansD w (ps ++ qs)) := Rp.mk2 upd_same (fun z => z) (.str _) (r4.same kt2)
  generalize upd H4 t2 (.tup [.str w, .ref p2]) = H5 at kt2 r2 ⊢
  clear ht2
  have k25 := k24.trans kt2
  repeat kaf_suf
  refine v_takeV Al.nil (rs2.same k25) 1 fun p3 H6 k6 r6 => ?_
  rw [← List.map_take] at r6
  repeat kaf_suf
  intro t3 ht3
  have kt3 : Keep Nil H6 (upd H6 t3 (.tup [.str w2, .ref p3])) := Keep.alloc ht3
  have r3 : Rp Nil (upd H6 t3 (.tup [.str w2, .ref p3])) (.ref t3) (ansD w2 (qs.take 1)) := Rp.mk2 upd_same (fun z => z) (.str _) (r6.same kt3)
  generalize upd H6 t3 (.tup [.str w2, .ref p3]) = H7 at kt3 r3 ⊢
  clear ht3
  repeat kaf_suf
  intro t4 ht4
  have k47 := (kt2.trans k6).trans kt3
  have k37 := k4.trans k47
  have k57 := k6.trans kt3
  refine k _ _ w2 qs (ps ++ qs) (qs.take 1) (((k2.trans k25).trans k57).new ht4) (.lst upd_same (fun z => z) (.cons ((r1.same k37).same (Keep.alloc ht4)) (.cons ((r2.same k57).same (Keep.alloc ht4)) (.cons (r3.same (Keep.alloc ht4)) .nil)))) rg2 (fun z hz => (List.mem_append.mp hz).elim (rg z) (rg2 z)) (fun z hz => rg2 z (List.mem_of_mem_take hz)) (by omega) (by rw [List.length_append]; omega) (by rw [List.length_take]; omega)
theorem cal_law_lists {c : Cn} {mg : Str → Option Value} {base : Heap} (T : Txt c mg) : Cal c.P c.w c.K mg base CX0 1 "_law_lists" (sp_law_lists c) := by
  obtain ⟨f, fd, F, g, b⟩ := T.F_law_lists
  exact ⟨f, fd, ["d", "order", "one"], F.ok (k := 0) (N := N_law_lists) sc_law_lists (fun vs H Q E h => h.1) (fun cdv A outer s H vs Q E hr h => ⟨t_law_lists c, by
  exact (pss_cons (ps_set (i := 3) sc_law_lists.nd rfl (Or.inl rfl) (pe_ix (x_ix (hu64 hr)) (pe_lst (pa_cons pe_str (pa_cons pe_str pa_nil))) (pe_op o_mod (pe_ix (x_ix (hu64 hr)) (pv 0) pe_int (fun _ _ => rfl)) pe_int) (fun _ _ => rfl)))
  (pss_cons (ps_set (i := 4) sc_law_lists.nd rfl (Or.inl rfl) (pe_lst pa_nil))
  (pss_cons (ps_for PassesOwn.never rfl (pi_range1 rfl T.n_range (pa_cons (pe_op o_mod (pe_ix (x_ix (hu64 hr)) (pv 0) pe_int (fun _ _ => rfl)) pe_int) pa_nil)) (pg_name (i := 5) sc_law_lists.nd rfl (Or.inl rfl))
  (pss_one (ps_expr (pe_bm PySem.F.plainAttrs_list PySem.F.slot_list_append PySem.F.type_list_append mt_append (pv 4) (pa_cons (pe_tup (pa_cons (pe_ix (x_ix (hu64 hr)) (pv 1) (pe_op o_mod (pe_ix (x_ix (hu64 hr)) (pv 0) (pe_op o_add pe_int (pe_op o_mul pe_int (pv 5))) (fun _ _ => rfl)) (pe_callB k_len (by rfl) T.n_len (by decide +kernel) (pa_cons (pv 1) pa_nil))) (fun _ _ => rfl)) (pa_cons (pe_ix (x_ix (hu64 hr)) (pv 1) (pe_op o_mod (pe_ix (x_ix (hu64 hr)) (pv 0) (pe_op o_add pe_int (pe_op o_mul pe_int (pv 5))) (fun _ _ => rfl)) (pe_callB k_len (by rfl) T.n_len (by decide +kernel) (pa_cons (pv 1) pa_nil))) (fun _ _ => rfl)) pa_nil))) pa_nil)))))
  (pss_one (ps_ret (pe_lst (pa_cons (pe_tup (pa_cons (pv 3) (pa_cons (pv 4) pa_nil))) (pa_cons (pe_tup (pa_cons (pe_ix (x_ix (hu64 hr)) (pv 2) pe_int (fun _ _ => rfl)) (pa_cons (pe_op o_add (pe_ix (x_ix (hu64 hr)) (pv 2) pe_int (fun _ _ => rfl)) (pv 4)) pa_nil))) (pa_cons (pe_tup (pa_cons (pv 3) (pa_cons (pe_slice s_sl (pv 4) po_none (po_some pe_int)) pa_nil))) pa_nil))))))))), p_law_lists T h⟩), g, F.kp, b⟩

abbrev N_law : List Str := ["script", "d", "book", "order", "moves", "g", "h", "x", "y", "one", "two", "both", "turned_word", "answer", "pair"]
theorem sc_law : FnScope N_law ["script"] (defScope s_law) := ⟨rfl, rfl, rfl, by decide +kernel, rfl, by decide +kernel, by decide +kernel⟩
def t_law (c : Cn) : TS :=
  (tSeq (tAsg (tCall (sp_law_draws c) [] E0 (tCons (tVar 0) (tCons (tC (.int 60)) tNil))) (gName 1))
  (tSeq (tAsg (tMake c.cBook (sp_Book_init c) [] E0 tNil) (gName 2))
  (tSeq (tAsg (tCall (sp_law_games c) [] E0 (tCons (tVar 2) (tCons (tVar 1) (tCons (tC (.int 2)) (tCons (tOp (bAdd c.K) (tC (.int 1)) (tOp bMod (tOp (bIx c.P c.w c.K) (tVar 1) (tC (.int 0))) (tC (.int 5)))) tNil))))) (gSeq c.K 2 (gCons (gName 3) (gCons (gName 4) gNil))))
  (tSeq (tAsg (tOp (bIx c.P c.w c.K) (tVar 3) (tOp bMod (tOp (bIx c.P c.w c.K) (tVar 1) (tC (.int 24))) (tCB (kLen c.K) (tCons (tVar 3) tNil)))) (gName 5))
  (tSeq (tAsg (tOp (bIx c.P c.w c.K) (tVar 3) (tOp bMod (tOp (bIx c.P c.w c.K) (tVar 1) (tC (.int 25))) (tCB (kLen c.K) (tCons (tVar 3) tNil)))) (gName 6))
  (tSeq (tAsg (tOp (bIx c.P c.w c.K) (tVar 3) (tOp bMod (tOp (bIx c.P c.w c.K) (tVar 1) (tC (.int 26))) (tCB (kLen c.K) (tCons (tVar 3) tNil)))) (gName 7))
  (tSeq (tAsg (tOp (bIx c.P c.w c.K) (tVar 3) (tOp bMod (tOp (bIx c.P c.w c.K) (tVar 1) (tC (.int 27))) (tCB (kLen c.K) (tCons (tVar 3) tNil)))) (gName 8))
  (tSeq (tAsg (tCall (sp_paper c) [] E0 (tCons (tVar 2) (tCons (tVar 5) (tCons (tVar 6) tNil)))) (gName 9))
  (tSeq (tAsg (tCall (sp_paper c) [] E0 (tCons (tVar 2) (tCons (tVar 7) (tCons (tVar 8) tNil)))) (gName 10))
  (C8.tCut (tIfS (tTest (tOp (cEq c.K) (tOp (bIx c.P c.w c.K) (tVar 9) (tC (.int 0))) (tOp (bIx c.P c.w c.K) (tVar 10) (tC (.int 0)))))
  (tSeq (tAsg (tTup (tCons (tOp (bIx c.P c.w c.K) (tVar 9) (tC (.int 0))) (tCons (tOp (bAdd c.K) (tOp (bIx c.P c.w c.K) (tVar 9) (tC (.int 1))) (tOp (bIx c.P c.w c.K) (tVar 10) (tC (.int 1)))) tNil))) (gName 11))
  (tSeq (tIfS (tOr (tTest (tOp cIsNot (tCall (sp_shows c) [] E0 (tCons (tVar 2) (tCons (tVar 5) (tCons (tVar 6) (tCons (tVar 11) tNil))))) (tC (.bl true)))) (tTest (tOp cIsNot (tCall (sp_shows c) [] E0 (tCons (tVar 2) (tCons (tVar 7) (tCons (tVar 8) (tCons (tVar 11) tNil))))) (tC (.bl true)))))
  (tRet (tC (.bl false)))
  tNext)
  (tIfS (tNot (tTru c.K (tCall (sp_law_true c) [] E0 (tCons (tVar 2) (tCons (tVar 11) tNil)))))
  (tRet (tC (.bl false)))
  tNext)))
  tNext)
  (tSeq (tAsg (tOp (bIx c.P c.w c.K) (tLst (tCons (tC (.str "holds")) (tCons (tC (.str "bars")) tNil))) (tCB kInt (tCons (tOp (cEq c.K) (tOp (bIx c.P c.w c.K) (tVar 9) (tC (.int 0))) (tC (.str "holds"))) tNil))) (gName 12))
  (tSeq (tIfS (tTest (tOp cIsNot (tCall (sp_shows c) [] E0 (tCons (tVar 2) (tCons (tVar 5) (tCons (tVar 6) (tCons (tTup (tCons (tVar 12) (tCons (tOp (bIx c.P c.w c.K) (tVar 9) (tC (.int 1))) tNil))) tNil))))) (tC (.bl false))))
  (tRet (tC (.bl false)))
  tNext)
  (tSeq (tFor (iAny c.K (tCall (sp_law_lists c) [] E0 (tCons (tVar 1) (tCons (tVar 3) (tCons (tVar 9) tNil))))) (gName 13)
  (tFor (iAny c.K (tSl (bSl c.K) (tOp (bIx c.P c.w c.K) (tVar 13) (tC (.int 1))) tNoPart (tPart (tC (.int 3))))) (gName 14)
  (tIfS (tAnd (tTru c.K (tCall (sp_shows c) [] E0 (tCons (tVar 2) (tCons (tOp (bIx c.P c.w c.K) (tVar 14) (tC (.int 0))) (tCons (tOp (bIx c.P c.w c.K) (tVar 14) (tC (.int 1))) (tCons (tVar 13) tNil)))))) (tNot (tTru c.K (tCall (sp_law_true c) [] E0 (tCons (tVar 2) (tCons (tVar 13) tNil))))))
  (tRet (tC (.bl false)))
  tNext)))
  (tRet (tC (.bl true))))))))))))))))
theorem pWord_eq (a b : Bool) : decide (pWord a = pWord b) = decide (a = b) := by cases a <;> cases b <;> decide
theorem pWord_h (a : Bool) : decide (pWord a = "holds") = a := by cases a <;> decide
theorem pap_turned {gs : List Gm} (o : GOk gs) {g h : Nat} {ys : List (Int × Int)} (p : Pap gs g h ys) : shF gs ys g h (pWord (!ge gs g h)) = false := by
  cases hs : shF gs ys g h (pWord (!ge gs g h)) with
  | false => rfl
  | true =>
    have := sh_true o hs _ p.mem
    rw [p.val _ p.mem, pWord_h] at this
    cases hw : ge gs g h <;> rw [hw] at this <;> cases this
def sp_law_law (K : PySem.W.Frag) : Sp := fun vs H Q E => vs.length = 1 ∧ ∃ (a : Addr) (ns : List Int), vs = [.ref a] ∧ SqL K H a (ns.map V.int) ∧ ns.length ≤ 63 ∧ ∀ H', Q (.bl true) H'
theorem p_law {c : Cn} {mg : Str → Option Value} (T : Txt c mg) {vs : List V} {H : Hp} {Q : VK} {E : XK} (h : sp_law_law c.K vs H Q E) : t_law c { nx := fun _ H' => Q .non H', rt := Q } (start N_law vs) H := by
  obtain ⟨_, a, ns, rfl, hs, few, k⟩ := h
  unfold t_law
  repeat kaf_suf
  refine ⟨rfl, a, ns, 60, rfl, hs, few, by decide, by decide, fun H1 pd ds k1 hpd epd dz dl du => ?_⟩
  repeat kaf_suf
  intro b dx hb hdx ndx
  repeat kaf_suf
  have npb : pd ≠ b := fun z => by rw [z, hb] at epd; cases epd
  refine ⟨rfl, b, dx, rfl, upd_same, fun H2 M k2 B2 nB => ⟨rfl, ?_⟩⟩
  have npd : ¬ M pd := fun z => by
    have := none_of_upd (none_of_upd (nB pd z))
    rw [epd] at this; cases this
  have epd2 := k2 _ _ npb (get_set npb (get_new hdx epd))
  clear k2 nB hb hdx epd
  have dat : ∀ j : Int, 0 ≤ j → j < 60 → ∃ z, atI (ds.map V.int) j = some (.int z) ∧ 0 ≤ z := fun j j0 j2 => by
    obtain ⟨z, hz⟩ : ∃ z, ds[j.toNat]? = some z := ⟨_, List.getElem?_eq_getElem (by omega)⟩
    exact ⟨z, atI_get (n := j.toNat) (by rw [List.getElem?_map, hz]; rfl) (by omega), (dz z (List.mem_of_getElem? hz)).1⟩
  obtain ⟨z0, hx0, z00⟩ := dat 0 (by omega) (by omega)
  repeat kaf_suf
  refine ⟨rfl, b, pd, M, ds, 2, 1 + z0 % 5, rfl, B2, epd2, npd, fun z hz => (dz z hz).1, by omega, by omega, by omega, by omega, by omega, fun H3 p od mv gs e k3 hp ep gF B3 gl hod eod hmv Mv _ => ?_⟩
  have epd3 := k3 _ _ npd epd2
  refine r_seqT ep rfl (r_gcons ?_)
  repeat kaf_suf
  refine r_gcons ?_
  repeat kaf_suf
  refine r_gnil ?_
  have go := B3.ok
  have g9 : gs.length ≤ 6 := by omega
  have pos := B3.pos
  clear k3 hp ep gF Mv hmv hod epd2 B2
  have ln : ((nums gs.length).map V.int).length = gs.length := by rw [List.length_map, nums_len]
  have lp : 0 < (((nums gs.length).map V.int).length : Int) := by omega
  have ix : ∀ z : Int, 0 ≤ z → ∃ n : Nat, atI ((nums gs.length).map V.int) (z % (((nums gs.length).map V.int).length : Int)) = some (.int (n : Int)) ∧ n < gs.length := fun z z0 => by
    have r0 := Int.emod_nonneg z (show (((nums gs.length).map V.int).length : Int) ≠ 0 by omega)
    have r1 := Int.emod_lt_of_pos z lp
    refine ⟨(z % (((nums gs.length).map V.int).length : Int)).toNat, ?_, by omega⟩
    refine atI_get (n := (z % (((nums gs.length).map V.int).length : Int)).toNat) ?_ (by omega)
    rw [List.getElem?_map, nums_get (by omega)]; rfl
  obtain ⟨z1, hx1, z10⟩ := dat 24 (by omega) (by omega)
  obtain ⟨z2, hx2, z20⟩ := dat 25 (by omega) (by omega)
  obtain ⟨z3, hx3, z30⟩ := dat 26 (by omega) (by omega)
  obtain ⟨z4, hx4, z40⟩ := dat 27 (by omega) (by omega)
  obtain ⟨g, hg, gl1⟩ := ix z1 z10
  obtain ⟨h_, hh, gl2⟩ := ix z2 z20
  obtain ⟨x_, hx, gl3⟩ := ix z3 z30
  obtain ⟨y_, hy, gl4⟩ := ix z4 z40
  have sz1 : (g + 1) * (h_ + 1) ≤ 90000 := Nat.le_trans (Nat.mul_le_mul (show g + 1 ≤ 9 by omega) (show h_ + 1 ≤ 9 by omega)) (by omega)
  have sz2 : (x_ + 1) * (y_ + 1) ≤ 90000 := Nat.le_trans (Nat.mul_le_mul (show x_ + 1 ≤ 9 by omega) (show y_ + 1 ≤ 9 by omega)) (by omega)
  repeat kaf_suf
  refine ⟨rfl, b, M, gs, e, g, h_, rfl, B3, gl1, gl2, by omega, sz1, fun H4 fp fl bs ys k4 hfp hfl efp4 efl4 pp4 pap => ?_⟩
  have B4 := B3.same k4
  have epd4 := k4.get (fun z => z) epd3
  have eod4 := k4.get (fun z => z) eod
  have rl4 : Rp Nil H4 (.ref fl) (.list (ys.map prD)) := .lst efl4 (fun z => z) (rpa_pr pp4 fun _ _ z => z)
  clear hfp hfl efl4 pp4 k4 B3 epd3 eod hx0 hx1 hx2 hx3 hx4 hg hh hx hy
  repeat kaf_suf
  refine ⟨rfl, b, M, gs, e, x_, y_, rfl, B4, gl3, gl4, by omega, sz2, fun H5 xp xl bs2 zs k5 hxp hxl exp5 exl5 pp5 pap2 => ?_⟩
  have B5 := B4.same k5
  have epd5 := k5.get (fun z => z) epd4
  have eod5 := k5.get (fun z => z) eod4
  have efp5 := k5.get (fun z => z) efp4
  have rl5 := rl4.same k5
  have rx5 : Rp Nil H5 (.ref xl) (.list (zs.map prD)) := .lst exl5 (fun z => z) (rpa_pr pp5 fun _ _ z => z)
  clear hxp hxl exl5 pp5 k5 B4 epd4 eod4 efp4 rl4
  have yl := pap.len go gl1 gl2 (by omega)
  have zl := pap2.len go gl3 gl4 (by omega)
  have rg1 := pap.rg go gl1 gl2
  have rg2 := pap2.rg go gl3 gl4
  repeat kaf_suf
  refine ⟨fun σ H' => ∃ x11 : Option V, σ = [some (.ref a), some (.ref pd), some (.ref b), some (.ref od), some (.ref mv), some (.int g), some (.int h_), some (.int x_), some (.int y_), some (.ref fp), some (.ref xp), x11, none, none, none] ∧ Keep Nil H5 H', ?_, ?_⟩
  · repeat kaf_suf
    rw [pWord_eq]
    by_cases hw : ge gs g h_ = ge gs x_ y_
    · obtain ⟨s1, s2⟩ := pap_both go pap pap2 gl1 gl2 gl3 gl4 hw
      rw [decide_eq_true hw]
      repeat kaf_suf
      refine v_addV Al.nil rl5 rx5 (by rw [List.length_map, List.length_map]; omega) fun p6 H6 k6 r6 => ?_
      rw [← List.map_append] at r6
      repeat kaf_suf
      intro t7 ht7
      have k7 := k6.new (o := .tup [.str (pWord (ge gs g h_)), .ref p6]) ht7
      have r7 : Rp Nil (upd H6 t7 (.tup [.str (pWord (ge gs g h_)), .ref p6])) (.ref t7) (ansD (pWord (ge gs g h_)) (ys ++ zs)) := Rp.mk2 upd_same (fun z => z) (.str _) (r6.same (Keep.alloc ht7))
      generalize upd H6 t7 (.tup [.str (pWord (ge gs g h_)), .ref p6]) = H7 at k7 r7 ⊢
      clear ht7 k6 r6
      have bl : (ys ++ zs).length ≤ 1000 := by rw [List.length_append]; omega
      repeat kaf_suf
      refine ⟨rfl, b, M, gs, e, g, h_, _, _, ys ++ zs, rfl, B5.same k7, gl1, gl2, by omega, r7, by omega, fun H8 k8 => ?_⟩
      rw [s1]
      repeat kaf_suf
      refine ⟨rfl, b, M, gs, e, x_, y_, _, _, ys ++ zs, rfl, (B5.same k7).same k8, gl3, gl4, by omega, r7.same k8, by omega, fun H9 k9 => ?_⟩
      rw [s2]
      repeat kaf_suf
      refine ⟨rfl, b, M, gs, e, _, _, ys ++ zs, rfl, ((B5.same k7).same k8).same k9, by omega, (r7.same k8).same k9, fun z hz => (List.mem_append.mp hz).elim (rg1 z) (rg2 z), sh_true go s1, fun H10 k10 => ?_⟩
      repeat kaf_suf
      exact ⟨_, rfl, ((k7.trans k8).trans k9).trans k10⟩
    · rw [decide_eq_false hw]
      repeat kaf_suf
      exact ⟨_, rfl, Keep.refl⟩
  rintro σ H6 ⟨x11, rfl, k6⟩
  have efp6 := k6.get (fun z => z) efp5
  have rl6 := rl5.same k6
  have B6 := B5.same k6
  have epd6 := k6.get (fun z => z) epd5
  have eod6 := k6.get (fun z => z) eod5
  clear k6 efp5 rl5 B5 epd5 eod5 rx5 exp5
  repeat kaf_suf
  intro wl hwl
  have k7 : Keep Nil H6 (upd H6 wl (.lst [.str "holds", .str "bars"])) := Keep.alloc hwl
  have ewl : (upd H6 wl (.lst [.str "holds", .str "bars"])) wl = some (.lst [.str "holds", .str "bars"]) := upd_same
  generalize upd H6 wl (.lst [.str "holds", .str "bars"]) = H7 at k7 ewl ⊢
  have efp7 := k7.get (fun z => z) efp6
  have rl7 := rl6.same k7
  have B7 := B6.same k7
  have epd7 := k7.get (fun z => z) epd6
  have eod7 := k7.get (fun z => z) eod6
  clear k7 hwl efp6 rl6 B6 epd6 eod6
  repeat kaf_suf
  rw [pWord_h]
  have hix : atI [V.str "holds", V.str "bars"] (if ge gs g h_ = true then 1 else 0) = some (.str (pWord (!ge gs g h_))) := by
    cases ge gs g h_ <;> rfl
  repeat kaf_suf
  intro t8 ht8
  have k8 : Keep Nil H7 (upd H7 t8 (.tup [.str (pWord (!ge gs g h_)), .ref fl])) := Keep.alloc ht8
  have r8 : Rp Nil (upd H7 t8 (.tup [.str (pWord (!ge gs g h_)), .ref fl])) (.ref t8) (ansD (pWord (!ge gs g h_)) ys) := Rp.mk2 upd_same (fun z => z) (.str _) (rl7.same k8)
  generalize upd H7 t8 (.tup [.str (pWord (!ge gs g h_)), .ref fl]) = H8 at k8 r8 ⊢
  clear ht8
  repeat kaf_suf
  refine ⟨rfl, b, M, gs, e, g, h_, _, _, ys, rfl, B7.same k8, gl1, gl2, by omega, r8, by omega, fun H9 k9 => ?_⟩
  rw [pap_turned go pap]
  have k79 := k8.trans k9
  have efp9 := k79.get (fun z => z) efp7
  have rl9 := rl7.same k79
  have B9 := B7.same k79
  have epd9 := k79.get (fun z => z) epd7
  have eod9 := k79.get (fun z => z) eod7
  clear k8 r8 k9 k79 efp7 rl7 B7 epd7 eod7 ewl
  repeat kaf_suf
  refine ⟨rfl, pd, od, ds, gs, _, _, ys, rfl, epd9, fun z hz => (dz z hz).1, by omega, eod9, pos, Rp.mk2 efp9 (fun z => z) (.str _) rl9, rg1, by omega, fun H10 v w2 p1 p2 p3 k10 r10 q1 q2 q3 l1 l2 l3 => ?_⟩
  have B10 := B9.same k10
  clear k10 efp9 rl9 B9 epd9 eod9
  obtain ⟨la, us, rfl, ela, _, rus⟩ := r10.list_
  have ul := rus.len
  have ul3 : us.length ≤ 10 := by rw [ul]; simp only [List.length_cons, List.length_nil]; omega
  repeat kaf_suf
  refine for_list (xs := us) (fun j σ H' => ∃ (x13 x14 : Option V), σ = [some (.ref a), some (.ref pd), some (.ref b), some (.ref od), some (.ref mv), some (.int g), some (.int h_), some (.int x_), some (.int y_), some (.ref fp), some (.ref xp), x11, some (.str (pWord (!ge gs g h_))), x13, x14] ∧ Keep Nil H10 H') ⟨_, _, rfl, Keep.refl⟩ ?_ ?_ ?_
  · rintro j σ H' _ ⟨_, _, _, kk⟩; exact SqL.of (kk.get (fun z => z) ela)
  · rintro j x σ H11 hj ⟨x13, x14, rfl, k11⟩
    obtain ⟨dd, hd, rx⟩ := rus.at' hj
    obtain ⟨w', ps, rfl, rgp, lps⟩ : ∃ w' ps, dd = ansD w' ps ∧ inRg gs ps ∧ ps.length ≤ 2000 := by
      have := List.mem_of_getElem? hd
      simp only [List.mem_cons, List.not_mem_nil, or_false] at this
      rcases this with rfl | rfl | rfl
      · exact ⟨_, _, rfl, q1, l1⟩
      · exact ⟨_, _, rfl, q2, l2⟩
      · exact ⟨_, _, rfl, q3, l3⟩
    have rx := rx.same k11
    have B11 := B10.same k11
    obtain ⟨a0, xw, xl', rfl, ea, _, rw_, rl⟩ := rx.two
    cases rw_.str_
    repeat kaf_suf
    refine v_takeV Al.nil rl 3 fun p12 H12 k12 r12 => ?_
    rw [← List.map_take] at r12
    obtain ⟨lb, vs, hvs, elb, _, rvs⟩ := r12.list_
    cases hvs
    have vl := rvs.len
    have vl3 : vs.length ≤ 10 := by rw [vl, List.length_map, List.length_take]; omega
    have B12 := B11.same k12
    have rx12 := rx.same k12
    repeat kaf_suf
    refine for_list (xs := vs) (fun j σ H' => ∃ (x14 : Option V), σ = [some (.ref a), some (.ref pd), some (.ref b), some (.ref od), some (.ref mv), some (.int g), some (.int h_), some (.int x_), some (.int y_), some (.ref fp), some (.ref xp), x11, some (.str (pWord (!ge gs g h_))), some (.ref a0), x14] ∧ Keep Nil H12 H') ⟨_, rfl, Keep.refl⟩ ?_ ?_ ?_
    · rintro j σ H' _ ⟨_, _, kk⟩; exact SqL.of (kk.get (fun z => z) elb)
    · rintro i y σ H13 hi ⟨x14, rfl, k13⟩
      obtain ⟨dd, hd, ry⟩ := rvs.at' hi
      rw [List.getElem?_map] at hd
      obtain ⟨z, hz, rfl⟩ := Option.map_eq_some_iff.mp hd
      obtain ⟨t, rfl, ht, _⟩ := prD_ ry
      have zm := List.mem_of_mem_take (List.mem_of_getElem? hz)
      obtain ⟨⟨a0', a1⟩, b0, b1⟩ := rgp z zm
      have ht1 : H13 t = some (.tup [.int z.1, .int z.2]) := k13.get (fun z => z) ht
      obtain ⟨zx, zy⟩ := z
      simp only at a0' a1 b0 b1 ht1
      obtain ⟨xn, rfl⟩ := Int.eq_ofNat_of_zero_le a0'
      obtain ⟨yn, rfl⟩ := Int.eq_ofNat_of_zero_le b0
      have B13 := B12.same k13
      have rx13 := rx12.same k13
      repeat kaf_suf
      refine ⟨rfl, b, M, gs, e, xn, yn, _, _, ps, rfl, B13, by omega, by omega, by omega, rx13, by omega, fun H14 k14 => ?_⟩
      cases hsh : shF gs ps xn yn w' with
      | false =>
        repeat kaf_suf
        exact ⟨_, rfl, k13.trans k14⟩
      | true =>
        repeat kaf_suf
        refine ⟨rfl, b, M, gs, e, _, _, ps, rfl, B13.same k14, by omega, rx13.same k14, rgp, sh_true go hsh, fun H15 k15 => ?_⟩
        repeat kaf_suf
        exact ⟨_, rfl, (k13.trans k14).trans k15⟩
    · rintro σ H13 ⟨x14, rfl, k13⟩
      repeat kaf_suf
      exact ⟨_, _, rfl, (k11.trans k12).trans k13⟩
  · rintro σ H11 ⟨x13, x14, rfl, k11⟩
    repeat kaf_suf
    exact k _

theorem ok_law {c : Cn} {mg : Str → Option Value} {base : Heap} {f : Addr} {fd : FuncData} (T : Txt c mg) (F : Fun c.K "law" "law" s_law f fd) : FnOk c.P c.w c.K mg base CX0 40 f fd ["script"] (sp_law_law c.K) :=
  F.ok (k := 39) (N := N_law) sc_law (fun vs H Q E h => h.1) (fun cdv A outer s H vs Q E hr h => ⟨t_law c, by
  exact (pss_cons (ps_set (i := 1) sc_law.nd rfl (Or.inl rfl) (e_call (cal_law_draws T) hr (by decide) pass0 rfl (pa_cons (pv 0) (pa_cons pe_int pa_nil))))
  (pss_cons (ps_set (i := 2) sc_law.nd rfl (Or.inl rfl) (e_make0 (mak_Book T) hr (by decide) pass0 rfl))
  (pss_cons (ps_asg (e_call (cal_law_games T) hr (by decide) pass0 rfl (pa_cons (pv 2) (pa_cons (pv 1) (pa_cons pe_int (pa_cons (pe_op o_add pe_int (pe_op o_mod (pe_ix (x_ix (hu64 hr)) (pv 1) pe_int (fun _ _ => rfl)) pe_int)) pa_nil))))) (g_seq rfl (pgs_cons (pg_name (i := 3) sc_law.nd rfl (Or.inl rfl)) (pgs_cons (pg_name (i := 4) sc_law.nd rfl (Or.inl rfl)) pgs_nil))))
  (pss_cons (ps_set (i := 5) sc_law.nd rfl (Or.inl rfl) (pe_ix (x_ix (hu64 hr)) (pv 3) (pe_op o_mod (pe_ix (x_ix (hu64 hr)) (pv 1) pe_int (fun _ _ => rfl)) (pe_callB k_len (by rfl) T.n_len (by decide +kernel) (pa_cons (pv 3) pa_nil))) (fun _ _ => rfl)))
  (pss_cons (ps_set (i := 6) sc_law.nd rfl (Or.inl rfl) (pe_ix (x_ix (hu64 hr)) (pv 3) (pe_op o_mod (pe_ix (x_ix (hu64 hr)) (pv 1) pe_int (fun _ _ => rfl)) (pe_callB k_len (by rfl) T.n_len (by decide +kernel) (pa_cons (pv 3) pa_nil))) (fun _ _ => rfl)))
  (pss_cons (ps_set (i := 7) sc_law.nd rfl (Or.inl rfl) (pe_ix (x_ix (hu64 hr)) (pv 3) (pe_op o_mod (pe_ix (x_ix (hu64 hr)) (pv 1) pe_int (fun _ _ => rfl)) (pe_callB k_len (by rfl) T.n_len (by decide +kernel) (pa_cons (pv 3) pa_nil))) (fun _ _ => rfl)))
  (pss_cons (ps_set (i := 8) sc_law.nd rfl (Or.inl rfl) (pe_ix (x_ix (hu64 hr)) (pv 3) (pe_op o_mod (pe_ix (x_ix (hu64 hr)) (pv 1) pe_int (fun _ _ => rfl)) (pe_callB k_len (by rfl) T.n_len (by decide +kernel) (pa_cons (pv 3) pa_nil))) (fun _ _ => rfl)))
  (pss_cons (ps_set (i := 9) sc_law.nd rfl (Or.inl rfl) (e_call (cal_paper T) hr (by decide) pass0 rfl (pa_cons (pv 2) (pa_cons (pv 5) (pa_cons (pv 6) pa_nil)))))
  (pss_cons (ps_set (i := 10) sc_law.nd rfl (Or.inl rfl) (e_call (cal_paper T) hr (by decide) pass0 rfl (pa_cons (pv 2) (pa_cons (pv 7) (pa_cons (pv 8) pa_nil)))))
  (C8.pss_cut (ps_if (pt_cmpR (o_eq (hu64 hr)) (pe_ix (x_ix (hu64 hr)) (pv 9) pe_int (fun _ _ => rfl)) (pe_ix (x_ix (hu64 hr)) (pv 10) pe_int (fun _ _ => rfl)) (nomark _)) (pss_cons (ps_set (i := 11) sc_law.nd rfl (Or.inl rfl) (pe_tup (pa_cons (pe_ix (x_ix (hu64 hr)) (pv 9) pe_int (fun _ _ => rfl)) (pa_cons (pe_op o_add (pe_ix (x_ix (hu64 hr)) (pv 9) pe_int (fun _ _ => rfl)) (pe_ix (x_ix (hu64 hr)) (pv 10) pe_int (fun _ _ => rfl))) pa_nil))))
  (pss_cons (ps_if (PW.pt (pw_or (pt_cmpR o_isnot (e_call (cal_shows T) hr (by decide) pass0 rfl (pa_cons (pv 2) (pa_cons (pv 5) (pa_cons (pv 6) (pa_cons (pv 11) pa_nil))))) pe_bl (nomark _)) (pw_or1 (pt_cmpR o_isnot (e_call (cal_shows T) hr (by decide) pass0 rfl (pa_cons (pv 2) (pa_cons (pv 7) (pa_cons (pv 8) (pa_cons (pv 11) pa_nil))))) pe_bl (nomark _))))) (pss_one (ps_ret pe_bl)) pss_nil)
  (pss_one (ps_if (pt_not (p_tru (e_call (cal_law_true T) hr (by decide) pass0 rfl (pa_cons (pv 2) (pa_cons (pv 11) pa_nil))))) (pss_one (ps_ret pe_bl)) pss_nil)))) pss_nil)
  (pss_cons (ps_set (i := 12) sc_law.nd rfl (Or.inl rfl) (pe_ix (x_ix (hu64 hr)) (pe_lst (pa_cons pe_str (pa_cons pe_str pa_nil))) (pe_callTy k_int (by rfl) T.n_int (by decide +kernel) (pa_cons (pe_cmpR (o_eq (hu64 hr)) (pe_ix (x_ix (hu64 hr)) (pv 9) pe_int (fun _ _ => rfl)) pe_str (nomark _)) pa_nil)) (fun _ _ => rfl)))
  (pss_cons (ps_if (pt_cmpR o_isnot (e_call (cal_shows T) hr (by decide) pass0 rfl (pa_cons (pv 2) (pa_cons (pv 5) (pa_cons (pv 6) (pa_cons (pe_tup (pa_cons (pv 12) (pa_cons (pe_ix (x_ix (hu64 hr)) (pv 9) pe_int (fun _ _ => rfl)) pa_nil))) pa_nil))))) pe_bl (nomark _)) (pss_one (ps_ret pe_bl)) pss_nil)
  (pss_cons (ps_for PassesOwn.never rfl (pi_any (e_call (cal_law_lists T) hr (by decide) pass0 rfl (pa_cons (pv 1) (pa_cons (pv 3) (pa_cons (pv 9) pa_nil))))) (pg_name (i := 13) sc_law.nd rfl (Or.inl rfl))
  (pss_one (ps_for PassesOwn.never rfl (pi_any (pe_slice s_sl (pe_ix (x_ix (hu64 hr)) (pv 13) pe_int (fun _ _ => rfl)) po_none (po_some pe_int))) (pg_name (i := 14) sc_law.nd rfl (Or.inl rfl))
  (pss_one (ps_if (PW.pt (pw_and (p_tru (e_call (cal_shows T) hr (by decide) pass0 rfl (pa_cons (pv 2) (pa_cons (pe_ix (x_ix (hu64 hr)) (pv 14) pe_int (fun _ _ => rfl)) (pa_cons (pe_ix (x_ix (hu64 hr)) (pv 14) pe_int (fun _ _ => rfl)) (pa_cons (pv 13) pa_nil)))))) (pw_and1 (pt_not (p_tru (e_call (cal_law_true T) hr (by decide) pass0 rfl (pa_cons (pv 2) (pa_cons (pv 13) pa_nil)))))))) (pss_one (ps_ret pe_bl)) pss_nil)))))
  (pss_one (ps_ret pe_bl))))))))))))))), p_law T h⟩)
theorem all_mk {l : PySem.W.OpenLaw} {w : World} {K : PySem.W.Frag} {h : Heap} {mg : Str → Option Value} {fa : Addr} (X : K.In h) (G : h.Ns mainGlobals mg) (hfa : mg "law" = some (.ref fa))
    {aGameError aNoGame aBook : Addr}
    {f_Book_need : Addr} {od_Book_need an_Book_need : Option Addr} {sl_Book_need : Array (Option Value)} {oc_Book_need kV_Book_need dc_Book_need pm_Book_need cd_Book_need ct_Book_need : Value}
    {f_Book_game : Addr} {od_Book_game an_Book_game : Option Addr} {sl_Book_game : Array (Option Value)} {oc_Book_game kV_Book_game dc_Book_game pm_Book_game cd_Book_game ct_Book_game : Value}
    {f_Book_init : Addr} {od_Book_init an_Book_init : Option Addr} {sl_Book_init : Array (Option Value)} {oc_Book_init kV_Book_init dc_Book_init pm_Book_init cd_Book_init ct_Book_init : Value}
    {f_Book_many : Addr} {od_Book_many an_Book_many : Option Addr} {sl_Book_many : Array (Option Value)} {oc_Book_many kV_Book_many dc_Book_many pm_Book_many cd_Book_many ct_Book_many : Value}
    {f_Book_depth : Addr} {od_Book_depth an_Book_depth : Option Addr} {sl_Book_depth : Array (Option Value)} {oc_Book_depth kV_Book_depth dc_Book_depth pm_Book_depth cd_Book_depth ct_Book_depth : Value}
    {f_Book_lefts : Addr} {od_Book_lefts an_Book_lefts : Option Addr} {sl_Book_lefts : Array (Option Value)} {oc_Book_lefts kV_Book_lefts dc_Book_lefts pm_Book_lefts cd_Book_lefts ct_Book_lefts : Value}
    {f_Book_rights : Addr} {od_Book_rights an_Book_rights : Option Addr} {sl_Book_rights : Array (Option Value)} {oc_Book_rights kV_Book_rights dc_Book_rights pm_Book_rights cd_Book_rights ct_Book_rights : Value}
    {f_reached : Addr} {od_reached an_reached : Option Addr} {sl_reached : Array (Option Value)} {oc_reached kV_reached dc_reached pm_reached cd_reached ct_reached : Value}
    {f_moves_by : Addr} {od_moves_by an_moves_by : Option Addr} {sl_moves_by : Array (Option Value)} {oc_moves_by kV_moves_by dc_moves_by pm_moves_by cd_moves_by ct_moves_by : Value}
    {f_pairs_by : Addr} {od_pairs_by an_pairs_by : Option Addr} {sl_pairs_by : Array (Option Value)} {oc_pairs_by kV_pairs_by dc_pairs_by pm_pairs_by cd_pairs_by ct_pairs_by : Value}
    {f_pairs_right : Addr} {od_pairs_right an_pairs_right : Option Addr} {sl_pairs_right : Array (Option Value)} {oc_pairs_right kV_pairs_right dc_pairs_right pm_pairs_right cd_pairs_right ct_pairs_right : Value}
    {f_pairs_left : Addr} {od_pairs_left an_pairs_left : Option Addr} {sl_pairs_left : Array (Option Value)} {oc_pairs_left kV_pairs_left dc_pairs_left pm_pairs_left cd_pairs_left ct_pairs_left : Value}
    {f_holding : Addr} {od_holding an_holding : Option Addr} {sl_holding : Array (Option Value)} {oc_holding kV_holding dc_holding pm_holding cd_holding ct_holding : Value}
    {f_barring : Addr} {od_barring an_barring : Option Addr} {sl_barring : Array (Option Value)} {oc_barring kV_barring dc_barring pm_barring cd_barring ct_barring : Value}
    {f_paper : Addr} {od_paper an_paper : Option Addr} {sl_paper : Array (Option Value)} {oc_paper kV_paper dc_paper pm_paper cd_paper ct_paper : Value}
    {f_all_in : Addr} {od_all_in an_all_in : Option Addr} {sl_all_in : Array (Option Value)} {oc_all_in kV_all_in dc_all_in pm_all_in cd_all_in ct_all_in : Value}
    {f_pair_bars : Addr} {od_pair_bars an_pair_bars : Option Addr} {sl_pair_bars : Array (Option Value)} {oc_pair_bars kV_pair_bars dc_pair_bars pm_pair_bars cd_pair_bars ct_pair_bars : Value}
    {f_is_game : Addr} {od_is_game an_is_game : Option Addr} {sl_is_game : Array (Option Value)} {oc_is_game kV_is_game dc_is_game pm_is_game cd_is_game ct_is_game : Value}
    {f_moves_around : Addr} {od_moves_around an_moves_around : Option Addr} {sl_moves_around : Array (Option Value)} {oc_moves_around kV_moves_around dc_moves_around pm_moves_around cd_moves_around ct_moves_around : Value}
    {f_shows : Addr} {od_shows an_shows : Option Addr} {sl_shows : Array (Option Value)} {oc_shows kV_shows dc_shows pm_shows cd_shows ct_shows : Value}
    {f_no_less : Addr} {od_no_less an_no_less : Option Addr} {sl_no_less : Array (Option Value)} {oc_no_less kV_no_less dc_no_less pm_no_less cd_no_less ct_no_less : Value}
    {f_law_true : Addr} {od_law_true an_law_true : Option Addr} {sl_law_true : Array (Option Value)} {oc_law_true kV_law_true dc_law_true pm_law_true cd_law_true ct_law_true : Value}
    {f_law_lists : Addr} {od_law_lists an_law_lists : Option Addr} {sl_law_lists : Array (Option Value)} {oc_law_lists kV_law_lists dc_law_lists pm_law_lists cd_law_lists ct_law_lists : Value}
    {f_law_draws : Addr} {od_law_draws an_law_draws : Option Addr} {sl_law_draws : Array (Option Value)} {oc_law_draws kV_law_draws dc_law_draws pm_law_draws cd_law_draws ct_law_draws : Value}
    {f_law_picked : Addr} {od_law_picked an_law_picked : Option Addr} {sl_law_picked : Array (Option Value)} {oc_law_picked kV_law_picked dc_law_picked pm_law_picked cd_law_picked ct_law_picked : Value}
    {f_law_games : Addr} {od_law_games an_law_games : Option Addr} {sl_law_games : Array (Option Value)} {oc_law_games kV_law_games dc_law_games pm_law_games cd_law_games ct_law_games : Value}
    {f_behind_right : Addr} {od_behind_right an_behind_right : Option Addr} {sl_behind_right : Array (Option Value)} {oc_behind_right kV_behind_right dc_behind_right pm_behind_right cd_behind_right ct_behind_right : Value}
    {f_behind_left : Addr} {od_behind_left an_behind_left : Option Addr} {sl_behind_left : Array (Option Value)} {oc_behind_left kV_behind_left dc_behind_left pm_behind_left cd_behind_left ct_behind_left : Value}
    {f_pair_holds : Addr} {od_pair_holds an_pair_holds : Option Addr} {sl_pair_holds : Array (Option Value)} {oc_pair_holds kV_pair_holds dc_pair_holds pm_pair_holds cd_pair_holds ct_pair_holds : Value}
    {f_law : Addr} {od_law an_law : Option Addr} {sl_law : Array (Option Value)} {oc_law kV_law dc_law pm_law cd_law ct_law : Value}
    (a_GameError : PySem.W.nsIn K mainGlobals "GameError" = some (some (.ref aGameError)))
    (a_NoGame : PySem.W.nsIn K mainGlobals "NoGame" = some (some (.ref aNoGame)))
    (a_Book : PySem.W.nsIn K mainGlobals "Book" = some (some (.ref aBook)))
    (pg_Book : PySem.W.plainGet K aBook Str.empty = true)
    (hd_Book : PySem.W.hasDictIn K aBook = true)
    (po_Book : PySem.W.plainOver K aBook = true)
    (sa_Book : PySem.W.findIn K (.ref aBook) "__setattr__" = some (some (.builtin "object.__setattr__")))
    (mk_Book : PySem.W.makesIn K aBook = true)
    (kc_Book : PySem.W.keepIn K (.ref aBook) = true)
    (na_Book_depths : PySem.W.findIn K (.ref aBook) "depths" = some none)
    (na_Book_moves : PySem.W.findIn K (.ref aBook) "moves" = some none)
    (na_Book_numbers : PySem.W.findIn K (.ref aBook) "numbers" = some none)
    (n_abs : PySem.W.nsIn K mainGlobals "abs" = some none)
    (n_bool : PySem.W.nsIn K mainGlobals "bool" = some none)
    (n_enumerate : PySem.W.nsIn K mainGlobals "enumerate" = some none)
    (n_int : PySem.W.nsIn K mainGlobals "int" = some none)
    (n_isinstance : PySem.W.nsIn K mainGlobals "isinstance" = some none)
    (n_len : PySem.W.nsIn K mainGlobals "len" = some none)
    (n_list : PySem.W.nsIn K mainGlobals "list" = some none)
    (n_max : PySem.W.nsIn K mainGlobals "max" = some none)
    (n_range : PySem.W.nsIn K mainGlobals "range" = some none)
    (n_set : PySem.W.nsIn K mainGlobals "set" = some none)
    (n_sorted : PySem.W.nsIn K mainGlobals "sorted" = some none)
    (n_tuple : PySem.W.nsIn K mainGlobals "tuple" = some none)
    (a_Book_need : PySem.W.findIn K (.ref aBook) "need" = some (some (.ref f_Book_need)))
    (i_Book_need : PySem.W.isFn K (.ref f_Book_need) = true)
    (l_Book_need : K.lookup f_Book_need = some ⟨oc_Book_need, od_Book_need, .func (PySem.W.fnOf "need" "Book.need" (defArgs s_Book_need) (defBody s_Book_need) (defScope s_Book_need) .none kV_Book_need dc_Book_need pm_Book_need an_Book_need cd_Book_need ct_Book_need), sl_Book_need⟩)
    (c_Book_need : PySem.W.codeIn K cd_Book_need "Book.need" = true)
    (k_Book_need : PySem.W.keepIn K (.ref f_Book_need) = true)
    (a_Book_game : PySem.W.findIn K (.ref aBook) "game" = some (some (.ref f_Book_game)))
    (i_Book_game : PySem.W.isFn K (.ref f_Book_game) = true)
    (l_Book_game : K.lookup f_Book_game = some ⟨oc_Book_game, od_Book_game, .func (PySem.W.fnOf "game" "Book.game" (defArgs s_Book_game) (defBody s_Book_game) (defScope s_Book_game) .none kV_Book_game dc_Book_game pm_Book_game an_Book_game cd_Book_game ct_Book_game), sl_Book_game⟩)
    (c_Book_game : PySem.W.codeIn K cd_Book_game "Book.game" = true)
    (k_Book_game : PySem.W.keepIn K (.ref f_Book_game) = true)
    (a_Book_init : PySem.W.findIn K (.ref aBook) "__init__" = some (some (.ref f_Book_init)))
    (i_Book_init : PySem.W.isFn K (.ref f_Book_init) = true)
    (l_Book_init : K.lookup f_Book_init = some ⟨oc_Book_init, od_Book_init, .func (PySem.W.fnOf "__init__" "Book.__init__" (defArgs s_Book_init) (defBody s_Book_init) (defScope s_Book_init) .none kV_Book_init dc_Book_init pm_Book_init an_Book_init cd_Book_init ct_Book_init), sl_Book_init⟩)
    (c_Book_init : PySem.W.codeIn K cd_Book_init "Book.__init__" = true)
    (k_Book_init : PySem.W.keepIn K (.ref f_Book_init) = true)
    (a_Book_many : PySem.W.findIn K (.ref aBook) "many" = some (some (.ref f_Book_many)))
    (i_Book_many : PySem.W.isFn K (.ref f_Book_many) = true)
    (l_Book_many : K.lookup f_Book_many = some ⟨oc_Book_many, od_Book_many, .func (PySem.W.fnOf "many" "Book.many" (defArgs s_Book_many) (defBody s_Book_many) (defScope s_Book_many) .none kV_Book_many dc_Book_many pm_Book_many an_Book_many cd_Book_many ct_Book_many), sl_Book_many⟩)
    (c_Book_many : PySem.W.codeIn K cd_Book_many "Book.many" = true)
    (k_Book_many : PySem.W.keepIn K (.ref f_Book_many) = true)
    (a_Book_depth : PySem.W.findIn K (.ref aBook) "depth" = some (some (.ref f_Book_depth)))
    (i_Book_depth : PySem.W.isFn K (.ref f_Book_depth) = true)
    (l_Book_depth : K.lookup f_Book_depth = some ⟨oc_Book_depth, od_Book_depth, .func (PySem.W.fnOf "depth" "Book.depth" (defArgs s_Book_depth) (defBody s_Book_depth) (defScope s_Book_depth) .none kV_Book_depth dc_Book_depth pm_Book_depth an_Book_depth cd_Book_depth ct_Book_depth), sl_Book_depth⟩)
    (c_Book_depth : PySem.W.codeIn K cd_Book_depth "Book.depth" = true)
    (k_Book_depth : PySem.W.keepIn K (.ref f_Book_depth) = true)
    (a_Book_lefts : PySem.W.findIn K (.ref aBook) "lefts" = some (some (.ref f_Book_lefts)))
    (i_Book_lefts : PySem.W.isFn K (.ref f_Book_lefts) = true)
    (l_Book_lefts : K.lookup f_Book_lefts = some ⟨oc_Book_lefts, od_Book_lefts, .func (PySem.W.fnOf "lefts" "Book.lefts" (defArgs s_Book_lefts) (defBody s_Book_lefts) (defScope s_Book_lefts) .none kV_Book_lefts dc_Book_lefts pm_Book_lefts an_Book_lefts cd_Book_lefts ct_Book_lefts), sl_Book_lefts⟩)
    (c_Book_lefts : PySem.W.codeIn K cd_Book_lefts "Book.lefts" = true)
    (k_Book_lefts : PySem.W.keepIn K (.ref f_Book_lefts) = true)
    (a_Book_rights : PySem.W.findIn K (.ref aBook) "rights" = some (some (.ref f_Book_rights)))
    (i_Book_rights : PySem.W.isFn K (.ref f_Book_rights) = true)
    (l_Book_rights : K.lookup f_Book_rights = some ⟨oc_Book_rights, od_Book_rights, .func (PySem.W.fnOf "rights" "Book.rights" (defArgs s_Book_rights) (defBody s_Book_rights) (defScope s_Book_rights) .none kV_Book_rights dc_Book_rights pm_Book_rights an_Book_rights cd_Book_rights ct_Book_rights), sl_Book_rights⟩)
    (c_Book_rights : PySem.W.codeIn K cd_Book_rights "Book.rights" = true)
    (k_Book_rights : PySem.W.keepIn K (.ref f_Book_rights) = true)
    (a_reached : PySem.W.nsIn K mainGlobals "reached" = some (some (.ref f_reached)))
    (l_reached : K.lookup f_reached = some ⟨oc_reached, od_reached, .func (PySem.W.fnOf "reached" "reached" (defArgs s_reached) (defBody s_reached) (defScope s_reached) .none kV_reached dc_reached pm_reached an_reached cd_reached ct_reached), sl_reached⟩)
    (c_reached : PySem.W.codeIn K cd_reached "reached" = true)
    (k_reached : PySem.W.keepIn K (.ref f_reached) = true)
    (a_moves_by : PySem.W.nsIn K mainGlobals "moves_by" = some (some (.ref f_moves_by)))
    (l_moves_by : K.lookup f_moves_by = some ⟨oc_moves_by, od_moves_by, .func (PySem.W.fnOf "moves_by" "moves_by" (defArgs s_moves_by) (defBody s_moves_by) (defScope s_moves_by) .none kV_moves_by dc_moves_by pm_moves_by an_moves_by cd_moves_by ct_moves_by), sl_moves_by⟩)
    (c_moves_by : PySem.W.codeIn K cd_moves_by "moves_by" = true)
    (k_moves_by : PySem.W.keepIn K (.ref f_moves_by) = true)
    (a_pairs_by : PySem.W.nsIn K mainGlobals "pairs_by" = some (some (.ref f_pairs_by)))
    (l_pairs_by : K.lookup f_pairs_by = some ⟨oc_pairs_by, od_pairs_by, .func (PySem.W.fnOf "pairs_by" "pairs_by" (defArgs s_pairs_by) (defBody s_pairs_by) (defScope s_pairs_by) .none kV_pairs_by dc_pairs_by pm_pairs_by an_pairs_by cd_pairs_by ct_pairs_by), sl_pairs_by⟩)
    (c_pairs_by : PySem.W.codeIn K cd_pairs_by "pairs_by" = true)
    (k_pairs_by : PySem.W.keepIn K (.ref f_pairs_by) = true)
    (a_pairs_right : PySem.W.nsIn K mainGlobals "pairs_right" = some (some (.ref f_pairs_right)))
    (l_pairs_right : K.lookup f_pairs_right = some ⟨oc_pairs_right, od_pairs_right, .func (PySem.W.fnOf "pairs_right" "pairs_right" (defArgs s_pairs_right) (defBody s_pairs_right) (defScope s_pairs_right) .none kV_pairs_right dc_pairs_right pm_pairs_right an_pairs_right cd_pairs_right ct_pairs_right), sl_pairs_right⟩)
    (c_pairs_right : PySem.W.codeIn K cd_pairs_right "pairs_right" = true)
    (k_pairs_right : PySem.W.keepIn K (.ref f_pairs_right) = true)
    (a_pairs_left : PySem.W.nsIn K mainGlobals "pairs_left" = some (some (.ref f_pairs_left)))
    (l_pairs_left : K.lookup f_pairs_left = some ⟨oc_pairs_left, od_pairs_left, .func (PySem.W.fnOf "pairs_left" "pairs_left" (defArgs s_pairs_left) (defBody s_pairs_left) (defScope s_pairs_left) .none kV_pairs_left dc_pairs_left pm_pairs_left an_pairs_left cd_pairs_left ct_pairs_left), sl_pairs_left⟩)
    (c_pairs_left : PySem.W.codeIn K cd_pairs_left "pairs_left" = true)
    (k_pairs_left : PySem.W.keepIn K (.ref f_pairs_left) = true)
    (a_holding : PySem.W.nsIn K mainGlobals "holding" = some (some (.ref f_holding)))
    (l_holding : K.lookup f_holding = some ⟨oc_holding, od_holding, .func (PySem.W.fnOf "holding" "holding" (defArgs s_holding) (defBody s_holding) (defScope s_holding) .none kV_holding dc_holding pm_holding an_holding cd_holding ct_holding), sl_holding⟩)
    (c_holding : PySem.W.codeIn K cd_holding "holding" = true)
    (k_holding : PySem.W.keepIn K (.ref f_holding) = true)
    (a_barring : PySem.W.nsIn K mainGlobals "barring" = some (some (.ref f_barring)))
    (l_barring : K.lookup f_barring = some ⟨oc_barring, od_barring, .func (PySem.W.fnOf "barring" "barring" (defArgs s_barring) (defBody s_barring) (defScope s_barring) .none kV_barring dc_barring pm_barring an_barring cd_barring ct_barring), sl_barring⟩)
    (c_barring : PySem.W.codeIn K cd_barring "barring" = true)
    (k_barring : PySem.W.keepIn K (.ref f_barring) = true)
    (a_paper : PySem.W.nsIn K mainGlobals "paper" = some (some (.ref f_paper)))
    (l_paper : K.lookup f_paper = some ⟨oc_paper, od_paper, .func (PySem.W.fnOf "paper" "paper" (defArgs s_paper) (defBody s_paper) (defScope s_paper) .none kV_paper dc_paper pm_paper an_paper cd_paper ct_paper), sl_paper⟩)
    (c_paper : PySem.W.codeIn K cd_paper "paper" = true)
    (k_paper : PySem.W.keepIn K (.ref f_paper) = true)
    (a_all_in : PySem.W.nsIn K mainGlobals "all_in" = some (some (.ref f_all_in)))
    (l_all_in : K.lookup f_all_in = some ⟨oc_all_in, od_all_in, .func (PySem.W.fnOf "all_in" "all_in" (defArgs s_all_in) (defBody s_all_in) (defScope s_all_in) .none kV_all_in dc_all_in pm_all_in an_all_in cd_all_in ct_all_in), sl_all_in⟩)
    (c_all_in : PySem.W.codeIn K cd_all_in "all_in" = true)
    (k_all_in : PySem.W.keepIn K (.ref f_all_in) = true)
    (a_pair_bars : PySem.W.nsIn K mainGlobals "pair_bars" = some (some (.ref f_pair_bars)))
    (l_pair_bars : K.lookup f_pair_bars = some ⟨oc_pair_bars, od_pair_bars, .func (PySem.W.fnOf "pair_bars" "pair_bars" (defArgs s_pair_bars) (defBody s_pair_bars) (defScope s_pair_bars) .none kV_pair_bars dc_pair_bars pm_pair_bars an_pair_bars cd_pair_bars ct_pair_bars), sl_pair_bars⟩)
    (c_pair_bars : PySem.W.codeIn K cd_pair_bars "pair_bars" = true)
    (k_pair_bars : PySem.W.keepIn K (.ref f_pair_bars) = true)
    (a_is_game : PySem.W.nsIn K mainGlobals "is_game" = some (some (.ref f_is_game)))
    (l_is_game : K.lookup f_is_game = some ⟨oc_is_game, od_is_game, .func (PySem.W.fnOf "is_game" "is_game" (defArgs s_is_game) (defBody s_is_game) (defScope s_is_game) .none kV_is_game dc_is_game pm_is_game an_is_game cd_is_game ct_is_game), sl_is_game⟩)
    (c_is_game : PySem.W.codeIn K cd_is_game "is_game" = true)
    (k_is_game : PySem.W.keepIn K (.ref f_is_game) = true)
    (a_moves_around : PySem.W.nsIn K mainGlobals "moves_around" = some (some (.ref f_moves_around)))
    (l_moves_around : K.lookup f_moves_around = some ⟨oc_moves_around, od_moves_around, .func (PySem.W.fnOf "moves_around" "moves_around" (defArgs s_moves_around) (defBody s_moves_around) (defScope s_moves_around) .none kV_moves_around dc_moves_around pm_moves_around an_moves_around cd_moves_around ct_moves_around), sl_moves_around⟩)
    (c_moves_around : PySem.W.codeIn K cd_moves_around "moves_around" = true)
    (k_moves_around : PySem.W.keepIn K (.ref f_moves_around) = true)
    (a_shows : PySem.W.nsIn K mainGlobals "shows" = some (some (.ref f_shows)))
    (l_shows : K.lookup f_shows = some ⟨oc_shows, od_shows, .func (PySem.W.fnOf "shows" "shows" (defArgs s_shows) (defBody s_shows) (defScope s_shows) .none kV_shows dc_shows pm_shows an_shows cd_shows ct_shows), sl_shows⟩)
    (c_shows : PySem.W.codeIn K cd_shows "shows" = true)
    (k_shows : PySem.W.keepIn K (.ref f_shows) = true)
    (a_no_less : PySem.W.nsIn K mainGlobals "no_less" = some (some (.ref f_no_less)))
    (l_no_less : K.lookup f_no_less = some ⟨oc_no_less, od_no_less, .func (PySem.W.fnOf "no_less" "no_less" (defArgs s_no_less) (defBody s_no_less) (defScope s_no_less) .none kV_no_less dc_no_less pm_no_less an_no_less cd_no_less ct_no_less), sl_no_less⟩)
    (c_no_less : PySem.W.codeIn K cd_no_less "no_less" = true)
    (k_no_less : PySem.W.keepIn K (.ref f_no_less) = true)
    (a_law_true : PySem.W.nsIn K mainGlobals "_law_true" = some (some (.ref f_law_true)))
    (l_law_true : K.lookup f_law_true = some ⟨oc_law_true, od_law_true, .func (PySem.W.fnOf "_law_true" "_law_true" (defArgs s_law_true) (defBody s_law_true) (defScope s_law_true) .none kV_law_true dc_law_true pm_law_true an_law_true cd_law_true ct_law_true), sl_law_true⟩)
    (c_law_true : PySem.W.codeIn K cd_law_true "_law_true" = true)
    (k_law_true : PySem.W.keepIn K (.ref f_law_true) = true)
    (a_law_lists : PySem.W.nsIn K mainGlobals "_law_lists" = some (some (.ref f_law_lists)))
    (l_law_lists : K.lookup f_law_lists = some ⟨oc_law_lists, od_law_lists, .func (PySem.W.fnOf "_law_lists" "_law_lists" (defArgs s_law_lists) (defBody s_law_lists) (defScope s_law_lists) .none kV_law_lists dc_law_lists pm_law_lists an_law_lists cd_law_lists ct_law_lists), sl_law_lists⟩)
    (c_law_lists : PySem.W.codeIn K cd_law_lists "_law_lists" = true)
    (k_law_lists : PySem.W.keepIn K (.ref f_law_lists) = true)
    (a_law_draws : PySem.W.nsIn K mainGlobals "_law_draws" = some (some (.ref f_law_draws)))
    (l_law_draws : K.lookup f_law_draws = some ⟨oc_law_draws, od_law_draws, .func (PySem.W.fnOf "_law_draws" "_law_draws" (defArgs s_law_draws) (defBody s_law_draws) (defScope s_law_draws) .none kV_law_draws dc_law_draws pm_law_draws an_law_draws cd_law_draws ct_law_draws), sl_law_draws⟩)
    (c_law_draws : PySem.W.codeIn K cd_law_draws "_law_draws" = true)
    (k_law_draws : PySem.W.keepIn K (.ref f_law_draws) = true)
    (a_law_picked : PySem.W.nsIn K mainGlobals "_law_picked" = some (some (.ref f_law_picked)))
    (l_law_picked : K.lookup f_law_picked = some ⟨oc_law_picked, od_law_picked, .func (PySem.W.fnOf "_law_picked" "_law_picked" (defArgs s_law_picked) (defBody s_law_picked) (defScope s_law_picked) .none kV_law_picked dc_law_picked pm_law_picked an_law_picked cd_law_picked ct_law_picked), sl_law_picked⟩)
    (c_law_picked : PySem.W.codeIn K cd_law_picked "_law_picked" = true)
    (k_law_picked : PySem.W.keepIn K (.ref f_law_picked) = true)
    (a_law_games : PySem.W.nsIn K mainGlobals "_law_games" = some (some (.ref f_law_games)))
    (l_law_games : K.lookup f_law_games = some ⟨oc_law_games, od_law_games, .func (PySem.W.fnOf "_law_games" "_law_games" (defArgs s_law_games) (defBody s_law_games) (defScope s_law_games) .none kV_law_games dc_law_games pm_law_games an_law_games cd_law_games ct_law_games), sl_law_games⟩)
    (c_law_games : PySem.W.codeIn K cd_law_games "_law_games" = true)
    (k_law_games : PySem.W.keepIn K (.ref f_law_games) = true)
    (a_behind_right : PySem.W.nsIn K mainGlobals "behind_right" = some (some (.ref f_behind_right)))
    (l_behind_right : K.lookup f_behind_right = some ⟨oc_behind_right, od_behind_right, .func (PySem.W.fnOf "behind_right" "behind_right" (defArgs s_behind_right) (defBody s_behind_right) (defScope s_behind_right) .none kV_behind_right dc_behind_right pm_behind_right an_behind_right cd_behind_right ct_behind_right), sl_behind_right⟩)
    (c_behind_right : PySem.W.codeIn K cd_behind_right "behind_right" = true)
    (k_behind_right : PySem.W.keepIn K (.ref f_behind_right) = true)
    (a_behind_left : PySem.W.nsIn K mainGlobals "behind_left" = some (some (.ref f_behind_left)))
    (l_behind_left : K.lookup f_behind_left = some ⟨oc_behind_left, od_behind_left, .func (PySem.W.fnOf "behind_left" "behind_left" (defArgs s_behind_left) (defBody s_behind_left) (defScope s_behind_left) .none kV_behind_left dc_behind_left pm_behind_left an_behind_left cd_behind_left ct_behind_left), sl_behind_left⟩)
    (c_behind_left : PySem.W.codeIn K cd_behind_left "behind_left" = true)
    (k_behind_left : PySem.W.keepIn K (.ref f_behind_left) = true)
    (a_pair_holds : PySem.W.nsIn K mainGlobals "pair_holds" = some (some (.ref f_pair_holds)))
    (l_pair_holds : K.lookup f_pair_holds = some ⟨oc_pair_holds, od_pair_holds, .func (PySem.W.fnOf "pair_holds" "pair_holds" (defArgs s_pair_holds) (defBody s_pair_holds) (defScope s_pair_holds) .none kV_pair_holds dc_pair_holds pm_pair_holds an_pair_holds cd_pair_holds ct_pair_holds), sl_pair_holds⟩)
    (c_pair_holds : PySem.W.codeIn K cd_pair_holds "pair_holds" = true)
    (k_pair_holds : PySem.W.keepIn K (.ref f_pair_holds) = true)
    (a_law : PySem.W.nsIn K mainGlobals "law" = some (some (.ref f_law)))
    (l_law : K.lookup f_law = some ⟨oc_law, od_law, .func (PySem.W.fnOf "law" "law" (defArgs s_law) (defBody s_law) (defScope s_law) .none kV_law dc_law pm_law an_law cd_law ct_law), sl_law⟩)
    (c_law : PySem.W.codeIn K cd_law "law" = true)
    (k_law : PySem.W.keepIn K (.ref f_law) = true)
    : ∃ fd : FuncData, (∀ (s : Shared) (v : Value), BindsTo s fd ⟨[v], []⟩ [("script", v)]) ∧ ∀ base : Heap, K.In base → base.Ns mainGlobals mg → FnOk l.prog w K mg base CX0 40 fa fd ["script"] (sp_law_law K) := by
  have e := hfa.symm.trans (PySem.W.mg_of X G a_law)
  cases e
  let c : Cn := { P := l.prog, w := w, K := K, cGameError := aGameError, cNoGame := aNoGame, cBook := aBook }
  have T : Txt c mg := { n_abs := PySem.W.mg_none_of X G n_abs, n_bool := PySem.W.mg_none_of X G n_bool, n_enumerate := PySem.W.mg_none_of X G n_enumerate, n_int := PySem.W.mg_none_of X G n_int, n_isinstance := PySem.W.mg_none_of X G n_isinstance, n_len := PySem.W.mg_none_of X G n_len, n_list := PySem.W.mg_none_of X G n_list, n_max := PySem.W.mg_none_of X G n_max, n_range := PySem.W.mg_none_of X G n_range, n_set := PySem.W.mg_none_of X G n_set, n_sorted := PySem.W.mg_none_of X G n_sorted, n_tuple := PySem.W.mg_none_of X G n_tuple, g_GameError := PySem.W.mg_of X G a_GameError, g_NoGame := PySem.W.mg_of X G a_NoGame, g_Book := PySem.W.mg_of X G a_Book, cl_Book := ⟨pg_Book, hd_Book, po_Book, sa_Book⟩, na_Book_depths := na_Book_depths, na_Book_moves := na_Book_moves, na_Book_numbers := na_Book_numbers, F_Book_need := ⟨_, _, fun_mk (st := s_Book_need) l_Book_need c_Book_need k_Book_need, ⟨a_Book_need, i_Book_need, k_Book_need⟩, ((fun_mk (st := s_Book_need) l_Book_need c_Book_need k_Book_need).binds (ps := ["self", "g"]) fun _ _ _ _ _ _ us hl => match us, hl with | [_, _], _ => rfl)⟩, F_Book_game := ⟨_, _, fun_mk (st := s_Book_game) l_Book_game c_Book_game k_Book_game, ⟨a_Book_game, i_Book_game, k_Book_game⟩, ((fun_mk (st := s_Book_game) l_Book_game c_Book_game k_Book_game).binds (ps := ["self", "lefts", "rights"]) fun _ _ _ _ _ _ us hl => match us, hl with | [_, _, _], _ => rfl)⟩, F_Book_init := ⟨_, _, fun_mk (st := s_Book_init) l_Book_init c_Book_init k_Book_init, ⟨mk_Book, a_Book_init, i_Book_init, kc_Book⟩, ((fun_mk (st := s_Book_init) l_Book_init c_Book_init k_Book_init).binds (ps := ["self"]) fun _ _ _ _ _ _ us hl => match us, hl with | [_], _ => rfl)⟩, F_Book_many := ⟨_, _, fun_mk (st := s_Book_many) l_Book_many c_Book_many k_Book_many, ⟨a_Book_many, i_Book_many, k_Book_many⟩, ((fun_mk (st := s_Book_many) l_Book_many c_Book_many k_Book_many).binds (ps := ["self"]) fun _ _ _ _ _ _ us hl => match us, hl with | [_], _ => rfl)⟩, F_Book_depth := ⟨_, _, fun_mk (st := s_Book_depth) l_Book_depth c_Book_depth k_Book_depth, ⟨a_Book_depth, i_Book_depth, k_Book_depth⟩, ((fun_mk (st := s_Book_depth) l_Book_depth c_Book_depth k_Book_depth).binds (ps := ["self", "g"]) fun _ _ _ _ _ _ us hl => match us, hl with | [_, _], _ => rfl)⟩, F_Book_lefts := ⟨_, _, fun_mk (st := s_Book_lefts) l_Book_lefts c_Book_lefts k_Book_lefts, ⟨a_Book_lefts, i_Book_lefts, k_Book_lefts⟩, ((fun_mk (st := s_Book_lefts) l_Book_lefts c_Book_lefts k_Book_lefts).binds (ps := ["self", "g"]) fun _ _ _ _ _ _ us hl => match us, hl with | [_, _], _ => rfl)⟩, F_Book_rights := ⟨_, _, fun_mk (st := s_Book_rights) l_Book_rights c_Book_rights k_Book_rights, ⟨a_Book_rights, i_Book_rights, k_Book_rights⟩, ((fun_mk (st := s_Book_rights) l_Book_rights c_Book_rights k_Book_rights).binds (ps := ["self", "g"]) fun _ _ _ _ _ _ us hl => match us, hl with | [_, _], _ => rfl)⟩, F_reached := ⟨_, _, fun_mk (st := s_reached) l_reached c_reached k_reached, PySem.W.mg_of X G a_reached, ((fun_mk (st := s_reached) l_reached c_reached k_reached).binds (ps := ["book", "g"]) fun _ _ _ _ _ _ us hl => match us, hl with | [_, _], _ => rfl)⟩, F_moves_by := ⟨_, _, fun_mk (st := s_moves_by) l_moves_by c_moves_by k_moves_by, PySem.W.mg_of X G a_moves_by, ((fun_mk (st := s_moves_by) l_moves_by c_moves_by k_moves_by).binds (ps := ["book", "games"]) fun _ _ _ _ _ _ us hl => match us, hl with | [_, _], _ => rfl)⟩, F_pairs_by := ⟨_, _, fun_mk (st := s_pairs_by) l_pairs_by c_pairs_by k_pairs_by, PySem.W.mg_of X G a_pairs_by, ((fun_mk (st := s_pairs_by) l_pairs_by c_pairs_by k_pairs_by).binds (ps := ["book", "g", "h"]) fun _ _ _ _ _ _ us hl => match us, hl with | [_, _, _], _ => rfl)⟩, F_pairs_right := ⟨_, _, fun_mk (st := s_pairs_right) l_pairs_right c_pairs_right k_pairs_right, PySem.W.mg_of X G a_pairs_right, ((fun_mk (st := s_pairs_right) l_pairs_right c_pairs_right k_pairs_right).binds (ps := ["moves", "r", "x", "y"]) fun _ _ _ _ _ _ us hl => match us, hl with | [_, _, _, _], _ => rfl)⟩, F_pairs_left := ⟨_, _, fun_mk (st := s_pairs_left) l_pairs_left c_pairs_left k_pairs_left, PySem.W.mg_of X G a_pairs_left, ((fun_mk (st := s_pairs_left) l_pairs_left c_pairs_left k_pairs_left).binds (ps := ["moves", "p", "x", "y"]) fun _ _ _ _ _ _ us hl => match us, hl with | [_, _, _, _], _ => rfl)⟩, F_holding := ⟨_, _, fun_mk (st := s_holding) l_holding c_holding k_holding, PySem.W.mg_of X G a_holding, ((fun_mk (st := s_holding) l_holding c_holding k_holding).binds (ps := ["moves", "known", "x", "y"]) fun _ _ _ _ _ _ us hl => match us, hl with | [_, _, _, _], _ => rfl)⟩, F_barring := ⟨_, _, fun_mk (st := s_barring) l_barring c_barring k_barring, PySem.W.mg_of X G a_barring, ((fun_mk (st := s_barring) l_barring c_barring k_barring).binds (ps := ["moves", "known", "x", "y"]) fun _ _ _ _ _ _ us hl => match us, hl with | [_, _, _, _], _ => rfl)⟩, F_paper := ⟨_, _, fun_mk (st := s_paper) l_paper c_paper k_paper, PySem.W.mg_of X G a_paper, ((fun_mk (st := s_paper) l_paper c_paper k_paper).binds (ps := ["book", "g", "h"]) fun _ _ _ _ _ _ us hl => match us, hl with | [_, _, _], _ => rfl)⟩, F_all_in := ⟨_, _, fun_mk (st := s_all_in) l_all_in c_all_in k_all_in, PySem.W.mg_of X G a_all_in, ((fun_mk (st := s_all_in) l_all_in c_all_in k_all_in).binds (ps := ["pairs", "listed"]) fun _ _ _ _ _ _ us hl => match us, hl with | [_, _], _ => rfl)⟩, F_pair_bars := ⟨_, _, fun_mk (st := s_pair_bars) l_pair_bars c_pair_bars k_pair_bars, PySem.W.mg_of X G a_pair_bars, ((fun_mk (st := s_pair_bars) l_pair_bars c_pair_bars k_pair_bars).binds (ps := ["moves", "listed", "x", "y"]) fun _ _ _ _ _ _ us hl => match us, hl with | [_, _, _, _], _ => rfl)⟩, F_is_game := ⟨_, _, fun_mk (st := s_is_game) l_is_game c_is_game k_is_game, PySem.W.mg_of X G a_is_game, ((fun_mk (st := s_is_game) l_is_game c_is_game k_is_game).binds (ps := ["book", "number"]) fun _ _ _ _ _ _ us hl => match us, hl with | [_, _], _ => rfl)⟩, F_moves_around := ⟨_, _, fun_mk (st := s_moves_around) l_moves_around c_moves_around k_moves_around, PySem.W.mg_of X G a_moves_around, ((fun_mk (st := s_moves_around) l_moves_around c_moves_around k_moves_around).binds (ps := ["book", "listed"]) fun _ _ _ _ _ _ us hl => match us, hl with | [_, _], _ => rfl)⟩, F_shows := ⟨_, _, fun_mk (st := s_shows) l_shows c_shows k_shows, PySem.W.mg_of X G a_shows, ((fun_mk (st := s_shows) l_shows c_shows k_shows).binds (ps := ["book", "g", "h", "answer"]) fun _ _ _ _ _ _ us hl => match us, hl with | [_, _, _, _], _ => rfl)⟩, F_no_less := ⟨_, _, fun_mk (st := s_no_less) l_no_less c_no_less k_no_less, PySem.W.mg_of X G a_no_less, ((fun_mk (st := s_no_less) l_no_less c_no_less k_no_less).binds (ps := ["book", "g", "h"]) fun _ _ _ _ _ _ us hl => match us, hl with | [_, _, _], _ => rfl)⟩, F_law_true := ⟨_, _, fun_mk (st := s_law_true) l_law_true c_law_true k_law_true, PySem.W.mg_of X G a_law_true, ((fun_mk (st := s_law_true) l_law_true c_law_true k_law_true).binds (ps := ["book", "answer"]) fun _ _ _ _ _ _ us hl => match us, hl with | [_, _], _ => rfl)⟩, F_law_lists := ⟨_, _, fun_mk (st := s_law_lists) l_law_lists c_law_lists k_law_lists, PySem.W.mg_of X G a_law_lists, ((fun_mk (st := s_law_lists) l_law_lists c_law_lists k_law_lists).binds (ps := ["d", "order", "one"]) fun _ _ _ _ _ _ us hl => match us, hl with | [_, _, _], _ => rfl)⟩, F_law_draws := ⟨_, _, fun_mk (st := s_law_draws) l_law_draws c_law_draws k_law_draws, PySem.W.mg_of X G a_law_draws, ((fun_mk (st := s_law_draws) l_law_draws c_law_draws k_law_draws).binds (ps := ["script", "many"]) fun _ _ _ _ _ _ us hl => match us, hl with | [_, _], _ => rfl)⟩, F_law_picked := ⟨_, _, fun_mk (st := s_law_picked) l_law_picked c_law_picked k_law_picked, PySem.W.mg_of X G a_law_picked, ((fun_mk (st := s_law_picked) l_law_picked c_law_picked k_law_picked).binds (ps := ["x", "order"]) fun _ _ _ _ _ _ us hl => match us, hl with | [_, _], _ => rfl)⟩, F_law_games := ⟨_, _, fun_mk (st := s_law_games) l_law_games c_law_games k_law_games, PySem.W.mg_of X G a_law_games, ((fun_mk (st := s_law_games) l_law_games c_law_games k_law_games).binds (ps := ["book", "d", "spot", "many"]) fun _ _ _ _ _ _ us hl => match us, hl with | [_, _, _, _], _ => rfl)⟩, F_behind_right := ⟨_, _, fun_mk (st := s_behind_right) l_behind_right c_behind_right k_behind_right, PySem.W.mg_of X G a_behind_right, ((fun_mk (st := s_behind_right) l_behind_right c_behind_right k_behind_right).binds (ps := ["moves", "known", "r", "y"]) fun _ _ _ _ _ _ us hl => match us, hl with | [_, _, _, _], _ => rfl)⟩, F_behind_left := ⟨_, _, fun_mk (st := s_behind_left) l_behind_left c_behind_left k_behind_left, PySem.W.mg_of X G a_behind_left, ((fun_mk (st := s_behind_left) l_behind_left c_behind_left k_behind_left).binds (ps := ["moves", "known", "x", "p"]) fun _ _ _ _ _ _ us hl => match us, hl with | [_, _, _, _], _ => rfl)⟩, F_pair_holds := ⟨_, _, fun_mk (st := s_pair_holds) l_pair_holds c_pair_holds k_pair_holds, PySem.W.mg_of X G a_pair_holds, ((fun_mk (st := s_pair_holds) l_pair_holds c_pair_holds k_pair_holds).binds (ps := ["moves", "known", "x", "y"]) fun _ _ _ _ _ _ us hl => match us, hl with | [_, _, _, _], _ => rfl)⟩ }
  exact ⟨_, fun s v => .of_eq rfl, fun base _ _ => ok_law T (fun_mk (st := s_law) l_law c_law k_law)⟩
theorem walk {l : PySem.W.OpenLaw} {q : Program} {loose : List Str} {XP : (Str → Option Value) → Heap → Prop} {YP : World → Heap → Prop} {d : DefRec} {K : Params → PySem.W.Frag} (hn : l.most = some 63) (hdf : d.params.defaults = [])
    (hY : ∀ (w : World) (h : Heap), YP w h → (K w.params).In h)
    (F : ∀ (w : World) (mg : Str → Option Value) (fa : Addr) (h : Heap), (K w.params).In h → h.Ns mainGlobals mg → mg d.name = some (.ref fa) →
      ∃ fd : FuncData, (∀ (s : Shared) (u : Value), BindsTo s fd ⟨[u], []⟩ [("script", u)]) ∧ ∀ base : Heap, (K w.params).In base → base.Ns mainGlobals mg → FnOk l.prog w (K w.params) mg base CX0 40 fa fd ["script"] (sp_law_law (K w.params))) :
    PySem.W.WalkO q loose XP YP l.row.toRowW d [] (fun f vs => PySem.call f vs) :=
  L2.walk_of (n := 63) (k := 40) (x := "script") (CX := fun _ => CX0) (sp := fun w => sp_law_law (K w.params)) hn (by decide) hdf ⟨rfl, by decide, by decide⟩ hY F (fun _ H a ns hl _ hS => ⟨rfl, a, ns, rfl, hS, hl, fun _ => rfl⟩) fun _ _ _ _ _ z => z
end Hm

open PySem PySem.W PyProof.Rows in
set_option maxRecDepth 100000 in
set_option maxHeartbeats 0 in
theorem PySem.Challenge.cw_hotmoves_k18_whole_no_paper_lies_holds : PySem.Challenge.rw_hotmoves_k18_whole_no_paper_lies.Holds := by
  w_on; o_law; k_head; (case hw => w_witness2)
  k_fill
  refine Hm.walk (l := PySem.Challenge.rw_hotmoves_k18_whole_no_paper_lies) rfl rfl (fun w h Y => PySem.W.kIn_of Y) ?F
  case F =>
    intro w mg fa h KX G hmg
    refine' Hm.all_mk KX G hmg ?a_GameError ?a_NoGame ?a_Book ?pg_Book ?hd_Book ?po_Book ?sa_Book ?mk_Book ?kc_Book ?na_Book_depths ?na_Book_moves ?na_Book_numbers ?n_abs ?n_bool ?n_enumerate ?n_int ?n_isinstance ?n_len ?n_list ?n_max ?n_range ?n_set ?n_sorted ?n_tuple ?a_Book_need ?i_Book_need ?l_Book_need ?c_Book_need ?k_Book_need ?a_Book_game ?i_Book_game ?l_Book_game ?c_Book_game ?k_Book_game ?a_Book_init ?i_Book_init ?l_Book_init ?c_Book_init ?k_Book_init ?a_Book_many ?i_Book_many ?l_Book_many ?c_Book_many ?k_Book_many ?a_Book_depth ?i_Book_depth ?l_Book_depth ?c_Book_depth ?k_Book_depth ?a_Book_lefts ?i_Book_lefts ?l_Book_lefts ?c_Book_lefts ?k_Book_lefts ?a_Book_rights ?i_Book_rights ?l_Book_rights ?c_Book_rights ?k_Book_rights ?a_reached ?l_reached ?c_reached ?k_reached ?a_moves_by ?l_moves_by ?c_moves_by ?k_moves_by ?a_pairs_by ?l_pairs_by ?c_pairs_by ?k_pairs_by ?a_pairs_right ?l_pairs_right ?c_pairs_right ?k_pairs_right ?a_pairs_left ?l_pairs_left ?c_pairs_left ?k_pairs_left ?a_holding ?l_holding ?c_holding ?k_holding ?a_barring ?l_barring ?c_barring ?k_barring ?a_paper ?l_paper ?c_paper ?k_paper ?a_all_in ?l_all_in ?c_all_in ?k_all_in ?a_pair_bars ?l_pair_bars ?c_pair_bars ?k_pair_bars ?a_is_game ?l_is_game ?c_is_game ?k_is_game ?a_moves_around ?l_moves_around ?c_moves_around ?k_moves_around ?a_shows ?l_shows ?c_shows ?k_shows ?a_no_less ?l_no_less ?c_no_less ?k_no_less ?a_law_true ?l_law_true ?c_law_true ?k_law_true ?a_law_lists ?l_law_lists ?c_law_lists ?k_law_lists ?a_law_draws ?l_law_draws ?c_law_draws ?k_law_draws ?a_law_picked ?l_law_picked ?c_law_picked ?k_law_picked ?a_law_games ?l_law_games ?c_law_games ?k_law_games ?a_behind_right ?l_behind_right ?c_behind_right ?k_behind_right ?a_behind_left ?l_behind_left ?c_behind_left ?k_behind_left ?a_pair_holds ?l_pair_holds ?c_pair_holds ?k_pair_holds ?a_law ?l_law ?c_law ?k_law
    (case a_GameError => k_is)
    (case a_NoGame => k_is)
    (case a_Book => k_is)
    (case pg_Book => k_is)
    (case hd_Book => k_is)
    (case po_Book => k_is)
    (case sa_Book => k_is)
    (case mk_Book => k_is)
    (case kc_Book => k_is)
    (case na_Book_depths => k_is)
    (case na_Book_moves => k_is)
    (case na_Book_numbers => k_is)
    (case n_abs => k_is)
    (case n_bool => k_is)
    (case n_enumerate => k_is)
    (case n_int => k_is)
    (case n_isinstance => k_is)
    (case n_len => k_is)
    (case n_list => k_is)
    (case n_max => k_is)
    (case n_range => k_is)
    (case n_set => k_is)
    (case n_sorted => k_is)
    (case n_tuple => k_is)
    (case a_Book_need => k_is)
    (case i_Book_need => k_is)
    (case l_Book_need => k_is)
    (case c_Book_need => k_is)
    (case k_Book_need => k_is)
    (case a_Book_game => k_is)
    (case i_Book_game => k_is)
    (case l_Book_game => k_is)
    (case c_Book_game => k_is)
    (case k_Book_game => k_is)
    (case a_Book_init => k_is)
    (case i_Book_init => k_is)
    (case l_Book_init => k_is)
    (case c_Book_init => k_is)
    (case k_Book_init => k_is)
    (case a_Book_many => k_is)
    (case i_Book_many => k_is)
    (case l_Book_many => k_is)
    (case c_Book_many => k_is)
    (case k_Book_many => k_is)
    (case a_Book_depth => k_is)
    (case i_Book_depth => k_is)
    (case l_Book_depth => k_is)
    (case c_Book_depth => k_is)
    (case k_Book_depth => k_is)
    (case a_Book_lefts => k_is)
    (case i_Book_lefts => k_is)
    (case l_Book_lefts => k_is)
    (case c_Book_lefts => k_is)
    (case k_Book_lefts => k_is)
    (case a_Book_rights => k_is)
    (case i_Book_rights => k_is)
    (case l_Book_rights => k_is)
    (case c_Book_rights => k_is)
    (case k_Book_rights => k_is)
    (case a_reached => k_is)
    (case l_reached => k_is)
    (case c_reached => k_is)
    (case k_reached => k_is)
    (case a_moves_by => k_is)
    (case l_moves_by => k_is)
    (case c_moves_by => k_is)
    (case k_moves_by => k_is)
    (case a_pairs_by => k_is)
    (case l_pairs_by => k_is)
    (case c_pairs_by => k_is)
    (case k_pairs_by => k_is)
    (case a_pairs_right => k_is)
    (case l_pairs_right => k_is)
    (case c_pairs_right => k_is)
    (case k_pairs_right => k_is)
    (case a_pairs_left => k_is)
    (case l_pairs_left => k_is)
    (case c_pairs_left => k_is)
    (case k_pairs_left => k_is)
    (case a_holding => k_is)
    (case l_holding => k_is)
    (case c_holding => k_is)
    (case k_holding => k_is)
    (case a_barring => k_is)
    (case l_barring => k_is)
    (case c_barring => k_is)
    (case k_barring => k_is)
    (case a_paper => k_is)
    (case l_paper => k_is)
    (case c_paper => k_is)
    (case k_paper => k_is)
    (case a_all_in => k_is)
    (case l_all_in => k_is)
    (case c_all_in => k_is)
    (case k_all_in => k_is)
    (case a_pair_bars => k_is)
    (case l_pair_bars => k_is)
    (case c_pair_bars => k_is)
    (case k_pair_bars => k_is)
    (case a_is_game => k_is)
    (case l_is_game => k_is)
    (case c_is_game => k_is)
    (case k_is_game => k_is)
    (case a_moves_around => k_is)
    (case l_moves_around => k_is)
    (case c_moves_around => k_is)
    (case k_moves_around => k_is)
    (case a_shows => k_is)
    (case l_shows => k_is)
    (case c_shows => k_is)
    (case k_shows => k_is)
    (case a_no_less => k_is)
    (case l_no_less => k_is)
    (case c_no_less => k_is)
    (case k_no_less => k_is)
    (case a_law_true => k_is)
    (case l_law_true => k_is)
    (case c_law_true => k_is)
    (case k_law_true => k_is)
    (case a_law_lists => k_is)
    (case l_law_lists => k_is)
    (case c_law_lists => k_is)
    (case k_law_lists => k_is)
    (case a_law_draws => k_is)
    (case l_law_draws => k_is)
    (case c_law_draws => k_is)
    (case k_law_draws => k_is)
    (case a_law_picked => k_is)
    (case l_law_picked => k_is)
    (case c_law_picked => k_is)
    (case k_law_picked => k_is)
    (case a_law_games => k_is)
    (case l_law_games => k_is)
    (case c_law_games => k_is)
    (case k_law_games => k_is)
    (case a_behind_right => k_is)
    (case l_behind_right => k_is)
    (case c_behind_right => k_is)
    (case k_behind_right => k_is)
    (case a_behind_left => k_is)
    (case l_behind_left => k_is)
    (case c_behind_left => k_is)
    (case k_behind_left => k_is)
    (case a_pair_holds => k_is)
    (case l_pair_holds => k_is)
    (case c_pair_holds => k_is)
    (case k_pair_holds => k_is)
    (case a_law => k_is)
    (case l_law => k_is)
    (case c_law => k_is)
    (case k_law => k_is)
